import PyProof.Rows.All
import Wide.All
import OpenK.AllK
import Wide.FinOn
import KE.KStateDown
import HandS.ForMost
import HandS.ForExc
import HandS.TryMany
import HandS.ExcInit
import HandS.ExcField
import HandS.Defaults
import HandS.Deep
import HandS.IsInst
import HandS.Conv
import HandS.TupAny
import HandS.Flow
import HandS.TryElse
import HandS.Head0
import HandS.Head1
import HandS.Head2
import HandS.HeadEnd
import HandS.HeadHook1
import HandS.HeadHook2
import HandS.HeadHook3
import HandS.HeadHook4
import HandS.Dict
import HandS.Iter
import KE.GoesMore
import KE.GoesEnum
import HandS.Style
import HandS.Head3
import PySem.Challenge.RW_heldbacktext_k00_holds_said
import HandS.HeadWalk
import HandS.Ends
set_option Elab.async false
set_option linter.all false
set_option maxRecDepth 100000
set_option maxHeartbeats 1000000
/-! A small evaluator over plain data, and what it says of the machine. Part A: data, stores, how they lie in the abstract heap. -/
namespace Hb
open PySem PySem.Spec L2

/-- data: trees that nobody changes, and `ref l`, the l-th object of the store -/
inductive D where
  | non | bl (b : Bool) | int (i : Int) | str (x : Str)
  | tup (xs : List D) | lst (xs : List D) | dic (ks : List Key) (xs : List D)
  | ref (l : Nat) | ins (c : Nat) (fs : List (Str × D)) | scr (xs : List D)

mutual
def D.pd : D → PyData
  | .non => .none
  | .bl b => .bool b
  | .int i => .int i
  | .str x => .str x
  | .tup xs => .tuple (D.pds xs)
  | .lst xs => .list (D.pds xs)
  | .dic _ _ => .dict []
  | .ref _ => .dict []
  | .ins _ _ => .dict []
  | .scr _ => .dict []
def D.pds : List D → List PyData
  | [] => []
  | x :: r => D.pd x :: D.pds r
end
theorem D.pds_map : ∀ xs : List D, D.pds xs = xs.map D.pd
  | [] => rfl
  | x :: r => by rw [D.pds, D.pds_map r]; rfl

/-- what a store holds -/
inductive SO where
  | lst (xs : List D) | dic (ks : List Key) (xs : List D) | ins (c : Nat) (fs : List (Str × D))
/-- the store: its objects; from which place on they are of the def that runs -/
structure Sto where
  bs : List Nat
  o : List SO
def Sto.b (st : Sto) : Nat := st.bs.headD 0
def Sto.add (st : Sto) (x : SO) : Sto := ⟨st.bs, st.o ++ [x]⟩
def Sto.put (st : Sto) (l : Nat) (x : SO) : Sto := ⟨st.bs, st.o.set l x⟩
mutual
/-- all its places are below n -/
def D.bel (n : Nat) : D → Bool
  | .ref l => l < n
  | .tup xs => D.bels n xs
  | .lst xs => D.bels n xs
  | .non => true
  | .bl _ => true
  | .int _ => true
  | .str _ => true
  | .dic _ xs => D.bels n xs
  | .ins _ _ => false
  | .scr xs => D.bels n xs
def D.bels (n : Nat) : List D → Bool
  | [] => true
  | x :: r => D.bel n x && D.bels n r
end
def SO.bel (n : Nat) : SO → Bool
  | .lst xs => D.bels n xs
  | .dic _ xs => D.bels n xs
  | _ => false
abbrev Sl := List (Option D)

/-! ### how data lies in the abstract heap: ω: addresses that are hidden for now; ρ: where the store's objects lie -/
mutual
inductive Rp (K : PySem.W.Frag) (ω ρ : List Addr) (H : Hp) : V → D → Prop
  | non : Rp K ω ρ H .non .non
  | bl (b : Bool) : Rp K ω ρ H (.bl b) (.bl b)
  | int (i : Int) : Rp K ω ρ H (.int i) (.int i)
  | str (x : Str) : Rp K ω ρ H (.str x) (.str x)
  | tup {a : Addr} {vs : List V} {ds : List D} : Rd H a (.tup vs) → a ∉ ρ → a ∉ ω → RpL K ω ρ H vs ds → Rp K ω ρ H (.ref a) (.tup ds)
  | tupK {a : Addr} {vs : List V} {ds : List D} : (∀ H', SqT K H' a vs) → RpL K ω ρ H vs ds → Rp K ω ρ H (.ref a) (.tup ds)
  | lst {a : Addr} {vs : List V} {ds : List D} : H a = some (.lst vs) → a ∉ ρ → a ∉ ω → RpL K ω ρ H vs ds → Rp K ω ρ H (.ref a) (.lst ds)
  | scr {a : Addr} {vs : List V} {ds : List D} {ob : Obj} : H a = some (.frz ob (.lst vs)) → a ∉ ρ → a ∉ ω → RpL K ω ρ H vs ds → Rp K ω ρ H (.ref a) (.scr ds)
  | dic {a : Addr} {ks : List Key} {vs : List V} {ds : List D} : H a = some (.dK (ks.zip vs)) → ks.length = vs.length → a ∉ ρ → a ∉ ω → RpL K ω ρ H vs ds → Rp K ω ρ H (.ref a) (.dic ks ds)
  | scrK {a : Addr} {vs : List V} {ds : List D} : (∀ H', SqL K H' a vs) → RpL K ω ρ H vs ds → Rp K ω ρ H (.ref a) (.scr ds)
  | ref {a : Addr} {l : Nat} : ρ[l]? = some a → Rp K ω ρ H (.ref a) (.ref l)
inductive RpL (K : PySem.W.Frag) (ω ρ : List Addr) (H : Hp) : List V → List D → Prop
  | nil : RpL K ω ρ H [] []
  | cons {v : V} {vs : List V} {d : D} {ds : List D} : Rp K ω ρ H v d → RpL K ω ρ H vs ds → RpL K ω ρ H (v :: vs) (d :: ds)
end

section
variable {K : PySem.W.Frag} {ω ρ ρ' ρ'' : List Addr} {H H' H'' : Hp}
theorem RpL.length : ∀ {vs : List V} {ds : List D}, RpL K ω ρ H vs ds → vs.length = ds.length
  | _, _, .nil => rfl
  | _, _, .cons _ t => congrArg (· + 1) (RpL.length t)
theorem RpL.get : ∀ {vs : List V} {ds : List D} {i : Nat} {d : D}, RpL K ω ρ H vs ds → ds[i]? = some d → ∃ v, vs[i]? = some v ∧ Rp K ω ρ H v d
  | _, _, _, _, .nil, e => by simp at e
  | _, _, 0, _, .cons r _, e => by simp at e; subst e; exact ⟨_, rfl, r⟩
  | _, _, i + 1, d, .cons _ t, e => by
    obtain ⟨v, h1, h2⟩ := RpL.get (i := i) (d := d) t (by simpa using e)
    exact ⟨v, by simpa using h1, h2⟩
theorem RpL.getV : ∀ {vs : List V} {ds : List D} {i : Nat} {v : V}, RpL K ω ρ H vs ds → vs[i]? = some v → ∃ d, ds[i]? = some d ∧ Rp K ω ρ H v d
  | _, _, _, _, .nil, e => by simp at e
  | _, _, 0, _, .cons r _, e => by simp at e; subst e; exact ⟨_, rfl, r⟩
  | _, _, i + 1, d, .cons _ t, e => by
    obtain ⟨v, h1, h2⟩ := RpL.getV (i := i) (v := d) t (by simpa using e)
    exact ⟨v, by simpa using h1, h2⟩
theorem RpL.append : ∀ {vs ws : List V} {ds es : List D}, RpL K ω ρ H vs ds → RpL K ω ρ H ws es → RpL K ω ρ H (vs ++ ws) (ds ++ es)
  | _, _, _, _, .nil, s => s
  | _, _, _, _, .cons r t, s => .cons r (RpL.append t s)
theorem RpL.take : ∀ {vs : List V} {ds : List D} (n : Nat), RpL K ω ρ H vs ds → RpL K ω ρ H (vs.take n) (ds.take n)
  | _, _, 0, _ => by simp; exact .nil
  | _, _, _ + 1, .nil => by simp; exact .nil
  | _, _, n + 1, .cons r t => .cons r (RpL.take n t)
theorem RpL.drop : ∀ {vs : List V} {ds : List D} (n : Nat), RpL K ω ρ H vs ds → RpL K ω ρ H (vs.drop n) (ds.drop n)
  | _, _, 0, r => r
  | _, _, _ + 1, .nil => by simp; exact .nil
  | _, _, n + 1, .cons _ t => RpL.drop n t
theorem RpL.set {v : V} {d : D} (r : Rp K ω ρ H v d) : ∀ {vs : List V} {ds : List D} (i : Nat), RpL K ω ρ H vs ds → RpL K ω ρ H (vs.set i v) (ds.set i d)
  | _, _, _, .nil => .nil
  | _, _, 0, .cons _ t => .cons r t
  | _, _, i + 1, .cons q t => .cons q (RpL.set r i t)
theorem RpL.reverse : ∀ {vs : List V} {ds : List D}, RpL K ω ρ H vs ds → RpL K ω ρ H vs.reverse ds.reverse
  | _, _, .nil => .nil
  | _, _, .cons r t => by
    rw [List.reverse_cons, List.reverse_cons]
    exact (RpL.reverse t).append (.cons r .nil)

/-- what a step keeps: frozen things stay, hidden ones stay as they are, what is tracked stays tracked, the store's addresses grow by new ones -/
structure Ext (ω ρ : List Addr) (H : Hp) (ρ' : List Addr) (H' : Hp) : Prop where
  keep : ∀ a o, H a = some o → a ∉ ρ → a ∉ ω → H' a = some o
  hid : ∀ a ∈ ω, H' a = H a
  live : ∀ a, H' a = none → H a = none
  grow : ∃ τ, ρ' = ρ ++ τ ∧ ∀ a ∈ τ, H a = none
theorem Ext.refl : Ext ω ρ H ρ H := ⟨fun _ _ h _ _ => h, fun _ _ => rfl, fun _ h => h, [], by simp, fun _ z => absurd z (by simp)⟩
theorem Ext.rd (e : Ext ω ρ H ρ' H') {a : Addr} {u : HO} (r : Rd H a u) (h1 : a ∉ ρ) (h2 : a ∉ ω) : Rd H' a u ∧ a ∉ ρ' := by
  obtain ⟨τ, rfl, n⟩ := e.grow
  refine ⟨?_, fun z => ?_⟩
  · rcases r with r | ⟨o, r⟩
    · exact .inl (e.keep _ _ r h1 h2)
    · exact .inr ⟨o, e.keep _ _ r h1 h2⟩
  · rcases List.mem_append.mp z with z | z
    · exact h1 z
    · have q := n a z
      rcases r with r | ⟨o, r⟩ <;> (rw [q] at r; cases r)
theorem Ext.at (e : Ext ω ρ H ρ' H') {l : Nat} {a : Addr} (h : ρ[l]? = some a) : ρ'[l]? = some a := by
  obtain ⟨τ, rfl, _⟩ := e.grow
  rw [List.getElem?_append_left (List.getElem?_eq_some_iff.mp h).1]
  exact h
theorem Ext.trans (e : Ext ω ρ H ρ' H') (f : Ext ω ρ' H' ρ'' H'') : Ext ω ρ H ρ'' H'' := by
  obtain ⟨τ, rfl, n⟩ := id e.grow
  obtain ⟨τ', rfl, n'⟩ := id f.grow
  refine ⟨fun a o h h1 h2 => ?_, fun a h => (f.hid a h).trans (e.hid a h), fun a h => e.live a (f.live a h), τ ++ τ', by simp, fun a h => ?_⟩
  · refine f.keep a o (e.keep a o h h1 h2) (fun z => ?_) h2
    rcases List.mem_append.mp z with z | z
    · exact h1 z
    · rw [n a z] at h; cases h
  · rcases List.mem_append.mp h with z | z
    · exact n a z
    · exact e.live a (n' a z)
mutual
theorem Rp.ext (e : Ext ω ρ H ρ' H') : ∀ {v : V} {d : D}, Rp K ω ρ H v d → Rp K ω ρ' H' v d
  | _, _, .non => .non
  | _, _, .bl b => .bl b
  | _, _, .int i => .int i
  | _, _, .str x => .str x
  | _, _, .tup r h1 h2 t => .tup (e.rd r h1 h2).1 (e.rd r h1 h2).2 h2 (RpL.ext e t)
  | _, _, .tupK r t => .tupK r (RpL.ext e t)
  | _, _, .lst r h1 h2 t => .lst (e.keep _ _ r h1 h2) (e.rd (.inl r) h1 h2).2 h2 (RpL.ext e t)
  | _, _, .scr r h1 h2 t => .scr (e.keep _ _ r h1 h2) (e.rd (.inl r) h1 h2).2 h2 (RpL.ext e t)
  | _, _, .dic r l h1 h2 t => .dic (e.keep _ _ r h1 h2) l (e.rd (.inl r) h1 h2).2 h2 (RpL.ext e t)
  | _, _, .scrK r t => .scrK r (RpL.ext e t)
  | _, _, .ref h => .ref (e.at h)
theorem RpL.ext (e : Ext ω ρ H ρ' H') : ∀ {vs : List V} {ds : List D}, RpL K ω ρ H vs ds → RpL K ω ρ' H' vs ds
  | _, _, .nil => .nil
  | _, _, .cons r t => .cons (Rp.ext e r) (RpL.ext e t)
end
theorem SqT.rd {a : Addr} {vs : List V} (h : Rd H a (.tup vs)) : SqT K H a vs := .inl h
theorem SqL.rd {a : Addr} {vs : List V} (h : Rd H a (.lst vs)) : SqL K H a vs := .inl h
/-- a tuple of data is read -/
theorem Rp.sqT {v : V} {ds : List D} (r : Rp K ω ρ H v (.tup ds)) : ∃ a vs, v = .ref a ∧ SqT K H a vs ∧ RpL K ω ρ H vs ds := by
  cases r with
  | tup h _ _ t => exact ⟨_, _, rfl, .inl h, t⟩
  | tupK h t => exact ⟨_, _, rfl, h H, t⟩
theorem Rp.sqL {v : V} {ds : List D} (r : Rp K ω ρ H v (.lst ds)) : ∃ a vs, v = .ref a ∧ SqL K H a vs ∧ RpL K ω ρ H vs ds := by
  cases r with
  | lst h _ _ t => exact ⟨_, _, rfl, .of h, t⟩
mutual
theorem Rp.dp : ∀ {v : V} {d : D}, Rp K ω ρ H v d → (D.pd d).canLay0 = true → Dp K H v (D.pd d)
  | _, _, .non, _ => .non
  | _, _, .bl b, _ => .bl b
  | _, _, .int i, _ => .int i
  | _, _, .str x, _ => .str x
  | _, _, .tup r h1 h2 t, c => .tup (.inl r) (RpL.dp t (by simpa [D.pd, PyData.canLay0] using c))
  | _, _, .tupK r t, c => .tup (r H) (RpL.dp t (by simpa [D.pd, PyData.canLay0] using c))
  | _, _, .lst r h1 h2 t, c => .lst (.of r) (RpL.dp t (by simpa [D.pd, PyData.canLay0] using c))
  | _, _, .scr r h1 h2 t, c => by simp [D.pd, PyData.canLay0] at c
  | _, _, .scrK _ t, c => by simp [D.pd, PyData.canLay0] at c
  | _, _, .dic _ _ _ _ _, c => by simp [D.pd, PyData.canLay0] at c
  | _, _, .ref h, c => by simp [D.pd, PyData.canLay0] at c
theorem RpL.dp : ∀ {vs : List V} {ds : List D}, RpL K ω ρ H vs ds → PyData.canLayAll0 (D.pds ds) = true → DpAll K H vs (D.pds ds)
  | _, _, .nil, _ => .nil
  | _, _, .cons r t, c => by
    simp only [D.pds, PyData.canLayAll0, Bool.and_eq_true] at c
    exact .cons (Rp.dp r c.1) (RpL.dp t c.2)
end

/-! ### the store, the slots -/
/-- an object of the store at its address -/
inductive SoR (K : PySem.W.Frag) (ω ρ : List Addr) (H : Hp) (a : Addr) : SO → Prop
  | lst {vs : List V} {ds : List D} : H a = some (.lst vs) → RpL K ω ρ H vs ds → SoR K ω ρ H a (.lst ds)
  | dic {ks : List Key} {vs : List V} {ds : List D} : H a = some (.dK (ks.zip vs)) → ks.length = vs.length → RpL K ω ρ H vs ds → SoR K ω ρ H a (.dic ks ds)
structure StoR (K : PySem.W.Frag) (ω ρ : List Addr) (H : Hp) (st : Sto) : Prop where
  len : ρ.length = st.o.length
  bas : ∀ n ∈ st.bs, n ≤ st.b ∧ n ≤ st.o.length
  old : ∀ n ∈ st.bs, ∀ (l : Nat) (o : SO), l < n → st.o[l]? = some o → o.bel n = true
  nd : ρ.Nodup
  dj : ∀ a ∈ ρ, a ∉ ω
  tr : ∀ a, a ∈ ρ ∨ a ∈ ω → H a ≠ none
  obj : ∀ (l : Nat) (o : SO) (a : Addr), st.o[l]? = some o → ρ[l]? = some a → SoR K ω ρ H a o
structure SlotR (K : PySem.W.Frag) (ω ρ : List Addr) (H : Hp) (σ : St) (sl : Sl) : Prop where
  len : sl.length = σ.length
  at_ : ∀ (i : Nat) (d : D), sl[i]? = some (some d) → ∃ v, σ[i]? = some (some v) ∧ Rp K ω ρ H v d
theorem SlotR.ext {σ : St} {sl : Sl} (s : SlotR K ω ρ H σ sl) (e : Ext ω ρ H ρ' H') : SlotR K ω ρ' H' σ sl :=
  ⟨s.len, fun i d h => let ⟨v, h1, h2⟩ := s.at_ i d h; ⟨v, h1, h2.ext e⟩⟩
theorem SlotR.set {σ : St} {sl : Sl} (s : SlotR K ω ρ H σ sl) {i : Nat} {v : V} {d : D} (r : Rp K ω ρ H v d) : SlotR K ω ρ H (σ.set i (some v)) (sl.set i (some d)) := by
  refine ⟨by simp [s.len], fun j d' h => ?_⟩
  by_cases e : j = i
  · subst e
    by_cases hl : j < sl.length
    · rw [List.getElem?_set_self hl] at h
      have hd : d = d' := by simpa using h
      subst hd
      exact ⟨v, by rw [List.getElem?_set_self (by rw [← s.len]; exact hl)], r⟩
    · rw [List.getElem?_eq_none (by simpa using hl)] at h
      cases h
  · rw [List.getElem?_set_ne (Ne.symm e)] at h
    obtain ⟨v', h1, h2⟩ := s.at_ j d' h
    exact ⟨v', by rw [List.getElem?_set_ne (Ne.symm e)]; exact h1, h2⟩
theorem SlotR.clear {σ : St} {sl : Sl} (s : SlotR K ω ρ H σ sl) (i : Nat) : SlotR K ω ρ H (σ.set i none) (sl.set i none) := by
  refine ⟨by simp [s.len], fun j d' h => ?_⟩
  by_cases e : j = i
  · subst e
    by_cases hl : j < sl.length
    · rw [List.getElem?_set_self hl] at h
      cases h
    · rw [List.getElem?_eq_none (by simpa using hl)] at h
      cases h
  · rw [List.getElem?_set_ne (Ne.symm e)] at h
    obtain ⟨v', h1, h2⟩ := s.at_ j d' h
    exact ⟨v', by rw [List.getElem?_set_ne (Ne.symm e)]; exact h1, h2⟩
/-- a new object beside the store -/
theorem Ext.new {p : Addr} {o : HO} (hp : H p = none) (t : ∀ a, a ∈ ρ ∨ a ∈ ω → H a ≠ none) : Ext ω ρ H ρ (upd H p o) := by
  refine ⟨fun a u h _ _ => ?_, fun a h => ?_, fun a h => ?_, [], by simp, fun _ z => absurd z (by simp)⟩
  · rw [upd_ne (fun z => by rw [z, hp] at h; cases h)]; exact h
  · exact upd_ne fun z => t a (.inr h) (by rw [z]; exact hp)
  · by_cases z : a = p
    · rw [z]; exact hp
    · rw [upd_ne z] at h; exact h
theorem SoR.ext {a : Addr} {o : SO} (s : SoR K ω ρ H a o) (e : Ext ω ρ H ρ' H') (h : H' a = H a) : SoR K ω ρ' H' a o := by
  cases s with
  | lst h1 t => exact .lst (h.trans h1) (t.ext e)
  | dic h1 l t => exact .dic (h.trans h1) l (t.ext e)
theorem StoR.new {st : Sto} (s : StoR K ω ρ H st) {p : Addr} {o : HO} (hp : H p = none) : StoR K ω ρ (upd H p o) st := by
  have e : Ext ω ρ H ρ (upd H p o) := Ext.new hp s.tr
  refine ⟨s.len, s.bas, s.old, s.nd, s.dj, fun a h z => s.tr a h (e.live a z), fun l o' a h1 h2 => ?_⟩
  refine (s.obj l o' a h1 h2).ext e (upd_ne fun z => ?_)
  exact s.tr a (.inl (List.mem_of_getElem? h2)) (by rw [z]; exact hp)
/-- a new object of the store -/
theorem Ext.push {p : Addr} {o : HO} (hp : H p = none) (t : ∀ a, a ∈ ρ ∨ a ∈ ω → H a ≠ none) : Ext ω ρ H (ρ ++ [p]) (upd H p o) := by
  have e : Ext ω ρ H ρ (upd H p o) := Ext.new hp t
  exact ⟨e.keep, e.hid, e.live, [p], rfl, fun a h => by
    have : a = p := by simpa using h
    rw [this]; exact hp⟩
theorem StoR.push {st : Sto} (s : StoR K ω ρ H st) {p : Addr} {o : HO} {so : SO} (hp : H p = none) (hs : SoR K ω (ρ ++ [p]) (upd H p o) p so) : StoR K ω (ρ ++ [p]) (upd H p o) (st.add so) := by
  have e : Ext ω ρ H (ρ ++ [p]) (upd H p o) := Ext.push hp s.tr
  have np : p ∉ ρ := fun z => s.tr p (.inl z) hp
  refine ⟨by simp [s.len, Sto.add], fun n hn => ⟨(s.bas n hn).1, by have := (s.bas n hn).2; simp [Sto.add]; omega⟩, fun n hn l o' hl ho => ?_, ?_, fun a h => ?_, fun a h z => ?_, fun l o' a h1 h2 => ?_⟩
  · refine s.old n hn l o' hl ?_
    rw [← ho]
    exact (List.getElem?_append_left (Nat.lt_of_lt_of_le hl (s.bas n hn).2)).symm
  · rw [List.nodup_append]
    exact ⟨s.nd, by simp, fun a ha b hb => by have : b = p := by simpa using hb
                                              subst this; exact fun z => np (z ▸ ha)⟩
  · rcases List.mem_append.mp h with h | h
    · exact s.dj a h
    · have : a = p := by simpa using h
      subst this
      exact fun z => s.tr a (.inr z) hp
  · by_cases e' : a = p
    · rw [e', upd_same] at z; cases z
    · rcases h with h | h
      · rcases List.mem_append.mp h with h | h
        · exact s.tr a (.inl h) (e.live a z)
        · exact e' (by simpa using h)
      · exact s.tr a (.inr h) (e.live a z)
  · have h1 : (st.o ++ [so])[l]? = some o' := h1
    by_cases hl : l < st.o.length
    · rw [List.getElem?_append_left hl] at h1
      rw [List.getElem?_append_left (by rw [s.len]; exact hl)] at h2
      refine (s.obj l o' a h1 h2).ext e (upd_ne fun z => ?_)
      exact np (z ▸ List.mem_of_getElem? h2)
    · have hl' : l = st.o.length := by
        have := (List.getElem?_eq_some_iff.mp h1).1
        simp at this
        omega
      subst hl'
      rw [List.getElem?_append_right (Nat.le_refl _)] at h1
      rw [← s.len, List.getElem?_append_right (Nat.le_refl _)] at h2
      have e1 : so = o' := by simpa using h1
      have e2 : p = a := by simpa using h2
      subst e1 e2
      exact hs
/-- an object of the store is written -/
theorem Ext.write {l : Nat} {a : Addr} {o : HO} (h : ρ[l]? = some a) (dj : ∀ a ∈ ρ, a ∉ ω) : Ext ω ρ H ρ (upd H a o) := by
  have hm : a ∈ ρ := List.mem_of_getElem? h
  refine ⟨fun b u hb h1 _ => ?_, fun b hb => ?_, fun b z => ?_, [], by simp, fun _ z => absurd z (by simp)⟩
  · rw [upd_ne (fun z => h1 (by rw [z]; exact hm))]; exact hb
  · exact upd_ne fun z => dj a hm (by rw [← z]; exact hb)
  · by_cases e : b = a
    · rw [e, upd_same] at z; cases z
    · rw [upd_ne e] at z; exact z
theorem nodup_at {α : Type} {l : List α} (n : l.Nodup) {i j : Nat} {x : α} (h1 : l[i]? = some x) (h2 : l[j]? = some x) : i = j := by
  obtain ⟨a, b⟩ := List.getElem?_eq_some_iff.mp h1
  obtain ⟨c, d⟩ := List.getElem?_eq_some_iff.mp h2
  exact (List.getElem_inj n).mp (b.trans d.symm)
theorem StoR.write {st : Sto} (s : StoR K ω ρ H st) {l : Nat} {a : Addr} {o : HO} {so : SO} (h : ρ[l]? = some a) (hs : SoR K ω ρ (upd H a o) a so) (hb : ∀ n ∈ st.bs, l < n → so.bel n = true) : StoR K ω ρ (upd H a o) (st.put l so) := by
  have e : Ext ω ρ H ρ (upd H a o) := Ext.write h s.dj
  refine ⟨by simp [s.len, Sto.put], fun n hn => ⟨(s.bas n hn).1, by simpa [Sto.put] using (s.bas n hn).2⟩, fun n hn l' o' hl' ho => ?_, s.nd, s.dj, fun b hb z => s.tr b hb (e.live b z), fun l' o' a' h1 h2 => ?_⟩
  · have ho : (st.o.set l so)[l']? = some o' := ho
    by_cases hl : l' = l
    · subst hl
      have h1' := (List.getElem?_eq_some_iff.mp ho).1
      rw [List.getElem?_set_self (by simpa using h1')] at ho
      cases ho
      exact hb n hn hl'
    · rw [List.getElem?_set_ne (Ne.symm hl)] at ho
      exact s.old n hn l' o' hl' ho
  have h1 : (st.o.set l so)[l']? = some o' := h1
  by_cases hl : l' = l
  · subst hl
    have h1' := (List.getElem?_eq_some_iff.mp h1).1
    rw [List.getElem?_set_self (by simpa using h1')] at h1
    have e1 : so = o' := by simpa using h1
    rw [h] at h2
    have e2 : a = a' := by simpa using h2
    subst e1 e2
    exact hs
  · rw [List.getElem?_set_ne (Ne.symm hl)] at h1
    refine (s.obj l' o' a' h1 h2).ext e (upd_ne fun z => ?_)
    subst z
    exact hl (nodup_at s.nd h2 h)
theorem StoR.addr {st : Sto} (s : StoR K ω ρ H st) {l : Nat} {o : SO} (h : st.o[l]? = some o) : ∃ a, ρ[l]? = some a ∧ SoR K ω ρ H a o := by
  have hl := (List.getElem?_eq_some_iff.mp h).1
  rw [← s.len] at hl
  exact ⟨ρ[l], by simp [hl], s.obj l o _ h (by simp [hl])⟩

/-! ### what was of the store for a while is let go: the tail of the store's addresses is dropped -/
/-- freezing what stands from b on -/
def fzD (j : Nat → Option D) : D → Option D
  | .ref l => j l
  | .tup xs => (go xs).map .tup
  | .lst xs => (go xs).map .lst
  | .non => some .non
  | .bl b => some (.bl b)
  | .int i => some (.int i)
  | .str x => some (.str x)
  | .dic ks xs => (go xs).map (.dic ks)
  | .ins _ _ => none
  | .scr xs => (go xs).map .scr
where go : List D → Option (List D)
  | [] => some []
  | x :: r => match fzD j x, go r with
    | some y, some s => some (y :: s)
    | _, _ => none
/-- what the l-th object freezes to, through at most n further ones -/
def fzR (b : Nat) (st : Sto) : Nat → Nat → Option D
  | 0, l => if l < b then some (.ref l) else none
  | n + 1, l => if l < b then some (.ref l) else match st.o[l]? with
    | some (.lst xs) => (fzD.go (fzR b st n) xs).map .lst
    | some (.dic ks xs) => (fzD.go (fzR b st n) xs).map (.dic ks)
    | _ => none
def fz (b : Nat) (st : Sto) (d : D) : Option D := fzD (fzR b st 12) d
section
variable {ρ0 τ : List Addr} {b : Nat} {j : Nat → Option D}
mutual
theorem fzD_ok (hj : ∀ l d a, j l = some d → (ρ0 ++ τ)[l]? = some a → Rp K ω ρ0 H (.ref a) d) : ∀ {v : V} {d d' : D}, Rp K ω (ρ0 ++ τ) H v d → fzD j d = some d' → Rp K ω ρ0 H v d'
  | _, _, _, .non, e => by cases e; exact .non
  | _, _, _, .bl b, e => by cases e; exact .bl b
  | _, _, _, .int i, e => by cases e; exact .int i
  | _, _, _, .str x, e => by cases e; exact .str x
  | _, _, _, .tup r h1 h2 t, e => by
    obtain ⟨ys, h, rfl⟩ := Option.map_eq_some_iff.mp (show (fzD.go j _).map D.tup = some _ from e)
    exact .tup r (fun z => h1 (List.mem_append_left _ z)) h2 (fzL_ok hj t h)
  | _, _, _, .tupK r t, e => by
    obtain ⟨ys, h, rfl⟩ := Option.map_eq_some_iff.mp (show (fzD.go j _).map D.tup = some _ from e)
    exact .tupK r (fzL_ok hj t h)
  | _, _, _, .lst r h1 h2 t, e => by
    obtain ⟨ys, h, rfl⟩ := Option.map_eq_some_iff.mp (show (fzD.go j _).map D.lst = some _ from e)
    exact .lst r (fun z => h1 (List.mem_append_left _ z)) h2 (fzL_ok hj t h)
  | _, _, _, .scr r h1 h2 t, e => by
    obtain ⟨ys, h, rfl⟩ := Option.map_eq_some_iff.mp (show (fzD.go j _).map D.scr = some _ from e)
    exact .scr r (fun z => h1 (List.mem_append_left _ z)) h2 (fzL_ok hj t h)
  | _, _, _, .dic r l h1 h2 t, e => by
    obtain ⟨ys, h, rfl⟩ := Option.map_eq_some_iff.mp (show (fzD.go j _).map (D.dic _) = some _ from e)
    exact .dic r l (fun z => h1 (List.mem_append_left _ z)) h2 (fzL_ok hj t h)
  | _, _, _, .scrK r t, e => by
    obtain ⟨ys, h, rfl⟩ := Option.map_eq_some_iff.mp (show (fzD.go j _).map D.scr = some _ from e)
    exact .scrK r (fzL_ok hj t h)
  | _, _, _, .ref h, e => hj _ _ _ e h
theorem fzL_ok (hj : ∀ l d a, j l = some d → (ρ0 ++ τ)[l]? = some a → Rp K ω ρ0 H (.ref a) d) : ∀ {vs : List V} {ds ds' : List D}, RpL K ω (ρ0 ++ τ) H vs ds → fzD.go j ds = some ds' → RpL K ω ρ0 H vs ds'
  | _, _, _, .nil, e => by cases e; exact .nil
  | _, _, ds', .cons (d := d) (ds := ds) r t, e => by
    have e' : (match fzD j d, fzD.go j ds with
      | some y, some s => some (y :: s)
      | _, _ => none) = some ds' := e
    cases h1 : fzD j d with
    | none => rw [h1] at e'; cases e'
    | some y =>
      cases h2 : fzD.go j ds with
      | none => rw [h1, h2] at e'; cases e'
      | some s =>
        rw [h1, h2] at e'
        cases e'
        exact .cons (fzD_ok hj r h1) (fzL_ok hj t h2)
end
theorem fzR_ok {st : Sto} (s : StoR K ω (ρ0 ++ τ) H st) (hb : ρ0.length = b) : ∀ (n l : Nat) (d : D) (a : Addr), fzR b st n l = some d → (ρ0 ++ τ)[l]? = some a → Rp K ω ρ0 H (.ref a) d
  | 0, l, d, a, e, h => by
    unfold fzR at e
    split at e
    · next hl =>
      cases e
      rw [List.getElem?_append_left (by omega)] at h
      exact .ref h
    · cases e
  | n + 1, l, d, a, e, h => by
    unfold fzR at e
    split at e
    · next hl =>
      cases e
      rw [List.getElem?_append_left (by omega)] at h
      exact .ref h
    · next hl =>
      cases q : st.o[l]? with
      | none => rw [q] at e; cases e
      | some o =>
        rw [q] at e
        cases o with
        | lst xs =>
          obtain ⟨ys, h1, rfl⟩ := Option.map_eq_some_iff.mp (show (fzD.go (fzR b st n) xs).map D.lst = some _ from e)
          cases s.obj l _ a q h with
          | lst h2 t =>
            refine .lst h2 (fun z => ?_) (s.dj a (List.mem_of_getElem? h)) (fzL_ok (fun l d a e h => fzR_ok s hb n l d a e h) t h1)
            obtain ⟨i, hi, hi2⟩ := List.getElem_of_mem z
            have e1 : (ρ0 ++ τ)[i]? = some a := by rw [List.getElem?_append_left hi]; simp [hi, hi2]
            have := nodup_at s.nd e1 h
            omega
        | dic ks xs =>
          obtain ⟨ys, h1, rfl⟩ := Option.map_eq_some_iff.mp (show (fzD.go (fzR b st n) xs).map (D.dic ks) = some _ from e)
          cases s.obj l _ a q h with
          | dic h2 l' t =>
            refine .dic h2 l' (fun z => ?_) (s.dj a (List.mem_of_getElem? h)) (fzL_ok (fun l d a e h => fzR_ok s hb n l d a e h) t h1)
            obtain ⟨i, hi, hi2⟩ := List.getElem_of_mem z
            have e1 : (ρ0 ++ τ)[i]? = some a := by rw [List.getElem?_append_left hi]; simp [hi, hi2]
            have := nodup_at s.nd e1 h
            omega
        | ins _ _ => cases e
theorem fz_ok {st : Sto} (s : StoR K ω (ρ0 ++ τ) H st) (hb : ρ0.length = b) {v : V} {d d' : D} (r : Rp K ω (ρ0 ++ τ) H v d) (e : fz b st d = some d') : Rp K ω ρ0 H v d' :=
  fzD_ok (fun l d a e h => fzR_ok s hb 12 l d a e h) r e
mutual
theorem Rp.cut {v : V} {d : D} (r : Rp K ω (ρ0 ++ τ) H v d) (h : d.bel ρ0.length = true) : Rp K ω ρ0 H v d := match v, d, r with
  | _, _, .non => .non
  | _, _, .bl b => .bl b
  | _, _, .int i => .int i
  | _, _, .str x => .str x
  | _, _, .tup r h1 h2 t => .tup r (fun z => h1 (List.mem_append_left _ z)) h2 (RpL.cut t h)
  | _, _, .tupK r t => .tupK r (RpL.cut t h)
  | _, _, .lst r h1 h2 t => .lst r (fun z => h1 (List.mem_append_left _ z)) h2 (RpL.cut t h)
  | _, _, .scrK r t => .scrK r (RpL.cut t h)
  | _, _, .dic r l h1 h2 t => .dic r l (fun z => h1 (List.mem_append_left _ z)) h2 (RpL.cut t h)
  | _, _, .scr r h1 h2 t => .scr r (fun z => h1 (List.mem_append_left _ z)) h2 (RpL.cut t h)
  | _, _, .ref q => .ref (by
    have hl := of_decide_eq_true (show decide (_ < ρ0.length) = true from h)
    rw [List.getElem?_append_left hl] at q
    exact q)
theorem RpL.cut {vs : List V} {ds : List D} (r : RpL K ω (ρ0 ++ τ) H vs ds) (h : D.bels ρ0.length ds = true) : RpL K ω ρ0 H vs ds := match vs, ds, r with
  | _, _, .nil => .nil
  | _, _, .cons r t => .cons (Rp.cut r (Bool.and_eq_true_iff.mp (show (D.bel _ _ && D.bels _ _) = true from h)).1) (RpL.cut t (Bool.and_eq_true_iff.mp (show (D.bel _ _ && D.bels _ _) = true from h)).2)
end
mutual
theorem Rp.bel {v : V} {d : D} (r : Rp K ω ρ H v d) : d.bel ρ.length = true := match v, d, r with
  | _, _, .non => rfl
  | _, _, .bl b => rfl
  | _, _, .int i => rfl
  | _, _, .str x => rfl
  | _, _, .tup _ _ _ t => RpL.bel t
  | _, _, .tupK _ t => RpL.bel t
  | _, _, .lst _ _ _ t => RpL.bel t
  | _, _, .scr _ _ _ t => RpL.bel t
  | _, _, .scrK _ t => RpL.bel t
  | _, _, .dic _ _ _ _ t => RpL.bel t
  | _, _, .ref q => decide_eq_true (List.getElem?_eq_some_iff.mp q).1
theorem RpL.bel {vs : List V} {ds : List D} (r : RpL K ω ρ H vs ds) : D.bels ρ.length ds = true := match vs, ds, r with
  | _, _, .nil => rfl
  | _, _, .cons r t => Bool.and_eq_true_iff.mpr ⟨Rp.bel r, RpL.bel t⟩
end
mutual
theorem D.bel_mono {m n : Nat} (h : m ≤ n) : ∀ d : D, d.bel m = true → d.bel n = true
  | .ref l, e => decide_eq_true (Nat.lt_of_lt_of_le (of_decide_eq_true (show decide (l < m) = true from e)) h)
  | .tup xs, e => D.bels_mono h xs e
  | .lst xs, e => D.bels_mono h xs e
  | .scr xs, e => D.bels_mono h xs e
  | .non, _ => rfl
  | .bl _, _ => rfl
  | .int _, _ => rfl
  | .str _, _ => rfl
  | .dic _ xs, e => D.bels_mono h xs e
  | .ins _ _, e => by cases e
theorem D.bels_mono {m n : Nat} (h : m ≤ n) : ∀ ds : List D, D.bels m ds = true → D.bels n ds = true
  | [], _ => rfl
  | x :: r, e => by
    obtain ⟨h1, h2⟩ := Bool.and_eq_true_iff.mp (show (D.bel m x && D.bels m r) = true from e)
    exact Bool.and_eq_true_iff.mpr ⟨D.bel_mono h x h1, D.bels_mono h r h2⟩
end
theorem D.bels_iff {n : Nat} : ∀ {ds : List D}, D.bels n ds = true ↔ ∀ d ∈ ds, d.bel n = true
  | [] => by simp [D.bels]
  | x :: r => by
    show (D.bel n x && D.bels n r) = true ↔ _
    rw [Bool.and_eq_true_iff, D.bels_iff]
    simp
/-- a def begins: all that stands is of before -/
def Sto.enter (st : Sto) : Sto := ⟨st.o.length :: st.bs, st.o⟩
theorem StoR.enter {st : Sto} (s : StoR K ω ρ H st) : StoR K ω ρ H st.enter := by
  refine ⟨s.len, fun n hn => ?_, fun n hn l o hl ho => ?_, s.nd, s.dj, s.tr, s.obj⟩
  · rcases List.mem_cons.mp hn with z | z
    · subst z; exact ⟨Nat.le_refl _, Nat.le_refl _⟩
    · exact ⟨(s.bas n z).2, (s.bas n z).2⟩
  · rcases List.mem_cons.mp hn with z | z
    · subst z
      obtain ⟨a, ha⟩ : ∃ a, ρ[l]? = some a := ⟨ρ[l]'(by rw [s.len]; exact hl), by simp [show l < ρ.length by rw [s.len]; exact hl]⟩
      cases s.obj l o a ho ha with
      | lst h t =>
        have := t.bel
        rw [s.len] at this
        exact this
      | dic h l' t =>
        have := t.bel
        rw [s.len] at this
        exact this
    · exact s.old n z l o hl ho
/-- a def ends: what stood before it stands, as it is now -/
def Sto.leave (st0 st : Sto) : Sto := ⟨st0.bs, st.o.take st0.o.length⟩
theorem StoR.leave {st0 st : Sto} {H0 : Hp} (s0 : StoR K ω ρ0 H0 st0) (s : StoR K ω (ρ0 ++ τ) H st) (hb : st.bs = st0.o.length :: st0.bs) : StoR K ω ρ0 H (st0.leave st) := by
  have hl : ρ0.length = st0.o.length := s0.len
  have hs := s.len
  rw [List.length_append] at hs
  have tk : (st.o.take st0.o.length).length = st0.o.length := by rw [List.length_take]; omega
  refine ⟨hl.trans tk.symm, fun n hn => ⟨(s0.bas n hn).1, ?_⟩, fun n hn l o h1 h2 => ?_, (List.nodup_append.mp s.nd).1, fun a h => s.dj a (List.mem_append_left _ h), fun a h => s.tr a (h.imp (List.mem_append_left _) id), fun l o a h1 h2 => ?_⟩
  · show n ≤ (st.o.take st0.o.length).length
    rw [tk]; exact (s0.bas n hn).2
  · have h2 : (st.o.take st0.o.length)[l]? = some o := h2
    have hlt : l < st0.o.length := Nat.lt_of_lt_of_le h1 (s0.bas n hn).2
    rw [List.getElem?_take_of_lt hlt] at h2
    exact s.old n (by rw [hb]; exact List.mem_cons_of_mem _ hn) l o h1 h2
  · have h1 : (st.o.take st0.o.length)[l]? = some o := h1
    have hlt : l < st0.o.length := by
      have := (List.getElem?_eq_some_iff.mp h2).1
      omega
    rw [List.getElem?_take_of_lt hlt] at h1
    have ob := s.obj l o a h1 (by rw [List.getElem?_append_left (by omega)]; exact h2)
    have hbel := s.old st0.o.length (by rw [hb]; exact List.mem_cons_self) l o hlt h1
    cases ob with
    | lst h t => exact .lst h (t.cut (by rw [hl]; exact hbel))
    | dic h l t => exact .dic h l (t.cut (by rw [hl]; exact hbel))
/-- what is kept of a store's places -/
theorem Ext.cut {st0 : Sto} {H0 : Hp} (s0 : StoR K ω ρ0 H0 st0) (e : Ext ω ρ0 H0 (ρ0 ++ τ) H) : Ext ω ρ0 H0 ρ0 H := ⟨e.keep, e.hid, e.live, [], by simp, fun _ z => absurd z (by simp)⟩
end
end
end Hb

set_option Elab.async false
set_option linter.all false
set_option maxRecDepth 100000
set_option maxHeartbeats 1000000
/-! Part B: what a piece of code does to data (De, Ds), and that the machine does it (tG and its rules). -/
namespace Hb
open PySem PySem.Spec L2

/-- an end with a value, or an exception of the c-th class that bears x -/
inductive Rs (α : Type) where
  | ok (a : α) | ex (c : Nat) (x : D)
abbrev De (α : Type) := Sl → Sto → Option (Rs α × Sto)
def De.ret {α : Type} (a : α) : De α := fun _ st => some (.ok a, st)
def De.bnd {α β : Type} (m : De α) (k : α → De β) : De β := fun sl st => match m sl st with
  | some (.ok a, st') => k a sl st'
  | some (.ex c x, st') => some (.ex c x, st')
  | none => none
/-- a value off the store -/
def De.of {α : Type} (f : Sto → Option α) : De α := fun _ st => (f st).map fun a => (.ok a, st)

/-- what is known of the exceptions' classes: where they stand, what their field is -/
structure Gd where
  cad : Nat → Addr
  cfl : Nat → Str

section
variable {K : PySem.W.Frag} {G : Gd} {W : WX} {α β γ δ : Type}
/-- how a result lies in the heap -/
abbrev Rel (β α : Type) := List Addr → List Addr → Hp → β → α → Prop
def Bad (K : PySem.W.Frag) (G : Gd) (W : WX) (ω ρ : List Addr) (H : Hp) (σ : L2.St) (sl : Sl) (c : Nat) (x : D) (st' : Sto) : Prop :=
  ∀ (dd : Addr) (xv : V) (H' : Hp) (ρ' : List Addr), Ext ω ρ H ρ' H' → StoR K ω ρ' H' st' → Rp K ω ρ' H' xv x → H' dd = some (.xd [(G.cfl c, xv)]) → dd ∉ ρ' → dd ∉ ω → W (.ref (G.cad c)) (some dd) σ H'
def PostG (K : PySem.W.Frag) (G : Gd) (W : WX) (R : Rel β α) (ω ρ : List Addr) (H : Hp) (σ : L2.St) (sl : Sl) (Q : β → Hp → Prop) : Option (Rs α × Sto) → Prop
  | none => False
  | some (.ok a, st') => ∀ (b : β) (H' : Hp) (ρ' : List Addr), Ext ω ρ H ρ' H' → StoR K ω ρ' H' st' → R ω ρ' H' b a → Q b H'
  | some (.ex c x, st') => Bad K G W ω ρ H σ sl c x st'
structure At (K : PySem.W.Frag) (ω ρ : List Addr) (H : Hp) (σ : L2.St) (sl : Sl) (st : Sto) : Prop where
  sto : StoR K ω ρ H st
  slo : SlotR K ω ρ H σ sl
def tG (K : PySem.W.Frag) (G : Gd) (W : WX) (R : Rel β α) (d : De α) : L2.St → Hp → (β → Hp → Prop) → Prop := fun σ H Q =>
  ∃ ω ρ sl st, At K ω ρ H σ sl st ∧ PostG K G W R ω ρ H σ sl Q (d sl st)
abbrev RD (K : PySem.W.Frag) : Rel V D := fun ω ρ H b a => Rp K ω ρ H b a
abbrev RB : Rel Bool Bool := fun _ _ _ b a => b = a
abbrev RA (K : PySem.W.Frag) : Rel (List V) (List D) := fun ω ρ H b a => RpL K ω ρ H b a
abbrev tD (K : PySem.W.Frag) (G : Gd) (W : WX) (d : De D) : TE := tG K G W (RD K) d
abbrev tT (K : PySem.W.Frag) (G : Gd) (W : WX) (d : De Bool) : TT := tG K G W RB d
abbrev tAs (K : PySem.W.Frag) (G : Gd) (W : WX) (d : De (List D)) : TA := tG K G W (RA K) d

theorem PostG.mono {R : Rel β α} {ω ρ : List Addr} {H : Hp} {σ : L2.St} {sl : Sl} {Q Q' : β → Hp → Prop} {r : Option (Rs α × Sto)} (h : PostG K G W R ω ρ H σ sl Q r) (m : ∀ b H', Q b H' → Q' b H') : PostG K G W R ω ρ H σ sl Q' r := by
  cases r with
  | none => exact h
  | some p =>
    obtain ⟨r, st'⟩ := p
    cases r with
    | ok a => exact fun b H' ρ' e s r => m _ _ (h b H' ρ' e s r)
    | ex c x => exact h
theorem tG.mono {R : Rel β α} {d : De α} {σ : L2.St} {H : Hp} {Q Q' : β → Hp → Prop} (h : tG K G W R d σ H Q) (m : ∀ b H', Q b H' → Q' b H') : tG K G W R d σ H Q' := by
  obtain ⟨ω, ρ, sl, st, a, p⟩ := h
  exact ⟨ω, ρ, sl, st, a, p.mono m⟩
/-- from a later state back to the first -/
theorem PostG.back {R : Rel β α} {ω ρ ρ1 : List Addr} {H H1 : Hp} {σ : L2.St} {sl : Sl} {Q : β → Hp → Prop} {r : Option (Rs α × Sto)} (e : Ext ω ρ H ρ1 H1) (h : PostG K G W R ω ρ H σ sl Q r) : PostG K G W R ω ρ1 H1 σ sl Q r := by
  cases r with
  | none => exact h
  | some p =>
    obtain ⟨r, st'⟩ := p
    cases r with
    | ok a => exact fun b H' ρ' e' s r => h b H' ρ' (e.trans e') s r
    | ex c x => exact fun dd xv H' ρ' e' s r hd n1 n2 => h dd xv H' ρ' (e.trans e') s r hd n1 n2
/-- the first part of two -/
theorem split {R : Rel β α} {R' : Rel δ γ} {m : De α} {k : α → De γ} {ω ρ : List Addr} {H : Hp} {σ : L2.St} {sl : Sl} {st : Sto} {Q : δ → Hp → Prop}
    (a : At K ω ρ H σ sl st) (h : PostG K G W R' ω ρ H σ sl Q ((m.bnd k) sl st)) :
    tG K G W R m σ H (fun b H1 => ∃ x ρ1 st1, m sl st = some (.ok x, st1) ∧ Ext ω ρ H ρ1 H1 ∧ At K ω ρ1 H1 σ sl st1 ∧ R ω ρ1 H1 b x ∧ PostG K G W R' ω ρ1 H1 σ sl Q (k x sl st1)) := by
  refine ⟨ω, ρ, sl, st, a, ?_⟩
  unfold De.bnd at h
  cases e : m sl st with
  | none => rw [e] at h; exact h
  | some p =>
    obtain ⟨r, st'⟩ := p
    rw [e] at h
    cases r with
    | ok x => exact fun b H' ρ' e' s r => ⟨x, ρ', st', rfl, e', ⟨s, a.slo.ext e'⟩, r, h.back e'⟩
    | ex c x => exact h
theorem PostG.ret {R : Rel β α} {x : α} {ω ρ : List Addr} {H : Hp} {σ : L2.St} {sl : Sl} {st : Sto} {Q : β → Hp → Prop} (a : At K ω ρ H σ sl st) (h : PostG K G W R ω ρ H σ sl Q (De.ret x sl st)) (b : β) (r : R ω ρ H b x) : Q b H :=
  h b H ρ .refl a.sto r
theorem PostG.of {R : Rel β α} {f : Sto → Option α} {ω ρ : List Addr} {H : Hp} {σ : L2.St} {sl : Sl} {st : Sto} {Q : β → Hp → Prop} (h : PostG K G W R ω ρ H σ sl Q (De.of f sl st)) :
    ∃ x, f st = some x ∧ ∀ (b : β) (H' : Hp) (ρ' : List Addr), Ext ω ρ H ρ' H' → StoR K ω ρ' H' st → R ω ρ' H' b x → Q b H' := by
  unfold De.of at h
  cases e : f st with
  | none => rw [e] at h; exact h.elim
  | some x => rw [e] at h; exact ⟨x, rfl, h⟩

/-! ### operations by values -/
/-- two values in, one out, the store read alone -/
def rV2 (K : PySem.W.Frag) (f : D → D → Sto → Option D) : R2 := fun x' y' H Q => ∃ ω ρ st x y z, StoR K ω ρ H st ∧ Rp K ω ρ H x' x ∧ Rp K ω ρ H y' y ∧ f x y st = some z ∧
  ∀ (z' : V) (H' : Hp), Ext ω ρ H ρ H' → StoR K ω ρ H' st → Rp K ω ρ H' z' z → Q z' H'
/-- some values in -/
def rVn (K : PySem.W.Frag) (f : List D → Sto → Option D) : List V → Hp → VK → Prop := fun xs' H Q => ∃ ω ρ st xs z, StoR K ω ρ H st ∧ RpL K ω ρ H xs' xs ∧ f xs st = some z ∧
  ∀ (z' : V) (H' : Hp), Ext ω ρ H ρ H' → StoR K ω ρ H' st → Rp K ω ρ H' z' z → Q z' H'
/-- .. and the store may change (nothing new in it) -/
def rVm (K : PySem.W.Frag) (f : List D → Sto → Option (D × Sto)) : List V → Hp → VK → Prop := fun xs' H Q => ∃ ω ρ st xs z st', StoR K ω ρ H st ∧ RpL K ω ρ H xs' xs ∧ f xs st = some (z, st') ∧
  ∀ (z' : V) (H' : Hp), Ext ω ρ H ρ H' → StoR K ω ρ H' st' → Rp K ω ρ H' z' z → Q z' H'
/-- a new list -/
def rVl (K : PySem.W.Frag) (f : List D → Sto → Option (List D)) : List V → Hp → VK → Prop := fun xs' H Q => ∃ ω ρ st xs zs, StoR K ω ρ H st ∧ RpL K ω ρ H xs' xs ∧ f xs st = some zs ∧
  ∀ (zs' : List V) (H' : Hp) (p : Addr), Ext ω ρ H ρ H' → StoR K ω ρ H' st → RpL K ω ρ H' zs' zs → H' p = none → Q (.ref p) (upd H' p (.lst zs'))
def PostN (K : PySem.W.Frag) (G : Gd) (W : WX) (ω ρ : List Addr) (H : Hp) (σ : L2.St) (sl : Sl) (Q : VK) : Option (Rs (List D) × Sto) → Prop
  | none => False
  | some (.ok ds, st') => ∀ (vs : List V) (H1 : Hp) (ρ1 : List Addr) (p : Addr), Ext ω ρ H ρ1 H1 → StoR K ω ρ1 H1 st' → RpL K ω ρ1 H1 vs ds → H1 p = none → Q (.ref p) (upd H1 p (.lst vs))
  | some (.ex c x, st') => Bad K G W ω ρ H σ sl c x st'
/-- an expression that makes a new list -/
def tN (K : PySem.W.Frag) (G : Gd) (W : WX) (d : De (List D)) : TE := fun σ H Q => ∃ ω ρ sl st, At K ω ρ H σ sl st ∧ PostN K G W ω ρ H σ sl Q (d sl st)
def De.frz (d : De (List D)) : De D := d.bnd fun ds => De.ret (.lst ds)
def De.alc (d : De (List D)) : De D := d.bnd fun ds _ st => some (.ok (.ref st.o.length), st.add (.lst ds))
theorem StoR.fresh {ω ρ : List Addr} {H : Hp} {st : Sto} (s : StoR K ω ρ H st) {p : Addr} (h : H p = none) : p ∉ ρ ∧ p ∉ ω := ⟨fun z => s.tr p (.inl z) h, fun z => s.tr p (.inr z) h⟩
theorem frz_imp {d : De (List D)} {σ : L2.St} {H : Hp} {Q : VK} (h : tD K G W d.frz σ H Q) : tN K G W d σ H Q := by
  obtain ⟨ω, ρ, sl, st, a, h⟩ := h
  refine ⟨ω, ρ, sl, st, a, ?_⟩
  unfold De.frz De.bnd at h
  cases e : d sl st with
  | none => rw [e] at h; exact h
  | some p =>
    obtain ⟨r, st'⟩ := p
    rw [e] at h
    cases r with
    | ok ds =>
      intro vs H1 ρ1 p e1 s1 r1 hp
      have e2 : Ext ω ρ1 H1 ρ1 (upd H1 p (.lst vs)) := Ext.new hp s1.tr
      exact h (.ref p) _ ρ1 (e1.trans e2) (s1.new hp) (.lst upd_same (s1.fresh hp).1 (s1.fresh hp).2 (r1.ext e2))
    | ex c x => exact h
theorem alc_imp {d : De (List D)} {σ : L2.St} {H : Hp} {Q : VK} (h : tD K G W d.alc σ H Q) : tN K G W d σ H Q := by
  obtain ⟨ω, ρ, sl, st, a, h⟩ := h
  refine ⟨ω, ρ, sl, st, a, ?_⟩
  unfold De.alc De.bnd at h
  cases e : d sl st with
  | none => rw [e] at h; exact h
  | some p =>
    obtain ⟨r, st'⟩ := p
    rw [e] at h
    cases r with
    | ok ds =>
      intro vs H1 ρ1 p e1 s1 r1 hp
      have e2 : Ext ω ρ1 H1 (ρ1 ++ [p]) (upd H1 p (.lst vs)) := Ext.push hp s1.tr
      refine h (.ref p) _ (ρ1 ++ [p]) (e1.trans e2) (s1.push hp (.lst upd_same (r1.ext e2))) (.ref ?_)
      rw [← s1.len, List.getElem?_append_right (Nat.le_refl _)]
      simp
    | ex c x => exact h
end

/-! ### judgements weakened -/
section
variable {X : Cx} {e : Expr}
theorem PE.imp {t t' : TE} (h : PE X e t) (i : ∀ σ H Q, t' σ H Q → t σ H Q) : PE X e t' := ⟨fun pins s σ H Q I w => h.run pins s σ H Q I (i _ _ _ w)⟩
theorem PT.imp {t t' : TT} (h : PT X e t) (i : ∀ σ H Q, t' σ H Q → t σ H Q) : PT X e t' := ⟨fun pins s σ H Q I w => h.run pins s σ H Q I (i _ _ _ w)⟩
theorem PA.imp {es : List Expr} {t t' : TA} (h : PA X es t) (i : ∀ σ H Q, t' σ H Q → t σ H Q) : PA X es t' := ⟨fun pos pins s σ H Q I w => h.run pos pins s σ H Q I (i _ _ _ w)⟩
theorem PS.imp {st : Stmt} {t t' : TS} (h : PS X st t) (i : ∀ D σ H, t' D σ H → t D σ H) : PS X st t' := ⟨fun pins s σ H D I w => h.run pins s σ H D I (i _ _ _ w)⟩
theorem PSs.imp {st : List Stmt} {t t' : TS} (h : PSs X st t) (i : ∀ D σ H, t' D σ H → t D σ H) : PSs X st t' := ⟨fun pins s σ H D I w => h.run pins s σ H D I (i _ _ _ w)⟩

/-! ### the rules of expressions -/
variable {G : Gd} {W : WX} {pos : Pos}
abbrev dVar (i : Nat) : De D := fun sl st => match sl[i]? with
  | some (some d) => some (.ok d, st)
  | _ => none
theorem d_var {i : Nat} {x : Str} (hN : X.N[i]? = some x) (hv : Vis X.env.scope x) (hd : (x == ("__debug__" : Str)) = false) (hcd : (x == ("__classdict__" : Str)) = false) : PE X (.Name x pos) (tD X.K G W (dVar i)) :=
  PE.imp (pe_var hN hv hd hcd) fun σ H Q h => by
    obtain ⟨ω, ρ, sl, st, a, h⟩ := h
    unfold dVar at h
    cases e : sl[i]? with
    | none => rw [e] at h; exact h.elim
    | some o =>
      cases o with
      | none => rw [e] at h; exact h.elim
      | some d =>
        rw [e] at h
        obtain ⟨v, hv, r⟩ := a.slo.at_ i d e
        exact ⟨v, hv, h v H ρ .refl a.sto r⟩
/-- a value that is the same everywhere -/
theorem d_const {v : V} {d : D} (hp : PE X e (tC v)) (r : ∀ ω ρ H, Rp X.K ω ρ H v d) : PE X e (tD X.K G W (De.ret d)) :=
  PE.imp hp fun σ H Q h => by
    obtain ⟨ω, ρ, sl, st, a, h⟩ := h
    exact h.ret a v (r ω ρ H)
/-- what a two-place operation asks, from what is wanted behind it -/
theorem of_r2 {K : PySem.W.Frag} {f : D → D → Sto → Option D} {ω ρ : List Addr} {H : Hp} {σ : L2.St} {sl : Sl} {st : Sto} {Q : VK} {x y : D} {x' y' : V} (a : At K ω ρ H σ sl st) (rx : Rp K ω ρ H x' x) (ry : Rp K ω ρ H y' y)
    (h : PostG K G W (RD K) ω ρ H σ sl Q (De.of (f x y) sl st)) : rV2 K f x' y' H Q := by
  obtain ⟨z, e, q⟩ := h.of
  exact ⟨ω, ρ, st, x, y, z, a.sto, rx, ry, e, fun z' H' e1 s1 r1 => q z' H' ρ e1 s1 r1⟩
theorem op2 {K : PySem.W.Frag} {da db : De D} {f : D → D → Sto → Option D} {σ : L2.St} {H : Hp} {Q : VK} (h : tD K G W (da.bnd fun x => db.bnd fun y => De.of (f x y)) σ H Q) :
    tOp (rV2 K f) (tD K G W da) (tD K G W db) σ H Q := by
  obtain ⟨ω, ρ, sl, st, a, h⟩ := h
  refine (split a h).mono fun x' H1 ⟨x, ρ1, st1, E1, e1, a1, r1, h1⟩ => ?_
  refine tG.mono (split a1 h1) fun y' H2 ⟨y, ρ2, st2, E2, e2, a2, r2, h2⟩ => ?_
  exact of_r2 a2 (r1.ext e2) r2 h2
theorem d_bin {op : Operator} {a b : Expr} {da db : De D} {f : D → D → Sto → Option D} (ho : OpR X (binaryOp op) (rV2 X.K f)) (ha : PE X a (tD X.K G W da)) (hb : PE X b (tD X.K G W db)) :
    PE X (.BinOp a op b pos) (tD X.K G W (da.bnd fun x => db.bnd fun y => De.of (f x y))) := PE.imp (pe_op ho ha hb) fun _ _ _ h => op2 h
theorem d_cmp {op : CmpOp} {a b : Expr} {da db : De D} {f : D → D → Sto → Option D} (ho : OpR X (compareOp op) (rV2 X.K f)) (ha : PE X a (tD X.K G W da)) (hb : PE X b (tD X.K G W db)) (hm : behindInMarks op b = false) :
    PE X (.Compare a [op] [b] pos) (tD X.K G W (da.bnd fun x => db.bnd fun y => De.of (f x y))) := PE.imp (pe_cmpR ho ha hb hm) fun _ _ _ h => op2 h
theorem d_ix {a b : Expr} {da db : De D} {f : D → D → Sto → Option D} (ho : IxR X (rV2 X.K f)) (ha : PE X a (tD X.K G W da)) (hb : PE X b (tD X.K G W db)) (hs : PlainIx b) :
    PE X (.Subscript a b pos) (tD X.K G W (da.bnd fun x => db.bnd fun y => De.of (f x y))) := PE.imp (pe_ix ho ha hb hs) fun _ _ _ h => op2 h
/-- one value in -/
def rV1 (K : PySem.W.Frag) (f : D → Sto → Option D) : V → Hp → VK → Prop := fun x' H Q => ∃ ω ρ st x z, StoR K ω ρ H st ∧ Rp K ω ρ H x' x ∧ f x st = some z ∧
  ∀ (z' : V) (H' : Hp), Ext ω ρ H ρ H' → StoR K ω ρ H' st → Rp K ω ρ H' z' z → Q z' H'
theorem d_un {op : UnaryOp} {a : Expr} {da : De D} {f : D → Sto → Option D} (ho : UnR X (unaryOp op) (rV1 X.K f)) (ha : PE X a (tD X.K G W da)) : PE X (.UnaryOp op a pos) (tD X.K G W (da.bnd fun x => De.of (f x))) :=
  PE.imp (pe_un ho ha) fun σ H Q h => by
    obtain ⟨ω, ρ, sl, st, a, h⟩ := h
    refine tG.mono (split a h) fun x' H1 ⟨x, ρ1, st1, E1, e1, a1, r1, h1⟩ => ?_
    obtain ⟨z, e, q⟩ := h1.of
    exact ⟨ω, ρ1, st1, x, z, a1.sto, r1, e, fun z' H' e1 s1 r1 => q z' H' ρ1 e1 s1 r1⟩
/-! truth -/
def tru (d : D) (st : Sto) : Option Bool := match d with
  | .non => some false
  | .bl b => some b
  | .int i => some (i != 0)
  | .str x => if x.length ≤ sizeLine then some ((x.length : Int) != 0) else none
  | .tup xs => some (!xs.isEmpty)
  | .lst xs => some (!xs.isEmpty)
  | .scr xs => some (!xs.isEmpty)
  | .ref l => match st.o[l]? with
    | some (.lst xs) => some (!xs.isEmpty)
    | _ => none
  | _ => none
theorem RpL.isEmpty {K : PySem.W.Frag} {ω ρ : List Addr} {H : Hp} : ∀ {vs : List V} {ds : List D}, RpL K ω ρ H vs ds → vs.isEmpty = ds.isEmpty
  | _, _, .nil => rfl
  | _, _, .cons _ _ => rfl
theorem tru_ok {K : PySem.W.Frag} {ω ρ : List Addr} {H : Hp} {st : Sto} (s : StoR K ω ρ H st) {v : V} {d : D} {k : Bool} (r : Rp K ω ρ H v d) (e : tru d st = some k) : TruV K v H k := by
  cases r with
  | non => cases e; rfl
  | bl b => cases e; rfl
  | int i => cases e; rfl
  | str x =>
    have e' : (if x.length ≤ sizeLine then some ((x.length : Int) != 0) else none) = some k := e
    split at e'
    · next h => cases e'; exact ⟨h, rfl⟩
    · cases e'
  | tup h _ _ t => cases e; exact .inr (.inl ⟨_, .inl h, by rw [t.isEmpty]⟩)
  | tupK h t => cases e; exact .inr (.inl ⟨_, h H, by rw [t.isEmpty]⟩)
  | lst h _ _ t => cases e; exact .inl ⟨_, .of h, by rw [t.isEmpty]⟩
  | scr h _ _ t => cases e; exact .inl ⟨_, .inl (.inr ⟨_, h⟩), by rw [t.isEmpty]⟩
  | scrK h t => cases e; exact .inl ⟨_, h H, by rw [t.isEmpty]⟩
  | dic _ _ _ _ _ => cases e
  | @ref a l h =>
    have e' : (match st.o[l]? with
      | some (.lst xs) => some (!xs.isEmpty)
      | _ => none) = some k := e
    cases q : st.o[l]? with
    | none => rw [q] at e'; cases e'
    | some o =>
      rw [q] at e'
      cases o with
      | lst xs =>
        cases e'
        cases s.obj l _ a q h with
        | lst h1 t => exact .inl ⟨_, .of h1, by rw [t.isEmpty]⟩
      | dic _ _ => cases e'
      | ins _ _ => cases e'
theorem t_val {a : Expr} {da : De D} (ha : PE X a (tD X.K G W da)) (he : ∀ whole, isTrue a X.env whole = (do let v ← whole; standAt a.pos; holding [v] (truthy v))) : PT X a (tT X.K G W (da.bnd fun x => De.of (tru x))) :=
  PT.imp (pt_truth ha he) fun σ H Q h => by
    obtain ⟨ω, ρ, sl, st, a, h⟩ := h
    refine tG.mono (split a h) fun x' H1 ⟨x, ρ1, st1, E1, e1, a1, r1, h1⟩ => ?_
    obtain ⟨z, e, q⟩ := h1.of
    exact ⟨z, tru_ok a1.sto r1 e, q z H1 ρ1 .refl a1.sto rfl⟩
def asB : D → Option Bool
  | .bl b => some b
  | _ => none
theorem asB_ok {K : PySem.W.Frag} {ω ρ : List Addr} {H : Hp} {v : V} {d : D} {k : Bool} (r : Rp K ω ρ H v d) (e : asB d = some k) : v = .bl k := by
  cases r with
  | bl b => cases e; rfl
  | _ => cases e
theorem t_cmp {op : CmpOp} {a b : Expr} {da db : De D} {f : D → D → Sto → Option D} (ho : OpR X (compareOp op) (rV2 X.K f)) (ha : PE X a (tD X.K G W da)) (hb : PE X b (tD X.K G W db)) (hm : behindInMarks op b = false) :
    PT X (.Compare a [op] [b] pos) (tT X.K G W (da.bnd fun x => db.bnd fun y => De.of fun st => (f x y st).bind asB)) :=
  PT.imp (pt_cmpR ho ha hb hm) fun σ H Q h => by
    obtain ⟨ω, ρ, sl, st, a, h⟩ := h
    refine tG.mono (split a h) fun x' H1 ⟨x, ρ1, st1, E1, e1, a1, r1, h1⟩ => ?_
    refine tG.mono (split a1 h1) fun y' H2 ⟨y, ρ2, st2, E2, e2, a2, r2, h2⟩ => ?_
    obtain ⟨k, e, q⟩ := h2.of
    obtain ⟨z, ez, ek⟩ := Option.bind_eq_some_iff.mp e
    exact ⟨ω, ρ2, st2, x, y, z, a2.sto, r1.ext e2, r2, ez, fun z' H' e3 s3 r3 => ⟨k, asB_ok r3 ek, q k H' ρ2 e3 s3 rfl⟩⟩
def dIf {α : Type} (c : De Bool) (a b : De α) : De α := c.bnd fun k => match k with
  | true => a
  | false => b
theorem t_not {a : Expr} {d : De Bool} (h : PT X a (tT X.K G W d)) : PT X (.UnaryOp .Not a pos) (tT X.K G W (d.bnd fun k => De.ret (!k))) :=
  PT.imp (pt_not h) fun σ H Q h => by
    obtain ⟨ω, ρ, sl, st, a, h⟩ := h
    refine tG.mono (split a h) fun x' H1 ⟨x, ρ1, st1, E1, e1, a1, r1, h1⟩ => ?_
    obtain rfl : x' = x := r1
    exact h1.ret a1 _ rfl
theorem t_and {a b : Expr} {rest : List Expr} {d f : De Bool} (ha : PT X a (tT X.K G W d)) (hb : PW X (.BoolOp .And (b :: rest) pos) (tT X.K G W f)) : PW X (.BoolOp .And (a :: b :: rest) pos) (tT X.K G W (dIf d f (De.ret false))) :=
  ⟨fun wh pins s σ H Q I h => (pw_and ha hb).run wh pins s σ H Q I (by
    obtain ⟨ω, ρ, sl, st, a, h⟩ := h
    refine tG.mono (split a h) fun x' H1 ⟨x, ρ1, st1, E1, e1, a1, r1, h1⟩ => ?_
    obtain rfl : x' = x := r1
    cases x' with
    | true => exact iteT ⟨ω, ρ1, sl, st1, a1, h1⟩
    | false => exact iteF (h1.ret a1 _ rfl))⟩
theorem t_or {a b : Expr} {rest : List Expr} {d f : De Bool} (ha : PT X a (tT X.K G W d)) (hb : PW X (.BoolOp .Or (b :: rest) pos) (tT X.K G W f)) : PW X (.BoolOp .Or (a :: b :: rest) pos) (tT X.K G W (dIf d (De.ret true) f)) :=
  ⟨fun wh pins s σ H Q I h => (pw_or ha hb).run wh pins s σ H Q I (by
    obtain ⟨ω, ρ, sl, st, a, h⟩ := h
    refine tG.mono (split a h) fun x' H1 ⟨x, ρ1, st1, E1, e1, a1, r1, h1⟩ => ?_
    obtain rfl : x' = x := r1
    cases x' with
    | true => exact iteT (h1.ret a1 _ rfl)
    | false => exact iteF ⟨ω, ρ1, sl, st1, a1, h1⟩)⟩
theorem d_ite {c a b : Expr} {d : De Bool} {da db : De D} (hc : PT X c (tT X.K G W d)) (ha : PE X a (tD X.K G W da)) (hb : PE X b (tD X.K G W db)) : PE X (.IfExp c a b pos) (tD X.K G W (dIf d da db)) :=
  PE.imp (pe_ifExp hc ha hb) fun σ H Q h => by
    obtain ⟨ω, ρ, sl, st, a, h⟩ := h
    refine tG.mono (split a h) fun x' H1 ⟨x, ρ1, st1, E1, e1, a1, r1, h1⟩ => ?_
    obtain rfl : x' = x := r1
    cases x' with
    | true => exact iteT ⟨ω, ρ1, sl, st1, a1, h1⟩
    | false => exact iteF ⟨ω, ρ1, sl, st1, a1, h1⟩
/-- `a and b`, `a or b`, `not a` as values -/
def dAnd (d f : De D) : De D := d.bnd fun x => (De.of (tru x)).bnd fun k => match k with
  | true => f
  | false => De.ret x
def dOr (d f : De D) : De D := d.bnd fun x => (De.of (tru x)).bnd fun k => match k with
  | true => De.ret x
  | false => f
theorem d_and {a b : Expr} {rest : List Expr} {d f : De D} (ha : PE X a (tD X.K G W d)) (hb : PE X (.BoolOp .And (b :: rest) pos) (tD X.K G W f)) : PE X (.BoolOp .And (a :: b :: rest) pos) (tD X.K G W (dAnd d f)) :=
  PE.imp (pe_andT ha hb) fun σ H Q h => by
    obtain ⟨ω, ρ, sl, st, a, h⟩ := h
    refine tG.mono (split a h) fun x' H1 ⟨x, ρ1, st1, E1, e1, a1, r1, h1⟩ => ?_
    unfold De.bnd De.of at h1
    cases ek : tru x st1 with
    | none => simp only [ek] at h1; exact h1.elim
    | some k =>
      simp only [ek] at h1
      refine ⟨k, tru_ok a1.sto r1 ek, ?_⟩
      cases k with
      | true => exact iteT ⟨ω, ρ1, sl, st1, a1, h1⟩
      | false => exact iteF (h1.ret a1 _ r1)
theorem d_or {a b : Expr} {rest : List Expr} {d f : De D} (ha : PE X a (tD X.K G W d)) (hb : PE X (.BoolOp .Or (b :: rest) pos) (tD X.K G W f)) : PE X (.BoolOp .Or (a :: b :: rest) pos) (tD X.K G W (dOr d f)) :=
  PE.imp (pe_orT ha hb) fun σ H Q h => by
    obtain ⟨ω, ρ, sl, st, a, h⟩ := h
    refine tG.mono (split a h) fun x' H1 ⟨x, ρ1, st1, E1, e1, a1, r1, h1⟩ => ?_
    unfold De.bnd De.of at h1
    cases ek : tru x st1 with
    | none => simp only [ek] at h1; exact h1.elim
    | some k =>
      simp only [ek] at h1
      refine ⟨k, tru_ok a1.sto r1 ek, ?_⟩
      cases k with
      | true => exact iteT (h1.ret a1 _ r1)
      | false => exact iteF ⟨ω, ρ1, sl, st1, a1, h1⟩
theorem d_not {a : Expr} {d : De D} (ha : PE X a (tD X.K G W d)) : PE X (.UnaryOp .Not a pos) (tD X.K G W (d.bnd fun x => De.of fun st => (tru x st).map fun k => .bl (!k))) :=
  PE.imp (pe_notT ha) fun σ H Q h => by
    obtain ⟨ω, ρ, sl, st, a, h⟩ := h
    refine tG.mono (split a h) fun x' H1 ⟨x, ρ1, st1, E1, e1, a1, r1, h1⟩ => ?_
    obtain ⟨z, e, q⟩ := h1.of
    obtain ⟨k, ek, rfl⟩ := Option.map_eq_some_iff.mp e
    exact ⟨k, tru_ok a1.sto r1 ek, q _ H1 ρ1 .refl a1.sto (.bl _)⟩
/-! arguments, displays -/
def De.cons (d : De D) (r : De (List D)) : De (List D) := d.bnd fun x => r.bnd fun xs => De.ret (x :: xs)
theorem as_nil : PA X [] (tAs X.K G W (De.ret [])) := PA.imp pa_nil fun σ H Q h => by
  obtain ⟨ω, ρ, sl, st, a, h⟩ := h
  exact h.ret a [] .nil
theorem as_cons {e : Expr} {es : List Expr} {d : De D} {r : De (List D)} (he : PE X e (tD X.K G W d)) (hr : PA X es (tAs X.K G W r)) (hs : starEach (e :: es) X.env = (false, eval e X.env) :: starEach es X.env) :
    PA X (e :: es) (tAs X.K G W (De.cons d r)) := PA.imp (pa_cons he hr hs) fun σ H Q h => by
  obtain ⟨ω, ρ, sl, st, a, h⟩ := h
  refine tG.mono (split a h) fun x' H1 ⟨x, ρ1, st1, E1, e1, a1, r1, h1⟩ => ?_
  refine tG.mono (split a1 h1) fun y' H2 ⟨y, ρ2, st2, E2, e2, a2, r2, h2⟩ => ?_
  exact h2.ret a2 _ (.cons (r1.ext e2) r2)
abbrev Short (r : De (List D)) : Prop := ∀ sl st xs st', r sl st = some (.ok xs, st') → xs.length ≤ 1000
theorem short_line {n : Nat} (h : n ≤ 1000) : n ≤ sizeLine := Nat.le_trans h (by decide)
theorem d_tup {es : List Expr} {r : De (List D)} {x1 : Nat} (h : PA X es (tAs X.K G W r)) (hs : Short r) : PE X (.Tuple es x1 pos) (tD X.K G W (r.bnd fun xs => De.ret (.tup xs))) :=
  PE.imp (pe_tup h) fun σ H Q h => by
    obtain ⟨ω, ρ, sl, st, a, h⟩ := h
    refine tG.mono (split a h) fun x' H1 ⟨x, ρ1, st1, E1, e1, a1, r1, h1⟩ => ?_
    refine ⟨short_line (by rw [r1.length]; exact hs _ _ _ _ E1), fun p hp => ?_⟩
    have e2 : Ext ω ρ1 H1 ρ1 (upd H1 p (.tup x')) := Ext.new hp a1.sto.tr
    exact h1 (.ref p) _ ρ1 e2 (a1.sto.new hp) (.tup (.inl upd_same) (a1.sto.fresh hp).1 (a1.sto.fresh hp).2 (RpL.ext e2 r1))
theorem PostN.of_split {r : De (List D)} {ω ρ : List Addr} {H : Hp} {σ : L2.St} {sl : Sl} {st : Sto} {Q : VK} {K : PySem.W.Frag} (a : At K ω ρ H σ sl st) (h : PostN K G W ω ρ H σ sl Q (r sl st)) :
    tAs K G W r σ H (fun vs H1 => ∃ xs ρ1 st1, r sl st = some (.ok xs, st1) ∧ Ext ω ρ H ρ1 H1 ∧ StoR K ω ρ1 H1 st1 ∧ RpL K ω ρ1 H1 vs xs ∧ ∀ p, H1 p = none → Q (.ref p) (upd H1 p (.lst vs))) := by
  refine ⟨ω, ρ, sl, st, a, ?_⟩
  cases e : r sl st with
  | none => rw [e] at h; exact h
  | some p =>
    obtain ⟨z, st'⟩ := p
    rw [e] at h
    cases z with
    | ok xs => exact fun vs H' ρ' e' s q => ⟨xs, ρ', st', rfl, e', s, q, fun p hp => h vs H' ρ' p e' s q hp⟩
    | ex c x => exact h
theorem n_disp {es : List Expr} {r : De (List D)} (h : PA X es (tAs X.K G W r)) (hs : Short r) : PE X (.List es pos) (tN X.K G W r) :=
  PE.imp (pe_lst h) fun σ H Q h => by
    obtain ⟨ω, ρ, sl, st, a, h⟩ := h
    refine tG.mono (PostN.of_split a h) fun vs H1 ⟨xs, ρ1, st1, E1, e1, s1, r1, q⟩ => ?_
    exact ⟨short_line (by rw [r1.length]; exact hs _ _ _ _ E1), q⟩
/-! calls of built-ins -/
theorem of_rn {K : PySem.W.Frag} {f : List D → Sto → Option D} {ω ρ : List Addr} {H : Hp} {σ : L2.St} {sl : Sl} {st : Sto} {Q : VK} {xs : List D} {xs' : List V} (s : StoR K ω ρ H st) (rx : RpL K ω ρ H xs' xs)
    (h : PostG K G W (RD K) ω ρ H σ sl Q (De.of (f xs) sl st)) : rVn K f xs' H Q := by
  obtain ⟨z, e, q⟩ := h.of
  exact ⟨ω, ρ, st, xs, z, s, rx, e, fun z' H' e1 s1 r1 => q z' H' ρ e1 s1 r1⟩
theorem d_blt {x : Str} {id : String} {e : Expr} {es : List Expr} {p : Pos} {r : De (List D)} {f : List D → Sto → Option D} (hc : CallR X (.builtin id) (rVn X.K f)) (hg : Gl X x) (hm : X.mg x = none) (hv : bootBuiltins x = some (.builtin id)) (ha : PA X (e :: es) (tAs X.K G W r))
    (hn : x ≠ "__name__") (hdb : (x == ("__debug__" : Str)) = false) (he : starEach (e :: es) X.env = (false, eval e X.env) :: starEach es X.env) (hpl : (backTo pos (starEach es X.env)).any (·.1) = false) :
    PE X (.Call (.Name x p) (e :: es) [] pos) (tD X.K G W (r.bnd fun xs => De.of (f xs))) := PE.imp (pe_callB hc hg hm hv ha hn hdb he hpl) fun σ H Q h => by
  obtain ⟨ω, ρ, sl, st, a, h⟩ := h
  refine tG.mono (split a h) fun x' H1 ⟨x, ρ1, st1, E1, e1, a1, r1, h1⟩ => ?_
  exact of_rn a1.sto r1 h1
theorem d_ty {x : Str} {T : String} {e : Expr} {es : List Expr} {p : Pos} {r : De (List D)} {f : List D → Sto → Option D} (hc : CallR X (.type T) (rVn X.K f)) (hg : Gl X x) (hm : X.mg x = none) (hv : bootBuiltins x = some (.type T)) (ha : PA X (e :: es) (tAs X.K G W r))
    (hn : x ≠ "__name__") (hdb : (x == ("__debug__" : Str)) = false) (he : starEach (e :: es) X.env = (false, eval e X.env) :: starEach es X.env) (hpl : (backTo pos (starEach es X.env)).any (·.1) = false) :
    PE X (.Call (.Name x p) (e :: es) [] pos) (tD X.K G W (r.bnd fun xs => De.of (f xs))) := PE.imp (pe_callTy hc hg hm hv ha hn hdb he hpl) fun σ H Q h => by
  obtain ⟨ω, ρ, sl, st, a, h⟩ := h
  refine tG.mono (split a h) fun x' H1 ⟨x, ρ1, st1, E1, e1, a1, r1, h1⟩ => ?_
  exact of_rn a1.sto r1 h1
theorem n_ty {x : Str} {T : String} {e : Expr} {es : List Expr} {p : Pos} {r : De (List D)} {f : List D → Sto → Option (List D)} (hc : CallR X (.type T) (rVl X.K f)) (hg : Gl X x) (hm : X.mg x = none) (hv : bootBuiltins x = some (.type T)) (ha : PA X (e :: es) (tAs X.K G W r))
    (hn : x ≠ "__name__") (hdb : (x == ("__debug__" : Str)) = false) (he : starEach (e :: es) X.env = (false, eval e X.env) :: starEach es X.env) (hpl : (backTo pos (starEach es X.env)).any (·.1) = false) :
    PE X (.Call (.Name x p) (e :: es) [] pos) (tN X.K G W (r.bnd fun xs => De.of (f xs))) := PE.imp (pe_callTy hc hg hm hv ha hn hdb he hpl) fun σ H Q h => by
  obtain ⟨ω, ρ, sl, st, a, h⟩ := h
  refine ⟨ω, ρ, sl, st, a, ?_⟩
  unfold De.bnd at h
  cases e : r sl st with
  | none => rw [e] at h; exact h
  | some p =>
    obtain ⟨z, st'⟩ := p
    rw [e] at h
    cases z with
    | ok xs =>
      intro vs H1 ρ1 e1 s1 r1
      have h' : PostN X.K G W ω ρ H σ sl Q ((f xs st').map fun a => (Rs.ok a, st')) := h
      cases e2 : f xs st' with
      | none => rw [e2] at h'; exact h'.elim
      | some zs =>
        rw [e2] at h'
        exact ⟨ω, ρ1, st', xs, zs, s1, r1, e2, fun zs' H' p e3 s3 r3 hp => h' zs' H' ρ1 p (e1.trans e3) s3 r3 hp⟩
    | ex c x => exact h
end
end Hb

set_option Elab.async false
set_option linter.all false
set_option maxRecDepth 100000
set_option maxHeartbeats 1000000
/-! Part C: methods, slices, calls of defs, what is walked, comprehensions. -/
namespace Hb
open PySem PySem.Spec L2
section
variable {X : Cx} {G : Gd} {W : WX} {pos : Pos} {e o : Expr} {es : List Expr}

/-! ### methods of built-in types -/
inductive RK where
  | str | lst
  deriving DecidableEq
def RK.T : RK → String
  | .str => "str"
  | .lst => "list"
def rk (d : D) (st : Sto) : Option RK := match d with
  | .str _ => some .str
  | .lst _ => some .lst
  | .scr _ => some .lst
  | .ref l => match st.o[l]? with
    | some (.lst _) => some .lst
    | _ => none
  | _ => none
theorem rk_ty {K : PySem.W.Frag} {ω ρ : List Addr} {H : Hp} {st : Sto} (s : StoR K ω ρ H st) {v : V} {d : D} (r : Rp K ω ρ H v d) {k : RK} (e : rk d st = some k) : tyV K k.T v H := by
  cases r with
  | str x => cases e; rfl
  | lst h _ _ t => cases e; exact .inl ⟨rfl, _, .of h⟩
  | scr h _ _ t => cases e; exact .inl ⟨rfl, _, .inl (.inr ⟨_, h⟩)⟩
  | scrK h t => cases e; exact .inl ⟨rfl, _, h H⟩
  | @ref a l h =>
    have e' : (match st.o[l]? with
      | some (.lst _) => some RK.lst
      | _ => none) = some k := e
    cases q : st.o[l]? with
    | none => rw [q] at e'; cases e'
    | some ob =>
      rw [q] at e'
      cases ob with
      | lst xs =>
        cases e'
        cases s.obj l _ a q h with
        | lst h1 t => exact .inl ⟨rfl, _, .of h1⟩
      | _ => cases e'
  | _ => cases e
/-- a value and the store behind it -/
def De.upd {α : Type} (f : Sto → Option (α × Sto)) : De α := fun _ st => (f st).map fun p => (.ok p.1, p.2)
theorem PostG.upd {α β : Type} {K : PySem.W.Frag} {R : Rel β α} {f : Sto → Option (α × Sto)} {ω ρ : List Addr} {H : Hp} {σ : L2.St} {sl : Sl} {st : Sto} {Q : β → Hp → Prop} (h : PostG K G W R ω ρ H σ sl Q (De.upd f sl st)) :
    ∃ x st', f st = some (x, st') ∧ ∀ (b : β) (H' : Hp) (ρ' : List Addr), Ext ω ρ H ρ' H' → StoR K ω ρ' H' st' → R ω ρ' H' b x → Q b H' := by
  unfold De.upd at h
  cases e : f st with
  | none => rw [e] at h; exact h.elim
  | some p => rw [e] at h; exact ⟨p.1, p.2, rfl, h⟩
def rVM (K : PySem.W.Frag) (g : D → List D → Sto → Option (D × Sto)) : V → List V → Hp → VK → Prop := fun x' xs' H Q => ∃ ω ρ st x xs z st', StoR K ω ρ H st ∧ Rp K ω ρ H x' x ∧ RpL K ω ρ H xs' xs ∧ g x xs st = some (z, st') ∧
  ∀ (z' : V) (H' : Hp), Ext ω ρ H ρ H' → StoR K ω ρ H' st' → Rp K ω ρ H' z' z → Q z' H'
/-- a method's name, what receivers it takes, what it does -/
def MtOk (X : Cx) (name : Str) (mk : D → Sto → Option RK) (g : RK → D → List D → Sto → Option (D × Sto)) : Prop :=
  ∀ x st k, mk x st = some k → rk x st = some k ∧ ∃ id, PlainAttrs k.T ∧ Slot k.T name id ∧ typeOf (.builtin id) = pure (.type "method_descriptor") ∧ MtR X id (rVM X.K (g k))
def dMeth (do_ : De D) (mk : D → Sto → Option RK) (r : De (List D)) (g : RK → D → List D → Sto → Option (D × Sto)) : De D := do_.bnd fun x => (De.of (mk x)).bnd fun k => r.bnd fun xs => De.upd (g k x xs)
theorem d_meth {name : Str} {apos cpos : Pos} {mk : D → Sto → Option RK} {g : RK → D → List D → Sto → Option (D × Sto)} {do_ : De D} {r : De (List D)} (hk : MtOk X name mk g) (ho : PE X o (tD X.K G W do_)) (ha : PA X es (tAs X.K G W r))
    (hbase : attributeBase o name X.env (eval o X.env) = eval o X.env)
    (hfew : ((backTo cpos (starEach es X.env)).all (fun x => !x.1) && (backToKw cpos (keywordEach [] X.env)).all (fun x => x.1.isSome)
      && decide (es.length + ([] : List Keyword).length + (if ([] : List Keyword).isEmpty then 0 else 1) < 30)) = true)
    (hline : (apos.endLine == cpos.line) = true) (hs : ∀ e' es', es = e' :: es' → starEach es X.env = (false, eval e' X.env) :: starEach es' X.env) (hplain : (backTo cpos (starEach es X.env)).any (·.1) = false) (h0 : es = [] → r = De.ret []) :
    PE X (.Call (.Attribute o name apos) es [] cpos) (tD X.K G W (dMeth do_ mk r g)) := by
  refine ⟨fun pins s σ H Q I h => ?_⟩
  obtain ⟨ω, ρ, sl, st, a, h⟩ := h
  refine wpAny_Call_method_late hbase hfew hline rfl (thn (ho.run pins s σ H _ I (split a h)) fun v s1 ⟨x', H1, I1, rv, x, ρ1, st1, E1, e1, a1, r1, h1⟩ => ?_)
  cases ek : mk x st1 with
  | none => simp only [De.bnd, De.of, ek] at h1; exact h1.elim
  | some k =>
    simp only [De.of, De.bnd, ek, Option.map_some] at h1
    obtain ⟨k1, id, pa, slot, hty, hm⟩ := hk x st1 k ek
    obtain ⟨t1, t2⟩ := tyV_is I1 rv (rk_ty a1.sto r1 k1)
    refine ⟨k.T, id, pa, slot, hty, t1, t2, ?_⟩
    refine Calls.callWith_builtin hplain ?_
    cases es with
    | nil =>
      obtain rfl := h0 rfl
      obtain ⟨z, st3, ez, q⟩ := PostG.upd (f := g k x []) h1
      exact PySem.evalArgs_none (hm pins s1 σ H1 x' [] v [] Q I1 rv .nil ⟨ω, ρ1, st1, x, [], z, st3, a1.sto, r1, .nil, ez, fun z' H' e3 s3 r3 => q z' H' ρ1 e3 s3 r3⟩)
    | cons e' es' =>
      have fin := ha.run cpos pins s1 σ H1 _ I1 (split (R := RA X.K) a1 h1)
      rw [hs e' es' rfl] at fin ⊢
      refine Calls.evalArgs_plain (thn fin fun us s2 ⟨vs, H2, I2, rvs, y, ρ2, st2, E2, e2, a2, r2, h2⟩ => ?_)
      obtain ⟨z, st3, ez, q⟩ := h2.upd
      exact hm pins s2 σ H2 x' vs v us Q I2 rv rvs ⟨ω, ρ2, st2, x, y, z, st3, a2.sto, r1.ext e2, r2, ez, fun z' H' e3 s3 r3 => q z' H' ρ2 e3 s3 r3⟩

/-! ### slices -/
abbrev tOp1 (K : PySem.W.Frag) (G : Gd) (W : WX) (d : De (Option Int)) : TO := tG K G W (fun _ _ _ (b a : Option Int) => b = a) d
def asI : D → Option Int
  | .int i => some i
  | _ => none
theorem asI_ok {K : PySem.W.Frag} {ω ρ : List Addr} {H : Hp} {v : V} {d : D} {k : Int} (r : Rp K ω ρ H v d) (e : asI d = some k) : v = .int k := by
  cases r with
  | int b => cases e; rfl
  | _ => cases e
theorem o_none : PO X none (tOp1 X.K G W (De.ret none)) := ⟨fun pins s σ H Q I h => po_none.run pins s σ H Q I (by
  obtain ⟨ω, ρ, sl, st, a, h⟩ := h
  exact h.ret a none rfl)⟩
theorem o_some {d : De D} (he : PE X e (tD X.K G W d)) : PO X (some e) (tOp1 X.K G W (d.bnd fun x => De.of fun _ => (asI x).map some)) := ⟨fun pins s σ H Q I h => (po_some he).run pins s σ H Q I (by
  obtain ⟨ω, ρ, sl, st, a, h⟩ := h
  refine tG.mono (split a h) fun x' H1 ⟨x, ρ1, st1, E1, e1, a1, r1, h1⟩ => ?_
  obtain ⟨z, ez, q⟩ := h1.of
  obtain ⟨i, ei, rfl⟩ := Option.map_eq_some_iff.mp ez
  exact ⟨i, asI_ok r1 ei, q _ H1 ρ1 .refl a1.sto rfl⟩)⟩
def rVs (K : PySem.W.Frag) (f : D → Option Int → Option Int → Sto → Option D) : V → Option Int → Option Int → Hp → VK → Prop := fun x' lo hi H Q => ∃ ω ρ st x z, StoR K ω ρ H st ∧ Rp K ω ρ H x' x ∧ f x lo hi st = some z ∧
  ∀ (z' : V) (H' : Hp), Ext ω ρ H ρ H' → StoR K ω ρ H' st → Rp K ω ρ H' z' z → Q z' H'
theorem d_slice {lo hi : Option Expr} {p2 : Pos} {d : De D} {dl dh : De (Option Int)} {f : D → Option Int → Option Int → Sto → Option D} (hr : SlR X (rVs X.K f)) (he : PE X e (tD X.K G W d)) (hl : PO X lo (tOp1 X.K G W dl)) (hu : PO X hi (tOp1 X.K G W dh)) :
    PE X (.Subscript e (.Slice lo hi none p2) pos) (tD X.K G W (d.bnd fun x => dl.bnd fun l => dh.bnd fun u => De.of (f x l u))) := PE.imp (pe_slice hr he hl hu) fun σ H Q h => by
  obtain ⟨ω, ρ, sl, st, a, h⟩ := h
  refine tG.mono (split a h) fun x' H1 ⟨x, ρ1, st1, E1, e1, a1, r1, h1⟩ => ?_
  refine tG.mono (split a1 h1) fun l' H2 ⟨l, ρ2, st2, E2, e2, a2, r2, h2⟩ => ?_
  refine tG.mono (split a2 h2) fun u' H3 ⟨u, ρ3, st3, E3, e3, a3, r3, h3⟩ => ?_
  obtain rfl : l' = l := r2
  obtain rfl : u' = u := r3
  obtain ⟨z, ez, q⟩ := h3.of
  exact ⟨ω, ρ3, st3, x, z, a3.sto, (r1.ext e2).ext e3, ez, fun z' H' e4 s4 r4 => q z' H' ρ3 e4 s4 r4⟩

/-! ### calls of defs -/
abbrev Cl := List D → Sto → Option (Rs D × Sto)
/-- a def's promise: it does d -/
def spD (K : PySem.W.Frag) (G : Gd) (d : Cl) : Sp := fun vs H Q E => ∃ ω ρ st ds, StoR K ω ρ H st ∧ RpL K ω ρ H vs ds ∧ match d ds st with
  | none => False
  | some (.ok v, st') => ∀ (v' : V) (H' : Hp) (ρ' : List Addr), Ext ω ρ H ρ' H' → StoR K ω ρ' H' st' → Rp K ω ρ' H' v' v → Q v' H'
  | some (.ex c x, st') => ∀ (dd : Addr) (xv : V) (H' : Hp) (ρ' : List Addr), Ext ω ρ H ρ' H' → StoR K ω ρ' H' st' → Rp K ω ρ' H' xv x → H' dd = some (.xd [(G.cfl c, xv)]) → dd ∉ ρ' → dd ∉ ω → E (.ref (G.cad c)) (some dd) H'
theorem of_spD {K : PySem.W.Frag} {d : Cl} {ω ρ : List Addr} {H : Hp} {σ : L2.St} {sl : Sl} {st : Sto} {Q : VK} {xs : List D} {xs' : List V} (s : StoR K ω ρ H st) (r : RpL K ω ρ H xs' xs)
    (h : PostG K G W (RD K) ω ρ H σ sl Q (d xs st)) : spD K G d xs' H Q (WE W σ) := by
  refine ⟨ω, ρ, st, xs, s, r, ?_⟩
  cases e : d xs st with
  | none => rw [e] at h; exact h
  | some p =>
    obtain ⟨z, st'⟩ := p
    rw [e] at h
    cases z with
    | ok v => exact h
    | ex c x => exact h
theorem d_call {d : Cl} {k : Nat} {f : Addr} {fd : FuncData} {ps : List Str} {x : Str} {p : Pos} {r : De (List D)} (F : FnOk X.prog X.w X.K X.mg X.base (L2.CX X.prog X.w) k f fd ps (spD X.K G d)) (hr : Room k X.A) (hg : Gl X x) (hm : X.mg x = some (.ref f))
    (hk : PySem.W.keepIn X.K (.ref f) = true) (hb : Binds X.K fd ps []) (tk : Takes X W) (ha : PA X (e :: es) (tAs X.K G W r)) (hdb : (x == ("__debug__" : Str)) = false)
    (he : starEach (e :: es) X.env = (false, eval e X.env) :: starEach es X.env) (hpl : (backTo pos (starEach es X.env)).any (·.1) = false) :
    PE X (.Call (.Name x p) (e :: es) [] pos) (tD X.K G W (r.bnd fun xs _ st => d xs st)) := PE.imp (pe_callS F hr hg hm hk hb (fun σ => passAt tk σ) ha hdb he hpl) fun σ H Q h => by
  obtain ⟨ω, ρ, sl, st, a, h⟩ := h
  refine tG.mono (split a h) fun x' H1 ⟨x, ρ1, st1, E1, e1, a1, r1, h1⟩ => ?_
  exact of_spD a1.sto r1 h1
theorem d_call0 {d : Cl} {k : Nat} {f : Addr} {fd : FuncData} {ps : List Str} {x : Str} {p : Pos} (F : FnOk X.prog X.w X.K X.mg X.base (L2.CX X.prog X.w) k f fd ps (spD X.K G d)) (hr : Room k X.A) (hg : Gl X x) (hm : X.mg x = some (.ref f))
    (hk : PySem.W.keepIn X.K (.ref f) = true) (hb : Binds X.K fd ps []) (tk : Takes X W) (hdb : (x == ("__debug__" : Str)) = false) :
    PE X (.Call (.Name x p) [] [] pos) (tD X.K G W fun _ st => d [] st) := by
  refine ⟨fun pins s σ H Q I h => ?_⟩
  obtain ⟨ω, ρ, sl, st, a, h⟩ := h
  refine wpAny_Call_Name_kw (ld_glob I hg hm ?_ hdb)
  exact PySem.W.callWith_K0 I.kIn hk (run_fnS (us := []) F hr hb (passAt tk σ) I .nil (of_spD a.sto .nil h))

/-! ### targets -/
inductive Tg where
  | nm (i : Nat) | tp (is : List Nat)
def Tg.sl : Tg → List Nat
  | .nm i => [i]
  | .tp is => is
def setAll : List Nat → List D → Sl → Sl
  | i :: is, d :: ds, sl => setAll is ds (sl.set i (some d))
  | _, _, sl => sl
def setT (t : Tg) (d : D) (sl : Sl) : Option Sl := match t, d with
  | .nm i, d => some (sl.set i (some d))
  | .tp is, .tup ds => if is.length = ds.length then some (setAll is ds sl) else none
  | _, _ => none
theorem wipe_out' {v : Option V} {i : Nat} : ∀ (vs : List Nat) (σ : L2.St), i ∉ vs → wipe (σ.set i v) vs = (wipe σ vs).set i v
  | [], _, _ => rfl
  | j :: vs, σ, h => by
    show (wipe (σ.set i v) vs).set j none = ((wipe σ vs).set j none).set i v
    rw [wipe_out' vs σ fun z => h (List.mem_cons_of_mem _ z)]
    exact List.set_comm _ _ fun z => h (by rw [z]; exact List.mem_cons_self)
theorem wipe_set {v : Option V} {i : Nat} : ∀ (vs : List Nat) (σ : L2.St), i ∈ vs → wipe (σ.set i v) vs = wipe σ vs
  | [], _, h => by cases h
  | j :: vs, σ, h => by
    show (wipe (σ.set i v) vs).set j none = (wipe σ vs).set j none
    by_cases hm : i ∈ vs
    · rw [wipe_set vs σ hm]
    · rw [wipe_out' vs σ hm]
      rcases List.mem_cons.mp h with z | z
      · subst z
        rw [List.set_set]
      · exact absurd z hm
/-- storing at targets: what is wanted is wanted of the slots so set -/
def gT (K : PySem.W.Frag) (t : Tg) : TG := fun v σ H Q => ∃ ω ρ sl st d sl1, At K ω ρ H σ sl st ∧ Rp K ω ρ H v d ∧ setT t d sl = some sl1 ∧
  ∀ σ1, SlotR K ω ρ H σ1 sl1 → (∀ vs, (∀ i ∈ t.sl, i ∈ vs) → wipe σ1 vs = wipe σ vs) → Q σ1 H
theorem g_nm {i : Nat} {x : Str} (hN : X.N.Nodup) (hi : X.N[i]? = some x) (hx : Loc X.env.scope x) (hf : X.fn x = true ∨ X.env.scope.names.lookup x = some .local) : PG X (.Name x pos) (gT X.K (.nm i)) :=
  ⟨fun pins s σ H v u Q I r h => (pg_name hN hi hx hf).run pins s σ H v u Q I r (by
    obtain ⟨ω, ρ, sl, st, d, sl1, a, rv, e, q⟩ := h
    cases e
    exact q _ (a.slo.set rv) fun vs hv => wipe_set vs σ (hv i (by simp [Tg.sl])))⟩
/-- several names -/
inductive GNs (X : Cx) : List Expr → List Nat → TGs → Prop
  | nil : GNs X [] [] gNil
  | cons {x : Str} {pos : Pos} {i : Nat} {es : List Expr} {is : List Nat} {t : TGs} (hi : X.N[i]? = some x) (hx : Loc X.env.scope x) (hf : X.fn x = true ∨ X.env.scope.names.lookup x = some .local) (r : GNs X es is t) : GNs X (.Name x pos :: es) (i :: is) (gCons (gName i) t)
theorem GNs.ok (hN : X.N.Nodup) : ∀ {es : List Expr} {is : List Nat} {t : TGs}, GNs X es is t → PGs X es t ∧ (assignEach es X.env).length = is.length ∧ (assignEach es X.env).findIdx? (·.1) = none
  | _, _, _, .nil => ⟨pgs_nil, rfl, rfl⟩
  | _, _, _, .cons hi hx hf r => by
    obtain ⟨h1, h2, h3⟩ := GNs.ok hN r
    refine ⟨pgs_cons (pg_name hN hi hx hf) h1 rfl, ?_, ?_⟩
    · show ((false, _) :: assignEach _ X.env).length = _
      simp [h2]
    · show ((false, _) :: assignEach _ X.env).findIdx? _ = none
      simp [List.findIdx?_cons, h3]
theorem GNs.run {K : PySem.W.Frag} {ω ρ : List Addr} {H : Hp} : ∀ {es : List Expr} {is : List Nat} {t : TGs} {vs : List V} {ds : List D} {σ : L2.St} {sl : Sl} {Q : L2.St → Hp → Prop}, GNs X es is t → RpL K ω ρ H vs ds → is.length = ds.length → SlotR K ω ρ H σ sl →
    (∀ σ1, SlotR K ω ρ H σ1 (setAll is ds sl) → (∀ ws, (∀ i ∈ is, i ∈ ws) → wipe σ1 ws = wipe σ ws) → Q σ1 H) → t vs σ H Q
  | _, _, _, _, _, σ, sl, Q, .nil, r, hl, s, q => by
    cases r with
    | nil => exact ⟨rfl, q σ s fun _ _ => rfl⟩
    | cons _ _ => simp at hl
  | _, _, _, _, _, σ, sl, Q, .cons (i := i) (is := is) hi hx hf g, r, hl, s, q => by
    cases r with
    | nil => simp at hl
    | cons r t =>
      refine ⟨_, _, rfl, GNs.run g t (by simpa using hl) (s.set r) fun σ1 s1 w1 => q σ1 s1 fun ws hw => ?_⟩
      rw [w1 ws fun j hj => hw j (List.mem_cons_of_mem _ hj)]
      exact wipe_set ws σ (hw i (by simp))
theorem g_tp {es : List Expr} {is : List Nat} {t : TGs} {k : Nat} (hc : X.calm = true) (hN : X.N.Nodup) (g : GNs X es is t) : PG X (.Tuple es k pos) (gT X.K (.tp is)) :=
  ⟨fun pins s σ H v u Q I r h => (pg_tup (n := is.length) hc (g.ok hN).1 (g.ok hN).2.1 (g.ok hN).2.2).run pins s σ H v u Q I r (by
    obtain ⟨ω, ρ, sl, st, d, sl1, a, rv, e, q⟩ := h
    cases d with
    | tup ds =>
      have e' : (if is.length = ds.length then some (setAll is ds sl) else none) = some sl1 := e
      split at e'
      · next hl =>
        cases e'
        obtain ⟨b, vs, rfl, h1, h2⟩ := rv.sqT
        exact ⟨b, vs, rfl, h1, h2.length.trans hl.symm, g.run h2 hl a.slo fun σ1 s1 w1 => q σ1 s1 w1⟩
      · cases e'
    | _ => cases e)⟩

/-! ### what is walked -/
theorem Rp.go {K : PySem.W.Frag} {ω ω2 ρ ρ2 : List Addr} {H H2 : Hp} (e : Ext ω ρ H ρ2 H2) (h : ∀ a ∈ ω2, a ∈ ω ∨ H a = none) : ∀ {v : V} {d : D}, Rp K ω ρ H v d → Rp K ω2 ρ2 H2 v d := by
  have nn : ∀ {a : Addr} {u : HO}, Rd H a u → a ∉ ω → a ∉ ω2 := fun {a u} r n z => by
    rcases h a z with q | q
    · exact n q
    · rcases r with r | ⟨o, r⟩ <;> (rw [q] at r; cases r)
  intro v d r
  induction r using Rp.rec (motive_2 := fun vs ds _ => RpL K ω2 ρ2 H2 vs ds) with
  | non => exact .non
  | bl b => exact .bl b
  | int i => exact .int i
  | str x => exact .str x
  | tup r h1 h2 _ t => exact .tup (e.rd r h1 h2).1 (e.rd r h1 h2).2 (nn r h2) t
  | tupK r _ t => exact .tupK r t
  | dic r l h1 h2 _ t => exact .dic (e.keep _ _ r h1 h2) l (e.rd (.inl r) h1 h2).2 (nn (.inl r) h2) t
  | scrK r _ t => exact .scrK r t
  | lst r h1 h2 _ t => exact .lst (e.keep _ _ r h1 h2) (e.rd (.inl r) h1 h2).2 (nn (.inl r) h2) t
  | scr r h1 h2 _ t => exact .scr (e.keep _ _ r h1 h2) (e.rd (.inl r) h1 h2).2 (nn (.inl r) h2) t
  | ref h => exact .ref (e.at h)
  | nil => exact .nil
  | cons _ _ r t => exact .cons r t
theorem RpL.go {K : PySem.W.Frag} {ω ω2 ρ ρ2 : List Addr} {H H2 : Hp} (e : Ext ω ρ H ρ2 H2) (h : ∀ a ∈ ω2, a ∈ ω ∨ H a = none) : ∀ {vs : List V} {ds : List D}, RpL K ω ρ H vs ds → RpL K ω2 ρ2 H2 vs ds
  | _, _, .nil => .nil
  | _, _, .cons r t => .cons (r.go e h) (RpL.go e h t)
/-- the items, and what must stay true of the store for them to be the items -/
abbrev Its := List D × (Sto → Bool)
/-- the iterator J walks these items, from now on, whatever else is hidden later -/
def Wk (K : PySem.W.Frag) : Rel It Its := fun ω ρ H J xg => ∀ ω2 ρ2 H2 st2, Ext ω ρ H ρ2 H2 → (∀ a ∈ ω2, a ∈ ω ∨ H a = none) → StoR K ω2 ρ2 H2 st2 → xg.2 st2 = true →
  (∀ i x, xg.1[i]? = some x → J.go i H2 ∧ ∀ v H3, J.yld i H2 v H3 → Ext ω2 ρ2 H2 ρ2 H3 ∧ StoR K ω2 ρ2 H3 st2 ∧ Rp K ω2 ρ2 H3 v x) ∧ J.stop xg.1.length H2
abbrev tI (K : PySem.W.Frag) (G : Gd) (W : WX) (d : De Its) : TI := tG K G W (Wk K) d
theorem wk_tup {K : PySem.W.Frag} {ω ρ : List Addr} {H : Hp} {a : Addr} {vs : List V} {xs : List D} (h : ∀ ρ2 H2, Ext ω ρ H ρ2 H2 → SqT K H2 a vs) (r : RpL K ω ρ H vs xs) : Wk K ω ρ H (Itt K a) (xs, fun _ => true) := by
  intro ω2 ρ2 H2 st2 e hw s _
  have q := h ρ2 H2 e
  refine ⟨fun i x hx => ?_, ⟨vs, q, by rw [r.length]; exact Nat.le_refl _⟩⟩
  obtain ⟨v, hv, rv⟩ := r.get hx
  refine ⟨⟨vs, v, q, hv⟩, fun v' H3 ⟨e1, e2⟩ => ?_⟩
  subst e1
  have := e2 vs q
  rw [hv] at this
  cases this
  exact ⟨.refl, s, rv.go e hw⟩
theorem wk_lst {K : PySem.W.Frag} {ω ρ : List Addr} {H : Hp} {a : Addr} {vs : List V} {xs : List D} (h : ∀ ρ2 H2, Ext ω ρ H ρ2 H2 → SqL K H2 a vs) (r : RpL K ω ρ H vs xs) : Wk K ω ρ H (Itl K a) (xs, fun _ => true) := by
  intro ω2 ρ2 H2 st2 e hw s _
  have q := h ρ2 H2 e
  refine ⟨fun i x hx => ?_, ⟨vs, q, by rw [r.length]; exact Nat.le_refl _⟩⟩
  obtain ⟨v, hv, rv⟩ := r.get hx
  refine ⟨⟨vs, v, q, hv⟩, fun v' H3 ⟨e1, e2⟩ => ?_⟩
  subst e1
  have := e2 vs q
  rw [hv] at this
  cases this
  exact ⟨.refl, s, rv.go e hw⟩
/-! a list of the store: it must stand as it was at each turn -/
mutual
def D.beq : D → D → Bool
  | .non, .non => true
  | .bl a, .bl b => a == b
  | .int a, .int b => a == b
  | .str a, .str b => a == b
  | .tup a, .tup b => D.beqs a b
  | .lst a, .lst b => D.beqs a b
  | .ref a, .ref b => a == b
  | .scr a, .scr b => D.beqs a b
  | .dic ks a, .dic js b => decide (ks = js) && D.beqs a b
  | _, _ => false
def D.beqs : List D → List D → Bool
  | [], [] => true
  | a :: r, b :: s => D.beq a b && D.beqs r s
  | _, _ => false
end
mutual
theorem D.beq_ok : ∀ {a b : D}, D.beq a b = true → a = b
  | .non, .non, _ => rfl
  | .bl a, .bl b, h => by rw [eq_of_beq (show (a == b) = true from h)]
  | .int a, .int b, h => by rw [eq_of_beq (show (a == b) = true from h)]
  | .str a, .str b, h => by rw [eq_of_beq (show (a == b) = true from h)]
  | .tup a, .tup b, h => by rw [D.beqs_ok (show D.beqs a b = true from h)]
  | .lst a, .lst b, h => by rw [D.beqs_ok (show D.beqs a b = true from h)]
  | .ref a, .ref b, h => by rw [eq_of_beq (show (a == b) = true from h)]
  | .scr a, .scr b, h => by rw [D.beqs_ok (show D.beqs a b = true from h)]
  | .dic ks a, .dic js b, h => by
    obtain ⟨h1, h2⟩ := Bool.and_eq_true_iff.mp (show (decide (ks = js) && D.beqs a b) = true from h)
    rw [of_decide_eq_true h1, D.beqs_ok h2]
  | .non, .bl _, h | .non, .int _, h | .non, .str _, h | .non, .tup _, h | .non, .lst _, h | .non, .dic _ _, h | .non, .ref _, h | .non, .ins _ _, h | .non, .scr _, h => by cases h
  | .bl _, .non, h | .bl _, .int _, h | .bl _, .str _, h | .bl _, .tup _, h | .bl _, .lst _, h | .bl _, .dic _ _, h | .bl _, .ref _, h | .bl _, .ins _ _, h | .bl _, .scr _, h => by cases h
  | .int _, .non, h | .int _, .bl _, h | .int _, .str _, h | .int _, .tup _, h | .int _, .lst _, h | .int _, .dic _ _, h | .int _, .ref _, h | .int _, .ins _ _, h | .int _, .scr _, h => by cases h
  | .str _, .non, h | .str _, .bl _, h | .str _, .int _, h | .str _, .tup _, h | .str _, .lst _, h | .str _, .dic _ _, h | .str _, .ref _, h | .str _, .ins _ _, h | .str _, .scr _, h => by cases h
  | .tup _, .non, h | .tup _, .bl _, h | .tup _, .int _, h | .tup _, .str _, h | .tup _, .lst _, h | .tup _, .dic _ _, h | .tup _, .ref _, h | .tup _, .ins _ _, h | .tup _, .scr _, h => by cases h
  | .lst _, .non, h | .lst _, .bl _, h | .lst _, .int _, h | .lst _, .str _, h | .lst _, .tup _, h | .lst _, .dic _ _, h | .lst _, .ref _, h | .lst _, .ins _ _, h | .lst _, .scr _, h => by cases h
  | .dic _ _, .non, h | .dic _ _, .bl _, h | .dic _ _, .int _, h | .dic _ _, .str _, h | .dic _ _, .tup _, h | .dic _ _, .lst _, h | .dic _ _, .ref _, h | .dic _ _, .ins _ _, h | .dic _ _, .scr _, h => by cases h
  | .ref _, .non, h | .ref _, .bl _, h | .ref _, .int _, h | .ref _, .str _, h | .ref _, .tup _, h | .ref _, .lst _, h | .ref _, .dic _ _, h | .ref _, .ins _ _, h | .ref _, .scr _, h => by cases h
  | .ins _ _, .non, h | .ins _ _, .bl _, h | .ins _ _, .int _, h | .ins _ _, .str _, h | .ins _ _, .tup _, h | .ins _ _, .lst _, h | .ins _ _, .dic _ _, h | .ins _ _, .ref _, h | .ins _ _, .ins _ _, h | .ins _ _, .scr _, h => by cases h
  | .scr _, .non, h | .scr _, .bl _, h | .scr _, .int _, h | .scr _, .str _, h | .scr _, .tup _, h | .scr _, .lst _, h | .scr _, .dic _ _, h | .scr _, .ref _, h | .scr _, .ins _ _, h => by cases h
theorem D.beqs_ok : ∀ {a b : List D}, D.beqs a b = true → a = b
  | [], [], _ => rfl
  | a :: r, b :: s, h => by
    obtain ⟨h1, h2⟩ := Bool.and_eq_true_iff.mp (show (D.beq a b && D.beqs r s) = true from h)
    rw [D.beq_ok h1, D.beqs_ok h2]
  | [], _ :: _, h => by cases h
  | _ :: _, [], h => by cases h
end
def stands (l : Nat) (xs : List D) (st : Sto) : Bool := match st.o[l]? with
  | some (.lst ys) => D.beqs xs ys
  | _ => false
theorem stands_ok {l : Nat} {xs : List D} {st : Sto} (h : stands l xs st = true) : st.o[l]? = some (.lst xs) := by
  unfold stands at h
  split at h
  · next ys e => rw [e, D.beqs_ok h]
  · cases h
/-- what stands at a place of the store is the store's -/
theorem wk_ref {K : PySem.W.Frag} {ω ρ : List Addr} {H : Hp} {a : Addr} {l : Nat} {xs : List D} (h : ρ[l]? = some a) : Wk K ω ρ H (Itl K a) (xs, stands l xs) := by
  intro ω2 ρ2 H2 st2 e hw s g
  cases s.obj l _ a (stands_ok g) (e.at h) with
  | lst q r =>
    refine ⟨fun i x hx => ?_, ⟨_, .of q, by rw [r.length]; exact Nat.le_refl _⟩⟩
    obtain ⟨v, hv, rv⟩ := r.get hx
    refine ⟨⟨_, v, .of q, hv⟩, fun v' H3 ⟨e1, e2⟩ => ?_⟩
    subst e1
    have := e2 _ (.of q)
    rw [hv] at this
    cases this
    exact ⟨.refl, s, rv⟩
theorem wk_str {K : PySem.W.Frag} {ω ρ : List Addr} {H : Hp} {z : Str} : Wk K ω ρ H (L2.Its z) (z.cps.toList.map fun c => .str ⟨#[c]⟩, fun _ => true) := by
  intro ω2 ρ2 H2 st2 e hw s g
  refine ⟨fun i x hx => ?_, by show z.cps.size ≤ _; simp⟩
  rw [List.getElem?_map] at hx
  obtain ⟨c, hc, rfl⟩ := Option.map_eq_some_iff.mp hx
  have hi : z.cps[i]? = some c := by simpa using hc
  refine ⟨(Array.getElem?_eq_some_iff.mp hi).1, fun v' H3 ⟨e1, c', e2, e3⟩ => ?_⟩
  subst e1
  rw [hi] at e2
  cases e2
  subst e3
  exact ⟨.refl, s, .str _⟩
theorem wk_rng {K : PySem.W.Frag} {ω ρ : List Addr} {H : Hp} {lo : Int} {n : Nat} : Wk K ω ρ H (Itr lo n) ((List.range n).map fun i => .int (lo + (i : Nat)), fun _ => true) := by
  intro ω2 ρ2 H2 st2 e hw s g
  refine ⟨fun i x hx => ?_, by show n ≤ _; simp⟩
  rw [List.getElem?_map] at hx
  obtain ⟨c, hc, rfl⟩ := Option.map_eq_some_iff.mp hx
  obtain ⟨h1, h2⟩ := List.getElem?_eq_some_iff.mp hc
  have h3 : i < n := by simpa using h1
  have h4 : i = c := by simpa using h2
  subst h4
  refine ⟨h3, fun v' H3 ⟨e1, e2⟩ => ?_⟩
  subst e1 e2
  exact ⟨.refl, s, .int _⟩
/-- the items of a value -/
def itemsOf (d : D) (st : Sto) : Option Its := match d with
  | .tup xs => some (xs, fun _ => true)
  | .lst xs => some (xs, fun _ => true)
  | .scr xs => some (xs, fun _ => true)
  | .str x => some (x.cps.toList.map fun c => .str ⟨#[c]⟩, fun _ => true)
  | .ref l => match st.o[l]? with
    | some (.lst xs) => some (xs, stands l xs)
    | _ => none
  | _ => none
/-- the machine's iterator over a value -/
theorem iter_ok {tg : Expr} {pins : List (Addr × Obj)} {s : Shared} {σ : L2.St} {H : Hp} {R : It → Hp → Prop} {v' : V} {v : Value} {ω ρ : List Addr} {st : Sto} {d : D} {it : Hb.Its} (I : Inv X pins σ H s) (rv : RelV v' v) (sr : StoR X.K ω ρ H st) (r : Rp X.K ω ρ H v' d) (e : itemsOf d st = some it)
    (q : ∀ J, Wk X.K ω ρ H J it → R J H) : wpAny (model X.prog X.w) X.A (pyIter v) (PIE X pins σ tg R) X.xe s := by
  have lst : ∀ {a : Addr} {vs : List V}, SqL X.K H a vs → R (Itl X.K a) H → wpAny (model X.prog X.w) X.A (pyIter (.ref a)) (PIE X pins σ tg R) X.xe s := fun {a vs} hq q => by
    obtain ⟨its, _, p, _⟩ := I.list hq
    exact wpAny_pyIter_list p.isList (pi_one (tk := s.toks) I _ (turn_list a _) ⟨_, Heap.get?_push_size _ rfl, rfl, rfl⟩ q)
  have tup : ∀ {a : Addr} {vs : List V}, SqT X.K H a vs → R (Itt X.K a) H → wpAny (model X.prog X.w) X.A (pyIter (.ref a)) (PIE X pins σ tg R) X.xe s := fun {a vs} hq q => by
    obtain ⟨its, _, p, _⟩ := I.tuple hq
    exact wpAny_pyIter_tuple (show s.heap.IsTuple a its.toArray from p) (pi_one (tk := s.toks) I _ (turn_tuple a _) ⟨_, Heap.get?_push_size _ rfl, rfl, rfl⟩ q)
  cases r with
  | tup h1 h2 h3 t => cases e; cases rv; exact tup (.inl h1) (q _ (wk_tup (fun ρ2 H2 e => .inl (e.rd h1 h2 h3).1) t))
  | tupK h t => cases e; cases rv; exact tup (h H) (q _ (wk_tup (fun ρ2 H2 e => h H2) t))
  | lst h1 h2 h3 t => cases e; cases rv; exact lst (.of h1) (q _ (wk_lst (fun ρ2 H2 e => .of (e.keep _ _ h1 h2 h3)) t))
  | scrK h t => cases e; cases rv; exact lst (h H) (q _ (wk_lst (fun ρ2 H2 e => h H2) t))
  | scr h1 h2 h3 t => cases e; cases rv; exact lst (.inl (.inr ⟨_, h1⟩)) (q _ (wk_lst (fun ρ2 H2 e => .inl (.inr ⟨_, e.keep _ _ h1 h2 h3⟩)) t))
  | str x =>
    cases e
    obtain ⟨t, rfl⟩ := rv
    have q1 := q _ (wk_str (z := x))
    cases ha : x.cps.all (· < 128)
    · exact wpAny_pyIter_wide ha (pi_one (tk := s.toks) I _ (turn_str _ x t "str_iterator" (.inr rfl)) ⟨_, Heap.get?_push_size _ rfl, rfl, rfl⟩ q1)
    · exact wpAny_pyIter_ascii ha (pi_one (tk := s.toks) I _ (turn_str _ x t "str_ascii_iterator" (.inl rfl)) ⟨_, Heap.get?_push_size _ rfl, rfl, rfl⟩ q1)
  | @ref a l h =>
    cases rv
    have e' : (match st.o[l]? with
      | some (.lst xs) => some (xs, stands l xs)
      | _ => none) = some it := e
    cases hq : st.o[l]? with
    | none => rw [hq] at e'; cases e'
    | some ob =>
      rw [hq] at e'
      cases ob with
      | lst xs =>
        cases e'
        cases sr.obj l _ a hq h with
        | lst h1 t => exact lst (.of h1) (q _ (wk_ref h))
      | _ => cases e'
  | _ => cases e
theorem i_ex {tg : Expr} {d : De D} (he : PE X e (tD X.K G W d)) : PI X tg e (tI X.K G W (d.bnd fun x => De.of (itemsOf x))) := by
  refine ⟨fun pins s σ H R I h => ?_⟩
  obtain ⟨ω, ρ, sl, st, a, h⟩ := h
  refine thn (he.run pins s σ H _ I (split a h)) fun v s1 ⟨x', H1, I1, rv, x, ρ1, st1, E1, e1, a1, r1, h1⟩ => ?_
  obtain ⟨it, ei, q⟩ := h1.of
  exact iter_ok I1 rv a1.sto r1 ei fun J wk => q J H1 ρ1 .refl a1.sto wk
/-- range(n), range(a, b) -/
def rngOf : List D → Sto → Option Its
  | [.int j], _ => if -(2 ^ 62) ≤ j ∧ j < 2 ^ 62 then some ((List.range j.toNat).map fun i => .int (0 + (i : Nat)), fun _ => true) else none
  | [.int i, .int j], _ => if -(2 ^ 62) ≤ i ∧ i < 2 ^ 62 ∧ -(2 ^ 62) ≤ j ∧ j < 2 ^ 62 then some ((List.range (j - i).toNat).map fun k => .int (i + (k : Nat)), fun _ => true) else none
  | _, _ => none
theorem i_rng1 {tg : Expr} {p : Pos} {r : De (List D)} (hg : Gl X "range") (hm : X.mg "range" = none) (ha : PA X [e] (tAs X.K G W r)) (hs : starEach [e] X.env = [(false, eval e X.env)]) (h1 : ∀ sl st xs st', r sl st = some (.ok xs, st') → xs.length = 1) :
    PI X tg (.Call (.Name "range" p) [e] [] pos) (tI X.K G W (r.bnd fun xs => De.of (rngOf xs))) := by
  refine ⟨fun pins s σ H R I h => (pi_range1 hg hm ha hs).run pins s σ H R I ?_⟩
  obtain ⟨ω, ρ, sl, st, a, h⟩ := h
  refine tG.mono (split a h) fun x' H1 ⟨x, ρ1, st1, E1, e1, a1, r1, q⟩ => ?_
  obtain ⟨it, ei, q⟩ := q.of
  have hl := h1 _ _ _ _ E1
  cases r1 with
  | nil => cases hl
  | cons r1 t =>
    cases t with
    | cons _ _ => simp at hl
    | nil =>
      cases r1 with
      | int j =>
        have ei' : (if -(2 ^ 62) ≤ j ∧ j < 2 ^ 62 then some ((List.range j.toNat).map fun i => D.int (0 + (i : Nat)), fun _ => true) else none) = some it := ei
        split at ei'
        · next h => cases ei'; exact ⟨j, rfl, h.1, h.2, q _ H1 ρ1 .refl a1.sto wk_rng⟩
        · cases ei'
      | _ => cases ei
theorem i_rng2 {tg e2 : Expr} {p : Pos} {r : De (List D)} (hg : Gl X "range") (hm : X.mg "range" = none) (ha : PA X [e, e2] (tAs X.K G W r)) (hs : starEach [e, e2] X.env = [(false, eval e X.env), (false, eval e2 X.env)]) (hs2 : starEach [e2] X.env = [(false, eval e2 X.env)]) (h1 : ∀ sl st xs st', r sl st = some (.ok xs, st') → xs.length = 2) :
    PI X tg (.Call (.Name "range" p) [e, e2] [] pos) (tI X.K G W (r.bnd fun xs => De.of (rngOf xs))) := by
  refine ⟨fun pins s σ H R I h => (pi_range2 hg hm ha hs hs2).run pins s σ H R I ?_⟩
  obtain ⟨ω, ρ, sl, st, a, h⟩ := h
  refine tG.mono (split a h) fun x' H1 ⟨x, ρ1, st1, E1, e1, a1, r1, q⟩ => ?_
  obtain ⟨it, ei, q⟩ := q.of
  have hl := h1 _ _ _ _ E1
  cases r1 with
  | nil => cases hl
  | cons r1 t =>
    cases t with
    | nil => simp at hl
    | cons r2 t =>
      cases t with
      | cons _ _ => simp at hl
      | nil =>
        cases r1 with
        | int i =>
          cases r2 with
          | int j =>
            have ei' : (if -(2 ^ 62) ≤ i ∧ i < 2 ^ 62 ∧ -(2 ^ 62) ≤ j ∧ j < 2 ^ 62 then some ((List.range (j - i).toNat).map fun k => D.int (i + (k : Nat)), fun _ => true) else none) = some it := ei
            split at ei'
            · next h => cases ei'; exact ⟨i, j, rfl, h, q _ H1 ρ1 .refl a1.sto wk_rng⟩
            · cases ei'
          | _ => cases ei
        | _ => cases ei
end
end Hb

set_option Elab.async false
set_option linter.all false
set_option maxRecDepth 100000
set_option maxHeartbeats 1000000
/-! Part D: list comprehensions; statements, loops. -/
namespace Hb
open PySem PySem.Spec L2

/-! ### list comprehensions -/
abbrev WF : WX := fun _ _ _ _ => False
def wipeS (sl : Sl) : List Nat → Sl
  | [] => sl
  | v :: vs => (wipeS sl vs).set v none
/-- the turns of a comprehension: each from the slots sl -/
def compL (t : Tg) (g : Sto → Bool) (dt : De Bool) (de : De D) (sl : Sl) : List D → Sto → Option (List D × Sto)
  | [], st => match g st with
    | true => some ([], st)
    | false => none
  | x :: r, st => match g st with
    | false => none
    | true => match setT t x sl with
      | none => none
      | some sl1 => match dt sl1 st with
        | some (.ok true, st1) => match de sl1 st1 with
          | some (.ok y, st2) => match compL t g dt de sl r st2 with
            | some (ys, st3) => some (y :: ys, st3)
            | none => none
          | _ => none
        | some (.ok false, st1) => compL t g dt de sl r st1
        | _ => none
def dComp (vs : List Nat) (di : De Hb.Its) (t : Tg) (dt : De Bool) (de : De D) : De (List D) := di.bnd fun xg sl st => match compL t xg.2 dt de (wipeS sl vs) xg.1 st with
  | some (ys, st') => if ys.length ≤ sizeLine then some (.ok ys, st') else none
  | none => none
section
variable {K : PySem.W.Frag} {G : Gd} {W : WX} {ω ρ : List Addr} {H : Hp}
theorem SlotR.wipe {σ : L2.St} {sl : Sl} (s : SlotR K ω ρ H σ sl) : ∀ vs, SlotR K ω ρ H (L2.wipe σ vs) (wipeS sl vs)
  | [] => s
  | v :: vs => (SlotR.wipe s vs).clear v
theorem Rp.del {P : Addr} : ∀ {v : V} {d : D}, Rp K (P :: ω) ρ H v d → Rp K ω ρ (fun b => if b = P then none else H b) v d := by
  have rd : ∀ {a : Addr} {u : HO}, Rd H a u → a ∉ P :: ω → Rd (fun b => if b = P then none else H b) a u := fun {a u} r n => by
    have ne : a ≠ P := fun z => n (by rw [z]; exact List.mem_cons_self)
    rcases r with r | ⟨o, r⟩
    · exact .inl (by show (if a = P then none else H a) = _; rw [if_neg ne]; exact r)
    · exact .inr ⟨o, by show (if a = P then none else H a) = _; rw [if_neg ne]; exact r⟩
  intro v d r
  induction r using Rp.rec (motive_2 := fun vs ds _ => RpL K ω ρ (fun b => if b = P then none else H b) vs ds) with
  | non => exact .non
  | bl b => exact .bl b
  | int i => exact .int i
  | str x => exact .str x
  | tup r h1 h2 _ t => exact .tup (rd r h2) h1 (fun z => h2 (List.mem_cons_of_mem _ z)) t
  | tupK r _ t => exact .tupK r t
  | dic r l h1 h2 _ t => exact .dic (by show (if _ = P then none else H _) = _; rw [if_neg (fun z => h2 (by rw [z]; exact List.mem_cons_self))]; exact r) l h1 (fun z => h2 (List.mem_cons_of_mem _ z)) t
  | scrK r _ t => exact .scrK r t
  | lst r h1 h2 _ t => exact .lst (by show (if _ = P then none else H _) = _; rw [if_neg (fun z => h2 (by rw [z]; exact List.mem_cons_self))]; exact r) h1 (fun z => h2 (List.mem_cons_of_mem _ z)) t
  | scr r h1 h2 _ t => exact .scr (by show (if _ = P then none else H _) = _; rw [if_neg (fun z => h2 (by rw [z]; exact List.mem_cons_self))]; exact r) h1 (fun z => h2 (List.mem_cons_of_mem _ z)) t
  | ref h => exact .ref h
  | nil => exact .nil
  | cons _ _ r t => exact .cons r t
theorem RpL.del {P : Addr} : ∀ {vs : List V} {ds : List D}, RpL K (P :: ω) ρ H vs ds → RpL K ω ρ (fun b => if b = P then none else H b) vs ds
  | _, _, .nil => .nil
  | _, _, .cons r t => .cons r.del (RpL.del t)
theorem StoR.del {P : Addr} {st : Sto} (s : StoR K (P :: ω) ρ H st) (hp : P ∉ ω) : StoR K ω ρ (fun b => if b = P then none else H b) st := by
  have ne : ∀ a ∈ ρ, a ≠ P := fun a h z => s.dj a h (by rw [z]; exact List.mem_cons_self)
  refine ⟨s.len, s.bas, s.old, s.nd, fun a h z => s.dj a h (List.mem_cons_of_mem _ z), fun a h => ?_, fun l o a h1 h2 => ?_⟩
  · have n : a ≠ P := by
      rcases h with h | h
      · exact ne a h
      · exact fun z => hp (by rw [← z]; exact h)
    show (if a = P then none else H a) ≠ none
    rw [if_neg n]
    exact s.tr a (h.imp id fun z => List.mem_cons_of_mem _ z)
  · cases s.obj l o a h1 h2 with
    | lst q t => exact .lst (by show (if a = P then none else H a) = _; rw [if_neg (ne a (List.mem_of_getElem? h2))]; exact q) t.del
    | dic q l t => exact .dic (by show (if a = P then none else H a) = _; rw [if_neg (ne a (List.mem_of_getElem? h2))]; exact q) l t.del
/-- a new thing is hidden -/
theorem StoR.hide {P : Addr} {o : HO} {st : Sto} (s : StoR K ω ρ H st) (hp : H P = none) : StoR K (P :: ω) ρ (upd H P o) st := by
  have f := s.fresh hp
  have e : Ext ω ρ H ρ (upd H P o) := Ext.new hp s.tr
  have hw : ∀ a ∈ P :: ω, a ∈ ω ∨ H a = none := fun a h => by
    rcases List.mem_cons.mp h with z | z
    · exact .inr (by rw [z]; exact hp)
    · exact .inl z
  refine ⟨s.len, s.bas, s.old, s.nd, fun a h z => ?_, fun a h => ?_, fun l ob a h1 h2 => ?_⟩
  · rcases List.mem_cons.mp z with z | z
    · exact f.1 (by rw [← z]; exact h)
    · exact s.dj a h z
  · by_cases z : a = P
    · rw [z, upd_same]; exact fun q => nomatch q
    · rw [upd_ne z]
      refine s.tr a (h.imp id fun q => ?_)
      rcases List.mem_cons.mp q with q | q
      · exact absurd q z
      · exact q
  · cases s.obj l ob a h1 h2 with
    | lst q t => exact .lst ((upd_ne fun z => f.1 (by rw [← z]; exact List.mem_of_getElem? h2)).trans q) (t.go e hw)
    | dic q l t => exact .dic ((upd_ne fun z => f.1 (by rw [← z]; exact List.mem_of_getElem? h2)).trans q) l (t.go e hw)
theorem wipe_idem : ∀ (σ : L2.St) (vs : List Nat), L2.wipe (L2.wipe σ vs) vs = L2.wipe σ vs
  | _, [] => rfl
  | σ, v :: vs => by
    show (L2.wipe ((L2.wipe σ vs).set v none) vs).set v none = (L2.wipe σ vs).set v none
    by_cases h : v ∈ vs
    · rw [wipe_set vs _ h, wipe_idem σ vs]
    · rw [wipe_out' vs _ h, wipe_idem σ vs, List.set_set]
theorem Rp.poke {P : Addr} {o : HO} (hP : P ∈ ω) : ∀ {v : V} {d : D}, Rp K ω ρ H v d → Rp K ω ρ (upd H P o) v d := by
  have rd : ∀ {a : Addr} {u : HO}, Rd H a u → a ∉ ω → Rd (upd H P o) a u := fun {a u} r n => by
    have ne : a ≠ P := fun z => n (by rw [z]; exact hP)
    rcases r with r | ⟨o, r⟩
    · exact .inl ((upd_ne ne).trans r)
    · exact .inr ⟨o, (upd_ne ne).trans r⟩
  intro v d r
  induction r using Rp.rec (motive_2 := fun vs ds _ => RpL K ω ρ (upd H P o) vs ds) with
  | non => exact .non
  | bl b => exact .bl b
  | int i => exact .int i
  | str x => exact .str x
  | tup r h1 h2 _ t => exact .tup (rd r h2) h1 h2 t
  | tupK r _ t => exact .tupK r t
  | dic r l h1 h2 _ t => exact .dic ((upd_ne (fun z => h2 (by rw [z]; exact hP))).trans r) l h1 h2 t
  | scrK r _ t => exact .scrK r t
  | lst r h1 h2 _ t => exact .lst ((upd_ne (fun z => h2 (by rw [z]; exact hP))).trans r) h1 h2 t
  | scr r h1 h2 _ t => exact .scr ((upd_ne (fun z => h2 (by rw [z]; exact hP))).trans r) h1 h2 t
  | ref h => exact .ref h
  | nil => exact .nil
  | cons _ _ r t => exact .cons r t
theorem RpL.poke {P : Addr} {o : HO} (hP : P ∈ ω) : ∀ {vs : List V} {ds : List D}, RpL K ω ρ H vs ds → RpL K ω ρ (upd H P o) vs ds
  | _, _, .nil => .nil
  | _, _, .cons r t => .cons (r.poke hP) (RpL.poke hP t)
theorem StoR.poke {P : Addr} {o : HO} {st : Sto} (hP : P ∈ ω) (s : StoR K ω ρ H st) : StoR K ω ρ (upd H P o) st := by
  refine ⟨s.len, s.bas, s.old, s.nd, s.dj, fun a h => ?_, fun l ob a h1 h2 => ?_⟩
  · by_cases z : a = P
    · rw [z, upd_same]; exact fun q => nomatch q
    · rw [upd_ne z]; exact s.tr a h
  · cases s.obj l ob a h1 h2 with
    | lst q t => exact .lst ((upd_ne fun z => s.dj a (List.mem_of_getElem? h2) (by rw [z]; exact hP)).trans q) (t.poke hP)
    | dic q l t => exact .dic ((upd_ne fun z => s.dj a (List.mem_of_getElem? h2) (by rw [z]; exact hP)).trans q) l (t.poke hP)
theorem Ext.poke {ρ' : List Addr} {H' : Hp} {P : Addr} {o : HO} (e : Ext ω ρ H ρ' H') (hP : H P = none) (nω : P ∉ ω) : Ext ω ρ H ρ' (upd H' P o) := by
  refine ⟨fun a u h h1 h2 => ?_, fun a h => ?_, fun a h => ?_, e.grow⟩
  · rw [upd_ne (fun z => by rw [z, hP] at h; cases h)]; exact e.keep a u h h1 h2
  · rw [upd_ne (fun z => nω (by rw [← z]; exact h))]; exact e.hid a h
  · by_cases z : a = P
    · rw [z]; exact hP
    · rw [upd_ne z] at h; exact e.live a h
theorem Ext.drop {ρ' : List Addr} {H' : Hp} {P : Addr} (e : Ext ω ρ H ρ' H') (hP : H P = none) (nω : P ∉ ω) : Ext ω ρ H ρ' (fun b => if b = P then none else H' b) := by
  refine ⟨fun a u h h1 h2 => ?_, fun a h => ?_, fun a h => ?_, e.grow⟩
  · show (if a = P then none else H' a) = _
    rw [if_neg (fun z => by rw [z, hP] at h; cases h)]; exact e.keep a u h h1 h2
  · show (if a = P then none else H' a) = _
    rw [if_neg (fun z => nω (by rw [← z]; exact h))]; exact e.hid a h
  · have h' : (if a = P then none else H' a) = none := h
    by_cases z : a = P
    · rw [z]; exact hP
    · rw [if_neg z] at h'; exact e.live a h'
theorem SlotR.go {ω2 ρ2 : List Addr} {H2 : Hp} {σ : L2.St} {sl : Sl} (s : SlotR K ω ρ H σ sl) (e : Ext ω ρ H ρ2 H2) (h : ∀ a ∈ ω2, a ∈ ω ∨ H a = none) : SlotR K ω2 ρ2 H2 σ sl :=
  ⟨s.len, fun i d q => let ⟨v, h1, h2⟩ := s.at_ i d q; ⟨v, h1, h2.go e h⟩⟩
end
section
variable {X : Cx} {G : Gd} {W : WX} {pos : Pos}
theorem comp_imp {vs' : List Nat} {t : Tg} {di : De Hb.Its} {dt : De Bool} {de : De D} (hv : ∀ i ∈ t.sl, i ∈ vs') : ∀ σ H Q, tN X.K G W (dComp vs' di t dt de) σ H Q → tLc (tI X.K G W di) (gT X.K t) (tT X.K G WF dt) (tD X.K G WF de) vs' σ H Q := fun σ H Q h => by
  obtain ⟨ω, ρ, sl, st, a, h⟩ := h
  refine ⟨ω, ρ, sl, st, a, ?_⟩
  unfold dComp De.bnd at h
  cases e : di sl st with
  | none => rw [e] at h; exact h
  | some p =>
    obtain ⟨z, st1⟩ := p
    rw [e] at h
    cases z with
    | ex c x => exact h
    | ok xg =>
      intro J H1 ρ1 e1 s1 wk P hP
      have h' : PostN X.K G W ω ρ H σ sl Q (match compL t xg.2 dt de (wipeS sl vs') xg.1 st1 with
        | some (ys, st') => if ys.length ≤ sizeLine then some (.ok ys, st') else none
        | none => none) := h
      have np := s1.fresh hP
      have hw : ∀ a ∈ P :: ω, a ∈ ω ∨ H1 a = none := fun a h => by
        rcases List.mem_cons.mp h with z | z
        · exact .inr (by rw [z]; exact hP)
        · exact .inl z
      -- the invariant: i turns are through, ds made of them so far
      refine ⟨fun i m H' => m = xg.1.length - i ∧ i ≤ xg.1.length ∧ ∃ ρ' st' vs ds, Ext ω ρ1 H1 ρ' H' ∧ StoR X.K (P :: ω) ρ' H' st' ∧ H' P = some (.lst vs) ∧ RpL X.K (P :: ω) ρ' H' vs ds ∧
        ∃ ys st'', compL t xg.2 dt de (wipeS sl vs') (xg.1.drop i) st' = some (ys, st'') ∧ (ds ++ ys).length ≤ sizeLine ∧ ∀ vs' H2 ρ2 p, Ext ω ρ H ρ2 H2 → StoR X.K ω ρ2 H2 st'' → RpL X.K ω ρ2 H2 vs' (ds ++ ys) → H2 p = none → Q (.ref p) (upd H2 p (.lst vs')),
        ⟨xg.1.length, by simp, Nat.zero_le _, ρ1, st1, [], [], Ext.new hP s1.tr, s1.hide hP, upd_same, .nil, ?_⟩, ?_⟩
      · cases ec : compL t xg.2 dt de (wipeS sl vs') xg.1 st1 with
        | none => rw [ec] at h'; exact h'.elim
        | some r =>
          obtain ⟨ys, st''⟩ := r
          simp only [ec] at h'
          split at h'
          · next hl => exact ⟨ys, st'', ec, hl, h'⟩
          · exact h'.elim
      · rintro i m H2 ⟨rfl, hi, ρ2, st2, vs, ds, e2, s2, hd, rd, ys, st3, ec, hlen, q⟩
        have gd : xg.2 st2 = true := by
          cases hx : xg.1.drop i with
          | nil =>
            rw [hx] at ec
            unfold compL at ec
            cases hg : xg.2 st2 with
            | true => rfl
            | false => rw [hg] at ec; cases ec
          | cons x r =>
            rw [hx] at ec
            unfold compL at ec
            cases hg : xg.2 st2 with
            | true => rfl
            | false => rw [hg] at ec; cases ec
        have wk2 := wk (P :: ω) ρ2 H2 st2 e2 hw s2 gd
        by_cases hlt : i < xg.1.length
        · obtain ⟨x, hx⟩ : ∃ x, xg.1[i]? = some x := ⟨xg.1[i], by simp [hlt]⟩
          obtain ⟨go, yl⟩ := wk2.1 i x hx
          have hdrop : xg.1.drop i = x :: xg.1.drop (i + 1) := by
            rw [List.drop_eq_getElem_cons hlt]
            have : xg.1[i] = x := by
              rw [List.getElem?_eq_getElem hlt] at hx
              exact Option.some.inj hx
            rw [this]
          rw [hdrop] at ec
          unfold compL at ec
          rw [gd] at ec
          refine .inr ⟨go, _, fun H' n => ⟨xg.1.length - (i + 1), by omega, n⟩, fun v H3 yv => ?_⟩
          obtain ⟨e3, s3, r3⟩ := yl v H3 yv
          have slw : SlotR X.K (P :: ω) ρ2 H3 (wipe σ vs') (wipeS sl vs') := ((a.slo.ext e1).wipe _).go (ω2 := P :: ω) (e2.trans ⟨fun b o hb h1 h2 => ?_, fun b hb => e3.hid b (List.mem_cons_of_mem _ hb), e3.live, e3.grow⟩) hw
          · cases hst : setT t x (wipeS sl vs') with
            | none => simp only [hst] at ec; cases ec
            | some sl1 =>
              simp only [hst] at ec
              refine ⟨P :: ω, ρ2, wipeS sl vs', st2, x, sl1, ⟨s3, slw⟩, r3, hst, fun σ1 sl1r w1 => ⟨?_, ?_⟩⟩
              · have := w1 vs' hv
                rw [this]
                exact wipe_idem σ _
              · cases ed : dt sl1 st2 with
                | none => simp only [ed] at ec; cases ec
                | some p4 =>
                  obtain ⟨z4, st4⟩ := p4
                  cases z4 with
                  | ex c y => simp only [ed] at ec; cases ec
                  | ok b =>
                    refine ⟨P :: ω, ρ2, sl1, st2, ⟨s3, sl1r⟩, ?_⟩
                    rw [ed]
                    intro b' H4 ρ4 e4 s4 hb
                    obtain rfl : b' = b := hb
                    have dP : ∀ {ρ' : List Addr} {H' : Hp}, Ext (P :: ω) ρ2 H2 ρ' H' → H' P = some (.lst vs) := fun {ρ' H'} e => (e.hid P List.mem_cons_self).trans hd
                    have toω : ∀ {ρ' : List Addr} {H' : Hp}, Ext (P :: ω) ρ2 H2 ρ' H' → Ext ω ρ1 H1 ρ' H' := fun {ρ' H'} e => by
                      refine ⟨fun b o hb h1 h2 => ?_, fun b hb => (e.hid b (List.mem_cons_of_mem _ hb)).trans (e2.hid b hb), fun b z => e2.live b (e.live b z), ?_⟩
                      · have n : b ≠ P := fun z => by rw [z, hP] at hb; cases hb
                        refine e.keep b o (e2.keep b o hb h1 h2) (fun z => ?_) fun z => ?_
                        · obtain ⟨τ, rfl, nn⟩ := e2.grow
                          rcases List.mem_append.mp z with z | z
                          · exact h1 z
                          · rw [nn b z] at hb; cases hb
                        · rcases List.mem_cons.mp z with z | z
                          · exact n z
                          · exact h2 z
                      · obtain ⟨τ, rfl, nn⟩ := e2.grow
                        obtain ⟨τ', rfl, nn'⟩ := e.grow
                        refine ⟨τ ++ τ', by simp, fun b hb => ?_⟩
                        rcases List.mem_append.mp hb with z | z
                        · exact nn b z
                        · exact e2.live b (nn' b z)
                    have e34 := e3.trans e4
                    cases b' with
                    | false =>
                      simp only [ed] at ec
                      refine iteF ⟨rfl, hlt, ρ4, st4, vs, ds, toω e34, s4, dP e34, rd.ext e34, ys, st3, ec, hlen, q⟩
                    | true =>
                      simp only [ed] at ec
                      refine iteT ⟨P :: ω, ρ4, sl1, st4, ⟨s4, sl1r.ext e4⟩, ?_⟩
                      cases e5 : de sl1 st4 with
                      | none => simp only [e5] at ec; cases ec
                      | some p5 =>
                        obtain ⟨z5, st5⟩ := p5
                        cases z5 with
                        | ex c y => simp only [e5] at ec; cases ec
                        | ok y =>
                          simp only [e5] at ec
                          cases e6 : compL t xg.2 dt de (wipeS sl vs') (xg.1.drop (i + 1)) st5 with
                          | none => simp only [e6] at ec; cases ec
                          | some r6 =>
                            obtain ⟨ys6, st6⟩ := r6
                            simp only [e6] at ec
                            cases ec
                            intro v5 H5 ρ5 e5' s5 r5
                            have e35 := e34.trans e5'
                            have rd5 := rd.ext e35
                            have hl1 := rd.length
                            simp only [List.length_append, List.length_cons] at hlen
                            refine ⟨vs, dP e35, by omega, rfl, hlt, ρ5, st5, vs ++ [v5], ds ++ [y], ?_, ?_, upd_same, ?_, ys6, st3, e6, by simp; omega, by simpa using q⟩
                            · exact (toω e35).poke hP np.2
                            · exact s5.poke List.mem_cons_self
                            · exact (rd5.append (.cons r5 .nil)).poke List.mem_cons_self
          · by_cases z : b = P
            · subst z
              rw [e3.hid b List.mem_cons_self]
              exact hb
            · exact e3.keep b o hb h1 fun q => (List.mem_cons.mp q).elim z h2
        · have ei : i = xg.1.length := by omega
          subst ei
          refine .inl ⟨wk2.2, ?_⟩
          rw [List.drop_length] at ec
          unfold compL at ec
          rw [gd] at ec
          cases ec
          have := q vs (fun b => if b = P then none else H2 b) ρ2 P ?_ (s2.del np.2) (by simpa using rd.del) (if_pos rfl)
          · have eq : upd (fun b => if b = P then none else H2 b) P (.lst vs) = H2 := by
              funext b
              by_cases z : b = P
              · subst z; rw [upd_same]; exact hd.symm
              · rw [upd_ne z, if_neg z]
            rw [eq] at this
            exact this
          · exact (e1.trans e2).drop (e1.live P hP) np.2
theorem n_comp {elt tg iter : Expr} {ifs : List Expr} {scope : Scope} {own : List (Str × Nat)} {t : Tg} {di : De Hb.Its} {dt : De Bool} {de : De D} (hc : X.calm = true) (hN : X.N.Nodup) (hi : PI X tg iter (tI X.K G W di)) (ok : BlkOk X.N X.env.scope scope own)
    (hv : ∀ i ∈ t.sl, i ∈ own.map (·.2))
    (hg : ∀ (s : Shared) (H : Hp) (C : Addr) (cl : List (Str × Addr)) (fp : List Addr), PG (X.blk s H scope (compEnvC scope cl C X.env) fp) tg (gT X.K t))
    (ht : ∀ (s : Shared) (H : Hp) (C : Addr) (cl : List (Str × Addr)) (fp : List Addr), PTs (X.blk s H scope (compEnvC scope cl C X.env) fp) ifs (tT X.K G WF dt))
    (he : ∀ (s : Shared) (H : Hp) (C : Addr) (cl : List (Str × Addr)) (fp : List Addr), PE (X.blk s H scope (compEnvC scope cl C X.env) fp) elt (tD X.K G WF de)) (hs : ∀ x, foldedSetIterable iter X.env x = pure x) :
    PE X (.ListComp elt [⟨tg, iter, ifs, 0⟩] scope pos) (tN X.K G W (dComp (own.map (·.2)) di t dt de)) :=
  PE.imp (pe_lc hc hN hi ok hg ht he hs) (comp_imp hv)
end
end Hb

set_option Elab.async false
set_option linter.all false
set_option maxRecDepth 100000
set_option maxHeartbeats 1000000
/-! Part E: statements, loops. -/
namespace Hb
open PySem PySem.Spec L2
inductive Fl where
  | nx | bk | ct | rt (v : D) | ex (c : Nat) (x : D)
abbrev Ds := Sl → Sto → Option (Fl × Sl × Sto)
section
variable {K : PySem.W.Frag} {G : Gd} {W : WX}
/-- what is wanted behind an end -/
def EndP (K : PySem.W.Frag) (G : Gd) (W : WX) (D : Ends) (ω ρ : List Addr) (σ : L2.St) (H : Hp) : Fl → Prop
  | .nx => D.nx σ H
  | .bk => D.bk σ H
  | .ct => D.ct σ H
  | .rt v => ∀ v', Rp K ω ρ H v' v → D.rt v' H
  | .ex c x => ∀ dd xv, Rp K ω ρ H xv x → H dd = some (.xd [(G.cfl c, xv)]) → dd ∉ ρ → dd ∉ ω → W (.ref (G.cad c)) (some dd) σ H
def PostS (K : PySem.W.Frag) (G : Gd) (W : WX) (D : Ends) (ω ρ : List Addr) (H : Hp) : Option (Fl × Sl × Sto) → Prop
  | none => False
  | some (f, sl', st') => ∀ (σ' : L2.St) (H' : Hp) (ρ' : List Addr), Ext ω ρ H ρ' H' → At K ω ρ' H' σ' sl' st' → EndP K G W D ω ρ' σ' H' f
def tS (K : PySem.W.Frag) (G : Gd) (W : WX) (d : Ds) : TS := fun D σ H => ∃ ω ρ sl st, At K ω ρ H σ sl st ∧ PostS K G W D ω ρ H (d sl st)
theorem PostS.back {D : Ends} {ω ρ ρ1 : List Addr} {H H1 : Hp} {r : Option (Fl × Sl × Sto)} (e : Ext ω ρ H ρ1 H1) (h : PostS K G W D ω ρ H r) : PostS K G W D ω ρ1 H1 r := by
  cases r with
  | none => exact h
  | some p => exact fun σ' H' ρ' e' a => h σ' H' ρ' (e.trans e') a
theorem PostS.now {D : Ends} {ω ρ : List Addr} {H : Hp} {σ : L2.St} {sl : Sl} {st : Sto} {f : Fl} (a : At K ω ρ H σ sl st) (h : PostS K G W D ω ρ H (some (f, sl, st))) : EndP K G W D ω ρ σ H f := h σ H ρ .refl a
theorem PostS.mono {D D' : Ends} {ω ρ : List Addr} {H : Hp} {r : Option (Fl × Sl × Sto)} (h : PostS K G W D ω ρ H r) (m : ∀ ρ' σ' H' f sl' st', r = some (f, sl', st') → Ext ω ρ H ρ' H' → At K ω ρ' H' σ' sl' st' → EndP K G W D ω ρ' σ' H' f → EndP K G W D' ω ρ' σ' H' f) : PostS K G W D' ω ρ H r := by
  cases r with
  | none => exact h
  | some p => exact fun σ' H' ρ' e' a => m ρ' σ' H' _ _ _ rfl e' a (h σ' H' ρ' e' a)
/-- an expression, then what is done with its value -/
def Ds.of {α : Type} (d : De α) (k : α → Ds) : Ds := fun sl st => match d sl st with
  | some (.ok a, st') => k a sl st'
  | some (.ex c x, st') => some (.ex c x, sl, st')
  | none => none
theorem splitS {α β : Type} {R : Rel β α} {m : De α} {k : α → Ds} {D : Ends} {ω ρ : List Addr} {H : Hp} {σ : L2.St} {sl : Sl} {st : Sto} (a : At K ω ρ H σ sl st) (h : PostS K G W D ω ρ H (Ds.of m k sl st)) :
    tG K G W R m σ H (fun b H1 => ∃ x ρ1 st1, m sl st = some (.ok x, st1) ∧ Ext ω ρ H ρ1 H1 ∧ At K ω ρ1 H1 σ sl st1 ∧ R ω ρ1 H1 b x ∧ PostS K G W D ω ρ1 H1 (k x sl st1)) := by
  refine ⟨ω, ρ, sl, st, a, ?_⟩
  unfold Ds.of at h
  cases e : m sl st with
  | none => rw [e] at h; exact h
  | some p =>
    obtain ⟨r, st'⟩ := p
    rw [e] at h
    cases r with
    | ok x => exact fun b H' ρ' e' s r => ⟨x, ρ', st', rfl, e', ⟨s, a.slo.ext e'⟩, r, h.back e'⟩
    | ex c x => exact fun dd xv H' ρ' e' s r hd n1 n2 => h σ H' ρ' e' ⟨s, a.slo.ext e'⟩ dd xv r hd n1 n2
end
section
variable {X : Cx} {G : Gd} {W : WX} {pos : Pos} {st : Stmt} {rest : List Stmt} {e : Expr}
def Ds.nx : Ds := fun sl st => some (.nx, sl, st)
theorem s_nx {D : Ends} {σ : L2.St} {H : Hp} (h : tS X.K G W Ds.nx D σ H) : D.nx σ H := by
  obtain ⟨ω, ρ, sl, st, a, h⟩ := h
  exact h.now a
theorem ss_nil : PSs X [] (tS X.K G W Ds.nx) := PSs.imp pss_nil fun _ _ _ h => s_nx h
theorem s_pass : PS X (.Pass pos) (tS X.K G W Ds.nx) := PS.imp ps_pass fun _ _ _ h => s_nx h
theorem s_doc {x : Str} {j : Nat} {pos' : Pos} : PS X (.Expr (.Constant (.str x) j pos) pos') (tS X.K G W Ds.nx) := PS.imp ps_doc fun _ _ _ h => s_nx h
theorem s_brk : PS X (.Break pos) (tS X.K G W fun sl st => some (.bk, sl, st)) := PS.imp ps_break fun _ _ _ ⟨_, _, _, _, a, h⟩ => h.now a
theorem s_cnt : PS X (.Continue pos) (tS X.K G W fun sl st => some (.ct, sl, st)) := PS.imp ps_continue fun _ _ _ ⟨_, _, _, _, a, h⟩ => h.now a
/-- one, then the others -/
def Ds.seq (d f : Ds) : Ds := fun sl st => match d sl st with
  | some (.nx, sl', st') => f sl' st'
  | r => r
theorem seq_imp {d f : Ds} {D : Ends} {σ : L2.St} {H : Hp} (h : tS X.K G W (Ds.seq d f) D σ H) : tSeq (tS X.K G W d) (tS X.K G W f) D σ H := by
  obtain ⟨ω, ρ, sl, st, a, h⟩ := h
  refine ⟨ω, ρ, sl, st, a, ?_⟩
  unfold Ds.seq at h
  cases e : d sl st with
  | none => rw [e] at h; exact h
  | some p =>
    obtain ⟨r, sl', st'⟩ := p
    rw [e] at h
    cases r with
    | nx => exact fun σ' H' ρ' e' a' => ⟨ω, ρ', sl', st', a', h.back e'⟩
    | bk => exact h
    | ct => exact h
    | rt v => exact h
    | ex c x => exact h
theorem ss_cons {d f : Ds} (h1 : PS X st (tS X.K G W d)) (h2 : PSs X rest (tS X.K G W f)) : PSs X (st :: rest) (tS X.K G W (Ds.seq d f)) := PSs.imp (pss_cons h1 h2) fun _ _ _ h => seq_imp h
theorem s_expr {d : De D} (he : PE X e (tD X.K G W d)) (hs : swapsWith e none pos.line X.env = pure false) : PS X (.Expr e pos) (tS X.K G W (Ds.of d fun _ => Ds.nx)) := PS.imp (ps_expr he hs) fun D σ H h => by
  obtain ⟨ω, ρ, sl, st, a, h⟩ := h
  exact tG.mono (splitS a h) fun x' H1 ⟨x, ρ1, st1, E1, e1, a1, r1, h1⟩ => h1.now a1
theorem s_ret {d : De D} (he : PE X e (tD X.K G W d)) : PS X (.Return (some e) pos) (tS X.K G W (Ds.of d fun v sl st => some (.rt v, sl, st))) := PS.imp (ps_ret he) fun D σ H h => by
  obtain ⟨ω, ρ, sl, st, a, h⟩ := h
  exact tG.mono (splitS a h) fun x' H1 ⟨x, ρ1, st1, E1, e1, a1, r1, h1⟩ => PostS.now a1 h1 _ r1
theorem s_retN : PS X (.Return none pos) (tS X.K G W fun sl st => some (.rt .non, sl, st)) := PS.imp ps_retN fun D σ H ⟨_, _, _, _, a, h⟩ => PostS.now a h _ .non
def Ds.ife (c : De Bool) (a b : Ds) : Ds := Ds.of c fun k => match k with
  | true => a
  | false => b
theorem s_if {c : Expr} {a b : List Stmt} {dc : De Bool} {da db : Ds} (hc : PT X c (tT X.K G W dc)) (ha : PSs X a (tS X.K G W da)) (hb : PSs X b (tS X.K G W db)) : PS X (.If c a b pos) (tS X.K G W (Ds.ife dc da db)) :=
  PS.imp (ps_if hc ha hb) fun D σ H h => by
    obtain ⟨ω, ρ, sl, st, a, h⟩ := h
    refine tG.mono (splitS a h) fun x' H1 ⟨x, ρ1, st1, E1, e1, a1, r1, h1⟩ => ?_
    obtain rfl : x' = x := r1
    cases x' with
    | true => exact iteT ⟨ω, ρ1, sl, st1, a1, h1⟩
    | false => exact iteF ⟨ω, ρ1, sl, st1, a1, h1⟩
/-! storing -/
def Ds.set (t : Tg) (d : De D) : Ds := Ds.of d fun v sl st => (setT t v sl).map fun sl' => (.nx, sl', st)
theorem set_imp {K : PySem.W.Frag} {t : Tg} {d : De D} {D : Ends} {σ : L2.St} {H : Hp} (h : tS K G W (Ds.set t d) D σ H) : tAsg (tD K G W d) (gT K t) D σ H := by
  obtain ⟨ω, ρ, sl, st, a, h⟩ := h
  refine tG.mono (splitS a h) fun x' H1 ⟨x, ρ1, st1, E1, e1, a1, r1, h1⟩ => ?_
  cases es : setT t x sl with
  | none => simp only [es] at h1; exact h1.elim
  | some sl1 =>
    simp only [es] at h1
    exact ⟨ω, ρ1, sl, st1, x, sl1, a1, r1, es, fun σ1 s1 _ => h1 σ1 H1 ρ1 .refl ⟨a1.sto, s1⟩⟩
theorem s_set {tg : Expr} {t : Tg} {d : De D} (he : PE X e (tD X.K G W d)) (hg : PG X tg (gT X.K t)) (hs : swapsWithSole [tg] e pos.line X.env = pure false) (hw : swappedStores [tg] e X.env = pure none)
    (h1 : (assignEach [tg] X.env).map (·.2) = [assign tg X.env]) : PS X (.Assign [tg] e pos) (tS X.K G W (Ds.set t d)) := PS.imp (ps_asg he hg hs hw h1) fun D σ H h => set_imp h
/-! raise: classes whose instances bear one field -/
theorem s_raise {c : Nat} {d : De D} {t : L2.St → Hp → XK → Prop} (hc : X.calm = true) (tk : Takes X W) (he : PMk X e t)
    (hm : ∀ σ H (Q : XK), tG X.K G W (RD X.K) d σ H (fun v H1 => ∀ dd, H1 dd = none → Q (.ref (G.cad c)) (some dd) (upd H1 dd (.xd [(G.cfl c, v)]))) → t σ H Q) :
    PS X (.Raise (some e) none pos) (tS X.K G W (Ds.of d fun x sl st => some (.ex c x, sl, st))) := PS.imp (ps_raise hc tk he) fun D σ H h => by
  obtain ⟨ω, ρ, sl, st, a, h⟩ := h
  refine hm σ H _ (tG.mono (splitS a h) fun x' H1 ⟨x, ρ1, st1, E1, e1, a1, r1, h1⟩ dd hdd => ?_)
  have e2 : Ext ω ρ1 H1 ρ1 (upd H1 dd (.xd [(G.cfl c, x')])) := Ext.new hdd a1.sto.tr
  have f := a1.sto.fresh hdd
  exact h1 σ _ ρ1 e2 ⟨a1.sto.new hdd, a1.slo.ext e2⟩ dd x' (Rp.ext e2 r1) upd_same f.1 f.2
/-! loops -/
/-- the turns of a for -/
def forL (t : Tg) (g : Sto → Bool) (body : Ds) : List D → Ds
  | [], sl, st => match g st with
    | true => some (.nx, sl, st)
    | false => none
  | x :: r, sl, st => match g st with
    | false => none
    | true => match setT t x sl with
      | none => none
      | some sl1 => match body sl1 st with
        | some (.nx, sl2, st2) => forL t g body r sl2 st2
        | some (.ct, sl2, st2) => forL t g body r sl2 st2
        | some (.bk, sl2, st2) => some (.nx, sl2, st2)
        | r => r
def Ds.for_ (t : Tg) (di : De Hb.Its) (body : Ds) : Ds := Ds.of di fun xg => forL t xg.2 body xg.1
theorem forL_g {t : Tg} {g : Sto → Bool} {body : Ds} {xs : List D} {sl : Sl} {st : Sto} {r : Fl × Sl × Sto} (h : forL t g body xs sl st = some r) : g st = true := by
  cases xs with
  | nil =>
    unfold forL at h
    cases hg : g st with
    | true => rfl
    | false => rw [hg] at h; cases h
  | cons x r =>
    unfold forL at h
    cases hg : g st with
    | true => rfl
    | false => rw [hg] at h; cases h
theorem s_for {tg iter : Expr} {body : List Stmt} {t : Tg} {di : De Hb.Its} {db : Ds} (hp : PassesOwn (model X.prog X.w) X.A X.env X.xe) (hc : X.calm = true) (hi : PI X tg iter (tI X.K G W di)) (hg : PG X tg (gT X.K t)) (hb : PSs X body (tS X.K G W db))
    (hs : ∀ x, foldedSetIterable iter X.env x = pure x) : PS X (.For tg iter body [] pos) (tS X.K G W (Ds.for_ t di db)) := PS.imp (ps_for hp hc hi hg hb hs) fun D σ H h => by
  obtain ⟨ω, ρ, sl, st, a, h⟩ := h
  refine tG.mono (splitS a h) fun J H1 ⟨xg, ρ1, st1, E1, e1, a1, wk, h1⟩ => ?_
  refine ⟨fun i m σ' H' => m = xg.1.length - i ∧ i ≤ xg.1.length ∧ ∃ ρ' sl' st', Ext ω ρ1 H1 ρ' H' ∧ At X.K ω ρ' H' σ' sl' st' ∧ PostS X.K G W D ω ρ' H' (forL t xg.2 db (xg.1.drop i) sl' st'),
    ⟨xg.1.length, by simp, Nat.zero_le _, ρ1, sl, st1, .refl, a1, h1⟩, ?_⟩
  rintro i m σ2 H2 ⟨rfl, hi, ρ2, sl2, st2, e2, a2, h2⟩
  have gd : xg.2 st2 = true := by
    cases e : forL t xg.2 db (xg.1.drop i) sl2 st2 with
    | none => rw [e] at h2; exact h2.elim
    | some r => exact forL_g e
  have wk2 := wk ω ρ2 H2 st2 e2 (fun a h => .inl h) a2.sto gd
  by_cases hlt : i < xg.1.length
  · obtain ⟨x, hx⟩ : ∃ x, xg.1[i]? = some x := ⟨xg.1[i], by simp [hlt]⟩
    obtain ⟨go, yl⟩ := wk2.1 i x hx
    have hdrop : xg.1.drop i = x :: xg.1.drop (i + 1) := by
      rw [List.drop_eq_getElem_cons hlt]
      have : xg.1[i] = x := by
        rw [List.getElem?_eq_getElem hlt] at hx
        exact Option.some.inj hx
      rw [this]
    rw [hdrop] at h2
    unfold forL at h2
    rw [gd] at h2
    refine .inr ⟨go, _, fun σ' H' n => ⟨xg.1.length - (i + 1), by omega, n⟩, fun v H3 yv => ?_⟩
    obtain ⟨e3, s3, r3⟩ := yl v H3 yv
    cases hst : setT t x sl2 with
    | none => simp only [hst] at h2; exact h2.elim
    | some sl3 =>
      simp only [hst] at h2
      refine ⟨ω, ρ2, sl2, st2, x, sl3, ⟨s3, a2.slo.ext e3⟩, r3, hst, fun σ3 s3' _ => ⟨ω, ρ2, sl3, st2, ⟨s3, s3'⟩, ?_⟩⟩
      have h3 := PostS.back e3 h2
      cases eb : db sl3 st2 with
      | none => simp only [eb] at h3; exact h3.elim
      | some p =>
        obtain ⟨f, sl4, st4⟩ := p
        simp only [eb] at h3
        intro σ4 H4 ρ4 e4 a4
        cases f with
        | nx => exact ⟨rfl, hlt, ρ4, sl4, st4, (e2.trans e3).trans e4, a4, h3.back e4⟩
        | ct => exact ⟨rfl, hlt, ρ4, sl4, st4, (e2.trans e3).trans e4, a4, h3.back e4⟩
        | bk => exact h3 σ4 H4 ρ4 e4 a4
        | rt v => exact h3 σ4 H4 ρ4 e4 a4
        | ex c x => exact h3 σ4 H4 ρ4 e4 a4
  · have ei : i = xg.1.length := by omega
    subst ei
    refine .inl ⟨wk2.2, ?_⟩
    rw [List.drop_length] at h2
    unfold forL at h2
    rw [gd] at h2
    exact h2.now a2
/-- the turns of a while, at most so many -/
def whileL (c : De Bool) (body : Ds) : Nat → Ds
  | 0, _, _ => none
  | n + 1, sl, st => match c sl st with
    | some (.ok true, st1) => match body sl st1 with
      | some (.nx, sl2, st2) => whileL c body n sl2 st2
      | some (.ct, sl2, st2) => whileL c body n sl2 st2
      | some (.bk, sl2, st2) => some (.nx, sl2, st2)
      | r => r
    | some (.ok false, st1) => some (.nx, sl, st1)
    | some (.ex c x, st1) => some (.ex c x, sl, st1)
    | none => none
theorem s_while {c : Expr} {body : List Stmt} {dc : De Bool} {db : Ds} {n : Nat} (hp : PassesOwn (model X.prog X.w) X.A X.env X.xe) (hc : PT X c (tT X.K G W dc)) (hb : PSs X body (tS X.K G W db)) :
    PS X (.While c body [] pos) (tS X.K G W (whileL dc db n)) := PS.imp (ps_while hp hc hb) fun D σ H h => by
  obtain ⟨ω, ρ, sl, st, a, h⟩ := h
  refine ⟨fun m σ' H' => ∃ ρ' sl' st', At X.K ω ρ' H' σ' sl' st' ∧ PostS X.K G W D ω ρ' H' (whileL dc db m sl' st'), ⟨n, ρ, sl, st, a, h⟩, ?_⟩
  rintro m σ2 H2 ⟨ρ2, sl2, st2, a2, h2⟩
  cases m with
  | zero => exact h2.elim
  | succ m =>
    unfold whileL at h2
    refine ⟨ω, ρ2, sl2, st2, a2, ?_⟩
    cases ec : dc sl2 st2 with
    | none => simp only [ec] at h2; exact h2.elim
    | some p =>
      obtain ⟨z, st3⟩ := p
      cases z with
      | ex c x =>
        simp only [ec] at h2
        exact fun dd xv H' ρ' e' s r hd n1 n2 => h2 σ2 H' ρ' e' ⟨s, a2.slo.ext e'⟩ dd xv r hd n1 n2
      | ok b =>
        intro b' H3 ρ3 e3 s3 hb'
        obtain rfl : b' = b := hb'
        have a3 : At X.K ω ρ3 H3 σ2 sl2 st3 := ⟨s3, a2.slo.ext e3⟩
        cases b' with
        | false =>
          simp only [ec] at h2
          exact iteF (h2 σ2 H3 ρ3 e3 a3)
        | true =>
          simp only [ec] at h2
          refine iteT ⟨_, fun σ' H' n => ⟨m, Nat.lt_succ_self m, n⟩, ω, ρ3, sl2, st3, a3, ?_⟩
          have h3 := h2.back e3
          cases eb : db sl2 st3 with
          | none => simp only [eb] at h3; exact h3.elim
          | some p =>
            obtain ⟨f, sl4, st4⟩ := p
            simp only [eb] at h3
            intro σ4 H4 ρ4 e4 a4
            cases f with
            | nx => exact ⟨ρ4, sl4, st4, a4, h3.back e4⟩
            | ct => exact ⟨ρ4, sl4, st4, a4, h3.back e4⟩
            | bk => exact h3 σ4 H4 ρ4 e4 a4
            | rt v => exact h3 σ4 H4 ρ4 e4 a4
            | ex c x => exact h3 σ4 H4 ρ4 e4 a4
end
end Hb

set_option Elab.async false
set_option linter.all false
set_option maxRecDepth 100000
set_option maxHeartbeats 1000000
/-! Part F: the operations on data, and that the machine's do them. -/
namespace Hb
open PySem PySem.Spec L2
section
variable {K : PySem.W.Frag} {ω ρ : List Addr} {H : Hp} {st : Sto}
/-! ### views -/
def lview (d : D) (st : Sto) : Option (List D) := match d with
  | .lst xs => some xs
  | .scr xs => some xs
  | .ref l => match st.o[l]? with
    | some (.lst xs) => some xs
    | _ => none
  | _ => none
/-- a list that may be an operand -/
def tview (d : D) (st : Sto) : Option (List D) := match d with
  | .lst xs => some xs
  | .ref l => match st.o[l]? with
    | some (.lst xs) => some xs
    | _ => none
  | _ => none
theorem tview_ok (s : StoR K ω ρ H st) {v : V} {d : D} {xs : List D} (r : Rp K ω ρ H v d) (e : tview d st = some xs) : ∃ a vs, v = .ref a ∧ H a = some (.lst vs) ∧ RpL K ω ρ H vs xs := by
  cases r with
  | lst h _ _ t => cases e; exact ⟨_, _, rfl, h, t⟩
  | @ref a l h =>
    have e' : (match st.o[l]? with
      | some (.lst xs) => some xs
      | _ => none) = some xs := e
    cases q : st.o[l]? with
    | none => rw [q] at e'; cases e'
    | some o =>
      rw [q] at e'
      cases o with
      | lst ys =>
        cases e'
        cases s.obj l _ a q h with
        | lst h1 t => exact ⟨_, _, rfl, h1, t⟩
      | _ => cases e'
  | _ => cases e
theorem lview_ok (s : StoR K ω ρ H st) {v : V} {d : D} {xs : List D} (r : Rp K ω ρ H v d) (e : lview d st = some xs) : ∃ a vs, v = .ref a ∧ SqL K H a vs ∧ RpL K ω ρ H vs xs := by
  cases r with
  | scr h _ _ t => cases e; exact ⟨_, _, rfl, .inl (.inr ⟨_, h⟩), t⟩
  | scrK h t => cases e; exact ⟨_, _, rfl, h H, t⟩
  | lst h n1 n2 t => cases e; exact ⟨_, _, rfl, .of h, t⟩
  | @ref a l h =>
    obtain ⟨b, vs, h1, h2, h3⟩ := tview_ok s (.ref h) (show tview (.ref l) st = some xs from e)
    exact ⟨b, vs, h1, .of h2, h3⟩
  | _ => cases e
/-- a list or a tuple -/
def qview (d : D) (st : Sto) : Option (List D) := match d with
  | .tup xs => some xs
  | d => lview d st
theorem qview_ok (s : StoR K ω ρ H st) {v : V} {d : D} {xs : List D} (r : Rp K ω ρ H v d) (e : qview d st = some xs) : ∃ a vs, v = .ref a ∧ (SqL K H a vs ∨ SqT K H a vs) ∧ RpL K ω ρ H vs xs := by
  cases d with
  | tup ys =>
    cases e
    obtain ⟨a, vs, h1, h2, h3⟩ := r.sqT
    exact ⟨a, vs, h1, .inr h2, h3⟩
  | lst ys =>
    obtain ⟨a, vs, h1, h2, h3⟩ := lview_ok s r (show lview (.lst ys) st = some xs from e)
    exact ⟨a, vs, h1, .inl h2, h3⟩
  | scr ys =>
    obtain ⟨a, vs, h1, h2, h3⟩ := lview_ok s r (show lview (.scr ys) st = some xs from e)
    exact ⟨a, vs, h1, .inl h2, h3⟩
  | ref l =>
    obtain ⟨a, vs, h1, h2, h3⟩ := lview_ok s r (show lview (.ref l) st = some xs from e)
    exact ⟨a, vs, h1, .inl h2, h3⟩
  | _ => cases e
/-- what a new list, a new tuple is -/
theorem new_lst {Q : VK} {zs : List D} {vs : List V} (s : StoR K ω ρ H st) (r : RpL K ω ρ H vs zs) (q : ∀ (z' : V) (H' : Hp), Ext ω ρ H ρ H' → StoR K ω ρ H' st → Rp K ω ρ H' z' (.lst zs) → Q z' H') :
    ∀ p, H p = none → Q (.ref p) (upd H p (.lst vs)) := fun p hp => by
  have e : Ext ω ρ H ρ (upd H p (.lst vs)) := Ext.new hp s.tr
  exact q _ _ e (s.new hp) (.lst upd_same (s.fresh hp).1 (s.fresh hp).2 (r.ext e))
theorem new_tup {Q : VK} {zs : List D} {vs : List V} (s : StoR K ω ρ H st) (r : RpL K ω ρ H vs zs) (q : ∀ (z' : V) (H' : Hp), Ext ω ρ H ρ H' → StoR K ω ρ H' st → Rp K ω ρ H' z' (.tup zs) → Q z' H') :
    ∀ p, H p = none → Q (.ref p) (upd H p (.tup vs)) := fun p hp => by
  have e : Ext ω ρ H ρ (upd H p (.tup vs)) := Ext.new hp s.tr
  exact q _ _ e (s.new hp) (.tup (.inl upd_same) (s.fresh hp).1 (s.fresh hp).2 (r.ext e))
theorem Rp.intI {v : V} {i : Int} (r : Rp K ω ρ H v (.int i)) : v = .int i := by cases r; rfl
theorem Rp.strI {v : V} {x : Str} (r : Rp K ω ρ H v (.str x)) : v = .str x := by cases r; rfl
theorem Rp.blI {v : V} {b : Bool} (r : Rp K ω ρ H v (.bl b)) : v = .bl b := by cases r; rfl
theorem Rp.nonI {v : V} (r : Rp K ω ρ H v .non) : v = .non := by cases r; rfl
theorem RpL.ne {vs : List V} {ds : List D} (r : RpL K ω ρ H vs ds) : (vs = [] ↔ ds = []) := by
  cases r <;> simp
end

/-! ### arithmetic, joining -/
def fCat (x y : D) (st : Sto) : Option D := match tview x st, tview y st with
  | some a, some b => if a.length + b.length ≤ sizeLine then some (.lst (a ++ b)) else none
  | _, _ => none
def fAdd (x y : D) (st : Sto) : Option D := match x with
  | .int i => (match y with
    | .int j => some (.int (i + j))
    | .bl k => some (.int (i + PyProof.Rows.b2i k))
    | _ => none)
  | .str a => (match y with
    | .str b => if a.length + b.length ≤ sizeLine then some (.str (a ++ b)) else none
    | _ => none)
  | .tup a => (match y with
    | .tup b => if a.length + b.length ≤ sizeLine then some (.tup (a ++ b)) else none
    | _ => none)
  | x => fCat x y st
section
variable {X : Cx}
theorem cat_ok {pins : List (Addr × Obj)} {s : Shared} {σ : L2.St} {H : Hp} {x' y' : V} {v u : Value} {Q : VK} {ω ρ : List Addr} {st : Sto} {x y z : D} (I : Inv X pins σ H s) (rx : RelV x' v) (ry : RelV y' u) (sr : StoR X.K ω ρ H st) (dx : Rp X.K ω ρ H x' x) (dy : Rp X.K ω ρ H y' y)
    (e : fCat x y st = some z) (q : ∀ (z' : V) (H' : Hp), Ext ω ρ H ρ H' → StoR X.K ω ρ H' st → Rp X.K ω ρ H' z' z → Q z' H') : wpAny (model X.prog X.w) X.A (binaryOp .Add v u) (EP X pins σ Q) X.xe s := by
  unfold fCat at e
  split at e
  · next a b e1 e2 =>
    split at e
    · next hl =>
      cases e
      obtain ⟨p, vs, rfl, h1, r1⟩ := tview_ok sr dx e1
      obtain ⟨p2, ws, rfl, h2, r2⟩ := tview_ok sr dy e2
      exact op_cat pins s σ H _ _ v u Q I rx ry ⟨_, _, vs, ws, rfl, rfl, h1, h2, by rw [r1.length, r2.length]; exact hl, new_lst sr (r1.append r2) q⟩
    · cases e
  · cases e
theorem o_add : OpR X (binaryOp .Add) (rV2 X.K fAdd) := by
  intro pins s σ H x' y' v u Q I rx ry ⟨ω, ρ, st, x, y, z, sr, dx, dy, e, q⟩
  cases x with
  | int i =>
    cases y with
    | int j =>
      cases e
      obtain rfl := dx.intI
      obtain rfl := dy.intI
      exact op_add pins s σ H _ _ v u Q I rx ry ⟨i, j, rfl, rfl, q _ H .refl sr (.int _)⟩
    | bl k =>
      cases e
      obtain rfl := dx.intI
      obtain rfl := dy.blI
      exact op_add_ib pins s σ H _ _ v u Q I rx ry ⟨i, k, rfl, rfl, q _ H .refl sr (.int _)⟩
    | _ => cases e
  | str a =>
    cases y with
    | str b =>
      obtain rfl := dx.strI
      obtain rfl := dy.strI
      have e' : (if a.length + b.length ≤ sizeLine then some (D.str (a ++ b)) else none) = some z := e
      split at e'
      · next hl => cases e'; exact op_add_str pins s σ H _ _ v u Q I rx ry ⟨a, b, rfl, rfl, hl, q _ H .refl sr (.str _)⟩
      · cases e'
    | _ => cases e
  | tup a =>
    cases y with
    | tup b =>
      have e' : (if a.length + b.length ≤ sizeLine then some (D.tup (a ++ b)) else none) = some z := e
      split at e'
      · next hl =>
        cases e'
        obtain ⟨p, vs, rfl, h1, r1⟩ := dx.sqT
        obtain ⟨p2, ws, rfl, h2, r2⟩ := dy.sqT
        refine op_catA pins s σ H _ _ v u Q I rx ry ⟨p, p2, vs, ws, rfl, rfl, h1, h2, by rw [r1.length, r2.length]; exact hl, fun h => ?_, fun _ h => ?_, fun _ _ => new_tup sr (r1.append r2) q⟩
        · have := r1.ne.mp h
          subst this
          exact q _ H .refl sr (by simpa using dy)
        · have := r2.ne.mp h
          subst this
          exact q _ H .refl sr (by simpa using dx)
      · cases e'
    | _ => cases e
  | lst a => exact cat_ok I rx ry sr dx dy e q
  | ref a => exact cat_ok I rx ry sr dx dy e q
  | non => cases e
  | bl b => cases e
  | dic a b => cases e
  | ins b c => cases e
  | scr b => cases e
/-- ints, under a test -/
def fI (c : Int → Int → Bool) (g : Int → Int → D) (x y : D) (_ : Sto) : Option D := match x, y with
  | .int i, .int j => if c i j then some (g i j) else none
  | _, _ => none
theorem o_int {f : Value → Value → Sem Value} {C : Int → Int → Prop} {c : Int → Int → Bool} {g : Int → Int → V} {g' : Int → Int → D} (h : OpR X f (rI C g)) (hc : ∀ i j, c i j = true → C i j) (hg : ∀ i j ω ρ H, Rp X.K ω ρ H (g i j) (g' i j)) : OpR X f (rV2 X.K (fI c g')) := by
  intro pins s σ H x' y' v u Q I rx ry ⟨ω, ρ, st, x, y, z, sr, dx, dy, e, q⟩
  cases x with
  | int i =>
    cases y with
    | int j =>
      have e' : (if c i j then some (g' i j) else none) = some z := e
      split at e'
      · next hl =>
        cases e'
        obtain rfl := dx.intI
        obtain rfl := dy.intI
        exact h pins s σ H _ _ v u Q I rx ry ⟨i, j, rfl, rfl, hc i j hl, q _ H .refl sr (hg ..)⟩
      · cases e'
    | _ => cases e
  | _ => cases e
theorem rI_of0 {f : Value → Value → Sem Value} {g : Int → Int → V} (h : OpR X f (rI0 g)) : OpR X f (rI (fun _ _ => True) g) := by
  intro pins s σ H x' y' v u Q I rx ry ⟨i, j, e1, e2, _, q⟩
  exact h pins s σ H x' y' v u Q I rx ry ⟨i, j, e1, e2, q⟩
abbrev cT : Int → Int → Bool := fun _ _ => true
def fSub := fI cT fun i j => .int (i - j)
theorem o_sub : OpR X (binaryOp .Sub) (rV2 X.K fSub) := o_int (rI_of0 op_sub) (fun _ _ _ => trivial) fun _ _ _ _ _ => .int _
def cMul (i j : Int) : Bool := (decide (-(2 ^ 64) < i) && decide (i < 2 ^ 64)) || (decide (-(2 ^ 64) < j) && decide (j < 2 ^ 64))
theorem cMul_ok {i j : Int} (h : cMul i j = true) : CMul i j := by
  unfold cMul at h
  simp only [Bool.or_eq_true, Bool.and_eq_true, decide_eq_true_eq] at h
  exact h
/-- a * b: ints, a list so often -/
def fRep (x : D) (k : Int) (st : Sto) : Option D := match tview x st with
  | some xs => if -(2 ^ 63) ≤ k ∧ k < 2 ^ 63 ∧ xs.length * k.toNat ≤ sizeLine then some (.lst (List.replicate k.toNat xs).flatten) else none
  | none => none
def fMul (x y : D) (st : Sto) : Option D := match y with
  | .int j => (match x with
    | .int i => if cMul i j then some (.int (i * j)) else none
    | x => fRep x j st)
  | _ => none
theorem RpL.rep {K : PySem.W.Frag} {ω ρ : List Addr} {H : Hp} {vs : List V} {ds : List D} (r : RpL K ω ρ H vs ds) : ∀ n, RpL K ω ρ H (List.replicate n vs).flatten (List.replicate n ds).flatten
  | 0 => .nil
  | n + 1 => by
    rw [List.replicate_succ, List.replicate_succ, List.flatten_cons, List.flatten_cons]
    exact r.append (RpL.rep r n)
theorem o_mul : OpR X (binaryOp .Mult) (rV2 X.K fMul) := by
  intro pins s σ H x' y' v u Q I rx ry ⟨ω, ρ, st, x, y, z, sr, dx, dy, e, q⟩
  cases y with
  | int k =>
    obtain rfl := dy.intI
    have rep : fRep x k st = some z → wpAny (model X.prog X.w) X.A (binaryOp .Mult v u) (EP X pins σ Q) X.xe s := fun e => by
      unfold fRep at e
      split at e
      · next xs e1 =>
        split at e
        · next hl =>
          cases e
          obtain ⟨p, vs, rfl, h1, r1⟩ := tview_ok sr dx e1
          exact op_rep pins s σ H _ _ v u Q I rx ry ⟨p, k, vs, rfl, rfl, h1, hl.1, hl.2.1, by rw [r1.length]; exact hl.2.2, new_lst sr (r1.rep _) q⟩
        · cases e
      · cases e
    cases x with
    | int i =>
      have e' : (if cMul i k then some (D.int (i * k)) else none) = some z := e
      split at e'
      · next hl =>
        cases e'
        obtain rfl := dx.intI
        exact op_mul pins s σ H _ _ v u Q I rx ry ⟨i, k, rfl, rfl, cMul_ok hl, q _ H .refl sr (.int _)⟩
      · cases e'
    | lst _ => exact rep e
    | ref _ => exact rep e
    | _ => cases e
  | _ => cases e
def fFdv := fI (fun _ j => decide (0 < j) && decide (j < 1073741824)) fun i j => .int (i / j)
theorem o_fdv : OpR X (binaryOp .FloorDiv) (rV2 X.K fFdv) := o_int op_fdiv (fun i j h => by simpa [CDiv] using h) fun _ _ _ _ _ => .int _
def fMod := fI (fun _ j => decide (0 < j)) fun i j => .int (i % j)
theorem o_mod : OpR X (binaryOp .Mod) (rV2 X.K fMod) := o_int op_mod (fun i j h => by simpa using h) fun _ _ _ _ _ => .int _
def fPow := fI (fun i j => decide (0 ≤ j) && decide (j ≤ 1000000) && decide (i.natAbs < 2 ^ 64)) fun i j => .int (i ^ j.toNat)
theorem o_pow : OpR X (binaryOp .Pow) (rV2 X.K fPow) := o_int op_pow (fun i j h => by simpa [CPow, and_assoc] using h) fun _ _ _ _ _ => .int _
def fLt := fI cT fun i j => .bl (decide (i < j))
def fLe := fI cT fun i j => .bl (decide (i ≤ j))
def fGt := fI cT fun i j => .bl (decide (j < i))
def fGe := fI cT fun i j => .bl (decide (j ≤ i))
theorem o_lt : OpR X (compareOp .Lt) (rV2 X.K fLt) := o_int (rI_of0 op_lt) (fun _ _ _ => trivial) fun _ _ _ _ _ => .bl _
theorem o_le : OpR X (compareOp .LtE) (rV2 X.K fLe) := o_int (rI_of0 op_le) (fun _ _ _ => trivial) fun _ _ _ _ _ => .bl _
theorem o_gt : OpR X (compareOp .Gt) (rV2 X.K fGt) := o_int (rI_of0 op_gt) (fun _ _ _ => trivial) fun _ _ _ _ _ => .bl _
theorem o_ge : OpR X (compareOp .GtE) (rV2 X.K fGe) := o_int (rI_of0 op_ge) (fun _ _ _ => trivial) fun _ _ _ _ _ => .bl _
def fNeg (x : D) (_ : Sto) : Option D := match x with
  | .int i => some (.int (-i))
  | _ => none
theorem o_neg : UnR X (unaryOp .USub) (rV1 X.K fNeg) := by
  intro pins s σ H x' v Q I rx ⟨ω, ρ, st, x, z, sr, dx, e, q⟩
  cases x with
  | int i =>
    cases e
    obtain rfl := dx.intI
    exact un_neg pins s σ H _ v Q I rx ⟨i, rfl, q _ H .refl sr (.int _)⟩
  | _ => cases e

/-! ### == and != -/
/-- data as the machine compares it: what of the store is meant is read off it (one step) -/
def cmpOk (a b : PyData) : Bool := a.canLay0 && b.canLay0 && decide (a.depth ≤ 64) && decide (b.depth ≤ 64)
/-- the operand of a comparison -/
def cview (d : D) (st : Sto) : D := match d with
  | .ref l => match st.o[l]? with
    | some (.lst xs) => .lst xs
    | _ => d
  | d => d
theorem cview_dp {K : PySem.W.Frag} {ω ρ : List Addr} {H : Hp} {st : Sto} (s : StoR K ω ρ H st) {v : V} {d : D} (r : Rp K ω ρ H v d) (c : (cview d st).pd.canLay0 = true) : Dp K H v (cview d st).pd := by
  cases d with
  | ref l =>
    have hr := r
    cases r with
    | ref h =>
      unfold cview at c ⊢
      cases q : st.o[l]? with
      | none => simp only [q] at c; simp [D.pd, PyData.canLay0] at c
      | some o =>
        cases o with
        | lst xs =>
          simp only [q] at c ⊢
          cases s.obj l _ _ q h with
          | lst h1 t => exact .lst (.of h1) (t.dp (by simpa [D.pd, PyData.canLay0] using c))
        | _ => simp only [q] at c; simp [D.pd, PyData.canLay0] at c
  | _ => exact r.dp c
def fEq (x y : D) (st : Sto) : Option D := if cmpOk (cview x st).pd (cview y st).pd then some (.bl (PyData.eqv (cview x st).pd (cview y st).pd)) else none
def fNe (x y : D) (st : Sto) : Option D := if cmpOk (cview x st).pd (cview y st).pd then some (.bl (!PyData.eqv (cview x st).pd (cview y st).pd)) else none
theorem cmpOk_ok {a b : PyData} (h : cmpOk a b = true) : SeqAt.shaped a = true ∧ SeqAt.shaped b = true ∧ a.canLay0 = true ∧ b.canLay0 = true := by
  unfold cmpOk at h
  simp only [Bool.and_eq_true, decide_eq_true_eq] at h
  obtain ⟨⟨⟨h1, h2⟩, h3⟩, h4⟩ := h
  refine ⟨?_, ?_, h1, h2⟩
  · show (_ && _) = true
    simp [h1, h3]
  · show (_ && _) = true
    simp [h2, h4]
theorem o_eq (hu : X.A.units + 64 < cLine) : OpR X (compareOp .Eq) (rV2 X.K fEq) := by
  intro pins s σ H x' y' v u Q I rx ry ⟨ω, ρ, st, x, y, z, sr, dx, dy, e, q⟩
  unfold fEq at e
  split at e
  · next h =>
    cases e
    obtain ⟨s1, s2, l1, l2⟩ := cmpOk_ok h
    exact op_eqD hu pins s σ H _ _ v u Q I rx ry ⟨_, _, cview_dp sr dx l1, cview_dp sr dy l2, s1, s2, q _ H .refl sr (.bl _)⟩
  · cases e
theorem o_ne (hu : X.A.units + 64 < cLine) : OpR X (compareOp .NotEq) (rV2 X.K fNe) := by
  intro pins s σ H x' y' v u Q I rx ry ⟨ω, ρ, st, x, y, z, sr, dx, dy, e, q⟩
  unfold fNe at e
  split at e
  · next h =>
    cases e
    obtain ⟨s1, s2, l1, l2⟩ := cmpOk_ok h
    exact op_neD hu pins s σ H _ _ v u Q I rx ry ⟨_, _, cview_dp sr dx l1, cview_dp sr dy l2, s1, s2, q _ H .refl sr (.bl _)⟩
  · cases e
def isNon : D → Bool
  | .non => true
  | _ => false
theorem isNon_ok {K : PySem.W.Frag} {ω ρ : List Addr} {H : Hp} {v : V} {d : D} (r : Rp K ω ρ H v d) : decide (v = .non) = isNon d := by
  cases r <;> simp [isNon]
def fIs (x y : D) (_ : Sto) : Option D := match y with
  | .non => some (.bl (isNon x))
  | _ => none
def fIsN (x y : D) (_ : Sto) : Option D := match y with
  | .non => some (.bl (!isNon x))
  | _ => none
theorem o_is : OpR X (compareOp .Is) (rV2 X.K fIs) := by
  intro pins s σ H x' y' v u Q I rx ry ⟨ω, ρ, st, x, y, z, sr, dx, dy, e, q⟩
  cases y with
  | non =>
    cases e
    obtain rfl := dy.nonI
    exact op_isN pins s σ H _ _ v u Q I rx ry ⟨rfl, q _ H .refl sr (by rw [isNon_ok dx]; exact .bl _)⟩
  | _ => cases e
theorem o_isn : OpR X (compareOp .IsNot) (rV2 X.K fIsN) := by
  intro pins s σ H x' y' v u Q I rx ry ⟨ω, ρ, st, x, y, z, sr, dx, dy, e, q⟩
  cases y with
  | non =>
    cases e
    obtain rfl := dy.nonI
    exact op_notN pins s σ H _ _ v u Q I rx ry ⟨rfl, q _ H .refl sr (by rw [isNon_ok dx]; exact .bl _)⟩
  | _ => cases e
end
end Hb

set_option Elab.async false
set_option linter.all false
set_option maxRecDepth 100000
set_option maxHeartbeats 1000000
/-! Part G: more operations: in, subscripts, slices, built-ins, methods. -/
namespace Hb
open PySem PySem.Spec L2
section
variable {X : Cx}
/-! ### in, not in -/
def inOk (xs : List PyData) (d : PyData) : Bool := PyData.canLayAll0 xs && d.canLay0 && decide (min (PyData.depthAll xs) d.depth ≤ 64)
theorem inOk_ok {xs : List PyData} {d : PyData} (h : inOk xs d = true) : PyData.canLayAll0 xs = true ∧ d.canLay0 = true ∧ min (PyData.depthAll xs) d.depth ≤ 64 := by
  unfold inOk at h
  simp only [Bool.and_eq_true, decide_eq_true_eq] at h
  exact ⟨h.1.1, h.1.2, h.2⟩
/-- the answer of x in y -/
def inB (x y : D) (st : Sto) : Option Bool := match y with
  | .str z => (match x with
    | .str a => (match a.cps.toList with
      | [c] => some (decide (c ∈ z.cps.toList))
      | _ => none)
    | _ => none)
  | y => match qview y st with
    | some ys => if inOk (D.pds ys) x.pd then some ((D.pds ys).any fun y => PyData.eqv y x.pd) else none
    | none => none
def fIn (x y : D) (st : Sto) : Option D := (inB x y st).map .bl
def fNin (x y : D) (st : Sto) : Option D := (inB x y st).map fun b => .bl (!b)
theorem str_one {a : Str} {c : Nat} (h : a.cps.toList = [c]) : a = ⟨#[c]⟩ := by
  obtain ⟨⟨l⟩⟩ := a
  have h' : l = [c] := h
  subst h'
  rfl
/-- how a list or a tuple of data is read -/
theorem q_reads {pins : List (Addr × Obj)} {s : Shared} {σ : L2.St} {H : Hp} {ω ρ : List Addr} {st : Sto} {y' : V} {u : Value} {y : D} {ys : List D} (I : Inv X pins σ H s) (ry : RelV y' u) (sr : StoR X.K ω ρ H st) (dy : Rp X.K ω ρ H y' y) (e : qview y st = some ys) (c : PyData.canLayAll0 (D.pds ys) = true) :
    (∃ as, Reads s.heap u (.list (D.pds ys)) as) ∨ ∃ as, Reads s.heap u (.tuple (D.pds ys)) as := by
  obtain ⟨a, vs, rfl, h, r⟩ := qview_ok sr dy e
  rcases h with h | h
  · exact .inl (Dp.reads I _ _ _ (.lst h (r.dp c)) ry)
  · exact .inr (Dp.reads I _ _ _ (.tup h (r.dp c)) ry)
theorem o_inG (hu : X.A.units + 1 + 64 < cLine) {op : CmpOp} {g : Bool → Bool}
    (h1 : OpR X (compareOp op) fun x y H Q => ∃ (c : Nat) (z : Str), x = .str ⟨#[c]⟩ ∧ y = .str z ∧ Q (.bl (g (decide (c ∈ z.cps.toList)))) H)
    (h2 : ∀ {s : Shared} {c x : Value} {xs : List PyData} {d : PyData} {as bs : List Addr} {Q : Value → Shared → Prop}, Reads s.heap c (.list xs) as → Reads s.heap x d bs → PyData.canLayAll0 xs = true → d.canLay0 = true → X.A.units + 1 + min (PyData.depthAll xs) d.depth < cLine → Q (.bool (g (xs.any fun y => PyData.eqv y d))) s → wpAny (model X.prog X.w) X.A (compareOp op x c) Q X.xe s)
    (h3 : ∀ {s : Shared} {c x : Value} {xs : List PyData} {d : PyData} {as bs : List Addr} {Q : Value → Shared → Prop}, Reads s.heap c (.tuple xs) as → Reads s.heap x d bs → PyData.canLayAll0 xs = true → d.canLay0 = true → X.A.units + 1 + min (PyData.depthAll xs) d.depth < cLine → Q (.bool (g (xs.any fun y => PyData.eqv y d))) s → wpAny (model X.prog X.w) X.A (compareOp op x c) Q X.xe s) :
    OpR X (compareOp op) (rV2 X.K fun x y st => (inB x y st).map fun b => .bl (g b)) := by
  intro pins s σ H x' y' v u Q I rx ry ⟨ω, ρ, st, x, y, z, sr, dx, dy, e, q⟩
  obtain ⟨b, eb, rfl⟩ := Option.map_eq_some_iff.mp e
  have seq : (match qview y st with
    | some ys => if inOk (D.pds ys) x.pd then some ((D.pds ys).any fun y => PyData.eqv y x.pd) else none
    | none => none) = some b → wpAny (model X.prog X.w) X.A (compareOp op v u) (EP X pins σ Q) X.xe s := fun eb => by
    split at eb
    · next ys eq =>
      split at eb
      · next h =>
        cases eb
        obtain ⟨c1, c2, c3⟩ := inOk_ok h
        obtain ⟨bs, rdx⟩ := Dp.reads I _ _ _ (dx.dp c2) rx
        have fin : EP X pins σ Q (.bool (g ((D.pds ys).any fun y => PyData.eqv y x.pd))) s := ⟨.bl _, H, I, rfl, q _ H .refl sr (.bl _)⟩
        rcases q_reads I ry sr dy eq c1 with ⟨as, r⟩ | ⟨as, r⟩
        · exact h2 r rdx c1 c2 (by omega) fin
        · exact h3 r rdx c1 c2 (by omega) fin
      · cases eb
    · cases eb
  cases y with
  | str w =>
    cases x with
    | str a =>
      have eb' : (match a.cps.toList with
        | [c] => some (decide (c ∈ w.cps.toList))
        | _ => none) = some b := eb
      split at eb'
      · next c hc =>
        cases eb'
        obtain rfl := dy.strI
        obtain rfl := dx.strI
        rw [str_one hc] at rx
        exact h1 pins s σ H _ _ v u Q I rx ry ⟨c, w, rfl, rfl, q _ H .refl sr (.bl _)⟩
      · cases eb'
    | _ => cases eb
  | _ => exact seq eb
theorem o_in (hu : X.A.units + 1 + 64 < cLine) : OpR X (compareOp .In) (rV2 X.K fIn) := o_inG (g := fun b => b) hu op_in_sign SeqAt.in_list_reads SeqAt.in_tuple_reads
theorem o_nin (hu : X.A.units + 1 + 64 < cLine) : OpR X (compareOp .NotIn) (rV2 X.K fNin) := o_inG (g := fun b => !b) hu op_notIn_sign SeqAt.notIn_list_reads SeqAt.notIn_tuple_reads

/-! ### subscripts -/
def fIx (x y : D) (st : Sto) : Option D := match y with
  | .int i => (match x with
    | .str z => if z.length ≤ sizeLine then (atI z.cps.toList i).map fun c => .str ⟨#[c]⟩ else none
    | x => match qview x st with
      | some xs => atI xs i
      | none => none)
  | _ => none
theorem RpL.atI {K : PySem.W.Frag} {ω ρ : List Addr} {H : Hp} {vs : List V} {ds : List D} (r : RpL K ω ρ H vs ds) {i : Int} {d : D} (h : L2.atI ds i = some d) : ∃ v, L2.atI vs i = some v ∧ Rp K ω ρ H v d := by
  unfold L2.atI at h ⊢
  rw [r.length]
  obtain ⟨j, h1, h2⟩ := Option.bind_eq_some_iff.mp h
  obtain ⟨v, h3, h4⟩ := r.get h2
  exact ⟨v, by rw [h1]; exact h3, h4⟩
theorem o_ix : IxR X (rV2 X.K fIx) := by
  intro value slice pins s σ H x' y' v u Q I rx ry ⟨ω, ρ, st, x, y, z, sr, dx, dy, e, q⟩ hs
  cases y with
  | int i =>
    obtain rfl := dy.intI
    have seq : (match qview x st with
      | some xs => atI xs i
      | none => none) = some z → wpAny (model X.prog X.w) X.A (PyProof.Rows.subscriptTail value slice v u) (EP X pins σ Q) X.xe s := fun e => by
      split at e
      · next xs eq =>
        obtain ⟨a, vs, rfl, h, r⟩ := qview_ok sr dx eq
        obtain ⟨w, h1, h2⟩ := r.atI e
        rcases h with h | h
        · exact ix_list value slice pins s σ H _ _ v u Q I rx ry ⟨a, vs, i, w, rfl, rfl, h, h1, q _ H .refl sr h2⟩ hs
        · exact ix_tup value slice pins s σ H _ _ v u Q I rx ry ⟨a, vs, i, w, rfl, rfl, h, h1, q _ H .refl sr h2⟩ hs
      · cases e
    cases x with
    | str w =>
      have e' : (if w.length ≤ sizeLine then (atI w.cps.toList i).map fun c => D.str ⟨#[c]⟩ else none) = some z := e
      split at e'
      · next hl =>
        obtain ⟨c, h1, rfl⟩ := Option.map_eq_some_iff.mp e'
        obtain rfl := dx.strI
        exact ix_str value slice pins s σ H _ _ v u Q I rx ry ⟨w, i, c, rfl, rfl, hl, h1, q _ H .refl sr (.str _)⟩ hs
      · cases e'
    | _ => exact seq e
  | _ => cases e
def cutD (xs : List D) (lo hi : Option Int) : List D := (xs.drop (HT.sIx xs.length 0 lo)).take (HT.sIx xs.length xs.length hi - HT.sIx xs.length 0 lo)
theorem RpL.cutD {K : PySem.W.Frag} {ω ρ : List Addr} {H : Hp} {vs : List V} {ds : List D} (r : RpL K ω ρ H vs ds) (lo hi : Option Int) : RpL K ω ρ H (cutV vs lo hi) (Hb.cutD ds lo hi) := by
  unfold cutV Hb.cutD
  rw [r.length]
  exact (r.drop _).take _
def fSl (x : D) (lo hi : Option Int) (st : Sto) : Option D := match x with
  | .str z => if z.length ≤ sizeLine then some (.str (cutS z lo hi)) else none
  | .tup xs => some (.tup (cutD xs lo hi))
  | x => (lview x st).map fun xs => .lst (cutD xs lo hi)
theorem o_sl : SlR X (rVs X.K fSl) := by
  intro pins s σ H x' v vl vu lo hi sl Q I rx hs pl pu ⟨ω, ρ, st, x, z, sr, dx, e, q⟩
  have seq : (lview x st).map (fun xs => D.lst (cutD xs lo hi)) = some z → ∃ T id, typeLookup (.type T) "__getitem__" = pure (some (.builtin id)) ∧ s.TypeIs v T ∧ wpAny (model X.prog X.w) X.A (getItem v (.ref sl)) (EP X pins σ Q) X.xe s := fun e => by
    obtain ⟨xs, eq, rfl⟩ := Option.map_eq_some_iff.mp e
    obtain ⟨a, vs, rfl, h, r⟩ := lview_ok sr dx eq
    exact sl_list pins s σ H _ v vl vu lo hi sl Q I rx hs pl pu ⟨a, vs, rfl, h, new_lst sr (r.cutD lo hi) q⟩
  cases x with
  | str w =>
    have e' : (if w.length ≤ sizeLine then some (D.str (cutS w lo hi)) else none) = some z := e
    split at e'
    · next hl =>
      cases e'
      obtain rfl := dx.strI
      exact sl_str pins s σ H _ v vl vu lo hi sl Q I rx hs pl pu ⟨w, rfl, hl, q _ H .refl sr (.str _)⟩
    · cases e'
  | tup xs =>
    cases e
    have dx' := dx
    obtain ⟨a, vs, rfl, h, r⟩ := dx.sqT
    refine sl_tupA pins s σ H _ v vl vu lo hi sl Q I rx hs pl pu ⟨a, vs, rfl, h, fun hw => ?_, fun _ => new_tup sr (r.cutD lo hi) q⟩
    refine q _ H .refl sr ?_
    have : cutD xs lo hi = xs := by
      unfold cutD
      rw [r.length] at hw
      rw [hw.1, hw.2]
      simp
    rw [this]
    exact dx'
  | _ => exact seq e

/-! ### built-ins by name -/
def lenOf (d : D) (st : Sto) : Option Nat := match d with
  | .str z => if z.length ≤ sizeLine then some z.length else none
  | d => (qview d st).map List.length
def fLen : List D → Sto → Option D
  | [x], st => (lenOf x st).map fun (n : Nat) => D.int (n : Int)
  | _, _ => none
theorem b_len : CallR X (.builtin "len") (rVn X.K fLen) := by
  intro pins s σ H xs' us Q I rx ⟨ω, ρ, st, xs, z, sr, dx, e, q⟩
  cases dx with
  | nil => cases e
  | cons d1 t =>
    rename_i x' xs1 x xs2
    cases t with
    | cons _ _ => cases e
    | nil =>
      obtain ⟨n, en, rfl⟩ := Option.map_eq_some_iff.mp (show (lenOf x st).map (fun (n : Nat) => D.int (n : Int)) = some z from e)
      have seq : (qview x st).map List.length = some n → wpAny (model X.prog X.w) X.A (call (.builtin "len") us) (EP X pins σ Q) X.xe s := fun e => by
        obtain ⟨ys, eq, rfl⟩ := Option.map_eq_some_iff.mp e
        obtain ⟨a, vs, rfl, h, r⟩ := qview_ok sr d1 eq
        exact call_len_seq pins s σ H _ us Q I rx ⟨a, vs, rfl, h, by rw [r.length]; exact q _ H .refl sr (.int _)⟩
      cases x with
      | str w =>
        have e' : (if w.length ≤ sizeLine then some w.length else none) = some n := en
        split at e'
        · next hl =>
          cases e'
          obtain rfl := d1.strI
          exact call_len_str pins s σ H _ us Q I rx ⟨w, rfl, hl, q _ H .refl sr (.int _)⟩
        · cases e'
      | _ => exact seq en
def fInt : List D → Sto → Option D
  | [.int i], _ => some (.int i)
  | [.bl k], _ => some (.int (if k then 1 else 0))
  | _, _ => none
theorem b_int : CallR X (.type "int") (rVn X.K fInt) := by
  intro pins s σ H xs' us Q I rx ⟨ω, ρ, st, xs, z, sr, dx, e, q⟩
  cases dx with
  | nil => cases e
  | cons d1 t =>
    rename_i x' xs1 x xs2
    cases t with
    | cons _ _ => cases x <;> cases e
    | nil =>
      cases x with
      | int i =>
        cases e
        obtain rfl := d1.intI
        exact call_int1 pins s σ H _ us Q I rx (.inl ⟨i, rfl, q _ H .refl sr (.int _)⟩)
      | bl k =>
        cases e
        obtain rfl := d1.blI
        exact call_int1 pins s σ H _ us Q I rx (.inr ⟨k, rfl, q _ H .refl sr (.int _)⟩)
      | _ => cases e
def fMin2 : List D → Sto → Option D
  | [.int i, .int j], _ => some (.int (if j < i then j else i))
  | _, _ => none
def fMax2 : List D → Sto → Option D
  | [.int i, .int j], _ => some (.int (if j > i then j else i))
  | _, _ => none
theorem b_two {id : String} {g : Int → Int → Int} {f : List D → Sto → Option D} (h : CallR X (.builtin id) fun xs H Q => ∃ i j, xs = [.int i, .int j] ∧ Q (.int (g i j)) H) (hf : ∀ xs st z, f xs st = some z → ∃ i j, xs = [.int i, .int j] ∧ z = .int (g i j)) : CallR X (.builtin id) (rVn X.K f) := by
  intro pins s σ H xs' us Q I rx ⟨ω, ρ, st, xs, z, sr, dx, e, q⟩
  obtain ⟨i, j, rfl, rfl⟩ := hf _ _ _ e
  cases dx with
  | cons d1 t =>
    cases t with
    | cons d2 t =>
      cases t
      obtain rfl := d1.intI
      obtain rfl := d2.intI
      exact h pins s σ H _ us Q I rx ⟨i, j, rfl, q _ H .refl sr (.int _)⟩
theorem b_min2 (hc : X.calm = true) : CallR X (.builtin "min") (rVn X.K fMin2) := b_two (call_min2 hc) fun xs st z e => by
  unfold fMin2 at e
  split at e
  · next i j => cases e; exact ⟨i, j, rfl, rfl⟩
  · cases e
theorem b_max2 (hc : X.calm = true) : CallR X (.builtin "max") (rVn X.K fMax2) := b_two (call_max2 hc) fun xs st z e => by
  unfold fMax2 at e
  split at e
  · next i j => cases e; exact ⟨i, j, rfl, rfl⟩
  · cases e
/-- a list of intsD, of boolsD, of textsD -/
def intsD : List D → Option (List Int)
  | [] => some []
  | .int i :: r => (intsD r).map (i :: ·)
  | _ :: _ => none
def boolsD : List D → Option (List Bool)
  | [] => some []
  | .bl i :: r => (boolsD r).map (i :: ·)
  | _ :: _ => none
def textsD : List D → Option (List Str)
  | [] => some []
  | .str i :: r => (textsD r).map (i :: ·)
  | _ :: _ => none
theorem ints_ok {K : PySem.W.Frag} {ω ρ : List Addr} {H : Hp} : ∀ {ds : List D} {vs : List V} {ns : List Int}, RpL K ω ρ H vs ds → intsD ds = some ns → vs = ns.map V.int
  | [], _, _, .nil, e => by cases e; rfl
  | d :: ds, _, ns, .cons r t, e => by
    cases d with
    | int i =>
      obtain ⟨ms, h, rfl⟩ := Option.map_eq_some_iff.mp (show (intsD ds).map (i :: ·) = some ns from e)
      rw [r.intI, ints_ok t h]; rfl
    | _ => cases e
theorem bools_ok {K : PySem.W.Frag} {ω ρ : List Addr} {H : Hp} : ∀ {ds : List D} {vs : List V} {ns : List Bool}, RpL K ω ρ H vs ds → boolsD ds = some ns → vs = ns.map V.bl
  | [], _, _, .nil, e => by cases e; rfl
  | d :: ds, _, ns, .cons r t, e => by
    cases d with
    | bl i =>
      obtain ⟨ms, h, rfl⟩ := Option.map_eq_some_iff.mp (show (boolsD ds).map (i :: ·) = some ns from e)
      rw [r.blI, bools_ok t h]; rfl
    | _ => cases e
theorem texts_ok {K : PySem.W.Frag} {ω ρ : List Addr} {H : Hp} : ∀ {ds : List D} {vs : List V} {ns : List Str}, RpL K ω ρ H vs ds → textsD ds = some ns → vs = ns.map V.str
  | [], _, _, .nil, e => by cases e; rfl
  | d :: ds, _, ns, .cons r t, e => by
    cases d with
    | str i =>
      obtain ⟨ms, h, rfl⟩ := Option.map_eq_some_iff.mp (show (textsD ds).map (i :: ·) = some ns from e)
      rw [r.strI, texts_ok t h]; rfl
    | _ => cases e
/-- one list in -/
theorem b_list1 {id : String} {α : Type} {g : List D → Option α} {k : α → D} {r : List V → Hp → VK → Prop} (h : CallR X (.builtin id) r)
    (hr : ∀ {ω ρ : List Addr} {H : Hp} {st : Sto} {Q : VK} {a : Addr} {vs : List V} {ds : List D} {z : α}, StoR X.K ω ρ H st → SqL X.K H a vs → RpL X.K ω ρ H vs ds → g ds = some z → (∀ (z' : V) (H' : Hp), Ext ω ρ H ρ H' → StoR X.K ω ρ H' st → Rp X.K ω ρ H' z' (k z) → Q z' H') → r [.ref a] H Q) :
    CallR X (.builtin id) (rVn X.K fun xs st => match xs with
      | [x] => ((lview x st).bind g).map k
      | _ => none) := by
  intro pins s σ H xs' us Q I rx ⟨ω, ρ, st, xs, z, sr, dx, e, q⟩
  cases dx with
  | nil => cases e
  | cons d1 t =>
    rename_i x' xs1 x xs2
    cases t with
    | cons _ _ => cases e
    | nil =>
      obtain ⟨n, en, rfl⟩ := Option.map_eq_some_iff.mp (show ((lview x st).bind g).map k = some z from e)
      obtain ⟨ys, e1, e2⟩ := Option.bind_eq_some_iff.mp en
      obtain ⟨a, vs, rfl, h1, h2⟩ := lview_ok sr d1 e1
      exact h pins s σ H _ us Q I rx (hr sr h1 h2 e2 q)
def fSum : List D → Sto → Option D := fun xs st => match xs with
  | [x] => ((lview x st).bind intsD).map fun ns => .int ns.sum
  | _ => none
theorem b_sum (hc : X.calm = true) : CallR X (.builtin "sum") (rVn X.K fSum) := b_list1 (cr_sum hc) fun sr h1 h2 e q => ⟨_, _, rfl, by rw [← ints_ok h2 e]; exact h1, q _ _ .refl sr (.int _)⟩
def fAll : List D → Sto → Option D := fun xs st => match xs with
  | [x] => ((lview x st).bind boolsD).map fun bs => .bl (bs.all id)
  | _ => none
theorem b_all (hc : X.calm = true) : CallR X (.builtin "all") (rVn X.K fAll) := b_list1 (cr_all hc) fun sr h1 h2 e q => ⟨_, _, rfl, by rw [← bools_ok h2 e]; exact h1, q _ _ .refl sr (.bl _)⟩
def fAny : List D → Sto → Option D := fun xs st => match xs with
  | [x] => ((lview x st).bind boolsD).map fun bs => .bl (bs.any id)
  | _ => none
theorem b_any (hc : X.calm = true) : CallR X (.builtin "any") (rVn X.K fAny) := b_list1 (cr_any hc) fun sr h1 h2 e q => ⟨_, _, rfl, by rw [← bools_ok h2 e]; exact h1, q _ _ .refl sr (.bl _)⟩
/-- tuple(x), list(x) of a list or a tuple -/
def fTuple : List D → Sto → Option D := fun xs st => match xs with
  | [x] => (qview x st).map .tup
  | _ => none
theorem b_tuple : CallR X (.type "tuple") (rVn X.K fTuple) := by
  intro pins s σ H xs' us Q I rx ⟨ω, ρ, st, xs, z, sr, dx, e, q⟩
  cases dx with
  | nil => cases e
  | cons d1 t =>
    rename_i x' xs1 x xs2
    cases t with
    | cons _ _ => cases e
    | nil =>
      obtain ⟨ys, e1, rfl⟩ := Option.map_eq_some_iff.mp (show (qview x st).map D.tup = some z from e)
      have d0 := d1
      cases x with
      | tup zs =>
        cases e1
        obtain ⟨a, vs, rfl, h1, h2⟩ := d1.sqT
        exact call_tuple_of pins s σ H _ us Q I rx ⟨a, vs, rfl, .inr ⟨h1, q _ H .refl sr d0⟩⟩
      | _ =>
        obtain ⟨a, vs, rfl, h1, h2⟩ := lview_ok sr d1 e1
        exact call_tuple_of pins s σ H _ us Q I rx ⟨a, vs, rfl, .inl ⟨h1, new_tup sr h2 q⟩⟩
def fList : List D → Sto → Option (List D) := fun xs st => match xs with
  | [x] => qview x st
  | _ => none
theorem b_list : CallR X (.type "list") (rVl X.K fList) := by
  intro pins s σ H xs' us Q I rx ⟨ω, ρ, st, xs, zs, sr, dx, e, q⟩
  cases dx with
  | nil => cases e
  | cons d1 t =>
    rename_i x' xs1 x xs2
    cases t with
    | cons _ _ => cases e
    | nil =>
      obtain ⟨a, vs, rfl, h1, h2⟩ := qview_ok sr d1 (show qview x st = some zs from e)
      exact call_list_of pins s σ H _ us Q I rx ⟨a, vs, rfl, h1, fun l hl => q vs H l .refl sr h2 hl⟩
end
end Hb

set_option Elab.async false
set_option linter.all false
set_option maxRecDepth 100000
set_option maxHeartbeats 1000000
/-! Part H: methods, o[i] = v, isinstance. -/
namespace Hb
open PySem PySem.Spec L2
section
variable {K : PySem.W.Frag} {ω ρ : List Addr} {H : Hp} {st : Sto}
/-- may the l-th object come to hold y: it is of the def that runs, or y names no place -/
def okPut (st : Sto) (l : Nat) (y : D) : Bool := decide (st.b ≤ l) || y.bel 0
theorem Rp.write (s : StoR K ω ρ H st) {l : Nat} {a : Addr} {o : HO} (h : ρ[l]? = some a) {v : V} {d : D} (r : Rp K ω ρ H v d) : Rp K ω ρ (upd H a o) v d := r.ext (Ext.write h s.dj)
/-- the l-th list is written anew -/
theorem put_ok (s : StoR K ω ρ H st) {l : Nat} {a : Addr} {xs ys : List D} {vs : List V} (h : ρ[l]? = some a) (hx : st.o[l]? = some (.lst xs)) (r : RpL K ω ρ H vs ys) (hb : ∀ n, D.bels n xs = true → (st.b ≤ l ∨ D.bels n ys = true)) :
    Ext ω ρ H ρ (upd H a (.lst vs)) ∧ StoR K ω ρ (upd H a (.lst vs)) (st.put l (.lst ys)) := by
  have e : Ext ω ρ H ρ (upd H a (.lst vs)) := Ext.write h s.dj
  refine ⟨e, s.write h (.lst upd_same (r.ext e)) fun n hn hl => ?_⟩
  rcases hb n (s.old n hn l _ hl hx) with q | q
  · have := (s.bas n hn).1
    omega
  · exact q
theorem bels_append {n : Nat} {xs ys : List D} : D.bels n (xs ++ ys) = (D.bels n xs && D.bels n ys) := by
  induction xs with
  | nil => rfl
  | cons x r ih =>
    show (D.bel n x && D.bels n (r ++ ys)) = ((D.bel n x && D.bels n r) && D.bels n ys)
    rw [ih, Bool.and_assoc]
end

/-! ### the methods -/
inductive Mn where
  | endswith | join | append | pop | extend
  deriving DecidableEq
def Mn.name : Mn → Str
  | .endswith => "endswith"
  | .join => "join"
  | .append => "append"
  | .pop => "pop"
  | .extend => "extend"
/-- what receivers -/
def Mn.mk (m : Mn) (x : D) (st : Sto) : Option RK := match m, rk x st with
  | .endswith, some .str => some .str
  | .join, some .str => some .str
  | .append, some .lst => some .lst
  | .pop, some .lst => some .lst
  | .extend, some .lst => some .lst
  | _, _ => none
def gEndswith (x : D) (xs : List D) (st : Sto) : Option (D × Sto) := match x, xs with
  | .str a, [.str b] => some (.bl (Txt.endswith a b), st)
  | _, _ => none
def gJoin (x : D) (xs : List D) (st : Sto) : Option (D × Sto) := match x, xs with
  | .str a, [y] => match (qview y st).bind textsD with
    | some ys => if (ys.map (·.length)).sum + ys.length * a.length ≤ 16777216 then some (.str (Txt.join a ys), st) else none
    | none => none
  | _, _ => none
def gAppend (x : D) (xs : List D) (st : Sto) : Option (D × Sto) := match x, xs with
  | .ref l, [y] => match st.o[l]? with
    | some (.lst ys) => if ys.length < sizeLine ∧ okPut st l y = true then some (.non, st.put l (.lst (ys ++ [y]))) else none
    | _ => none
  | _, _ => none
def gPop (x : D) (xs : List D) (st : Sto) : Option (D × Sto) := match x, xs with
  | .ref l, [] => match st.o[l]? with
    | some (.lst ys) => match ys[ys.length - 1]? with
      | some y => some (y, st.put l (.lst ys.dropLast))
      | none => none
    | _ => none
  | _, _ => none
def gExtend (x : D) (xs : List D) (st : Sto) : Option (D × Sto) := match x, xs with
  | .ref l, [y] => match st.o[l]?, tview y st with
    | some (.lst ys), some zs => if ys.length + zs.length ≤ sizeLine ∧ (decide (st.b ≤ l) || D.bels 0 zs) = true then some (.non, st.put l (.lst (ys ++ zs))) else none
    | _, _ => none
  | _, _ => none
def Mn.g (m : Mn) (_ : RK) : D → List D → Sto → Option (D × Sto) := match m with
  | .endswith => gEndswith
  | .join => gJoin
  | .append => gAppend
  | .pop => gPop
  | .extend => gExtend
section
variable {X : Cx}
theorem m_endswith : MtR X "str.endswith" (rVM X.K gEndswith) := by
  intro pins s σ H x' xs' v us Q I rx rs ⟨ω, ρ, st, x, xs, z, st', sr, dx, ds, e, q⟩
  unfold gEndswith at e
  split at e
  · next a b =>
    cases e
    obtain rfl := dx.strI
    cases ds with
    | cons d1 t =>
      cases t
      obtain rfl := d1.strI
      exact mt_endswith pins s σ H _ _ v us Q I rx rs ⟨a, b, rfl, rfl, q _ H .refl sr (.bl _)⟩
  · cases e
theorem m_join : MtR X "str.join" (rVM X.K gJoin) := by
  intro pins s σ H x' xs' v us Q I rx rs ⟨ω, ρ, st, x, xs, z, st', sr, dx, ds, e, q⟩
  unfold gJoin at e
  split at e
  · next a y =>
    split at e
    · next ys eq =>
      split at e
      · next hl =>
        cases e
        obtain rfl := dx.strI
        obtain ⟨zs, e1, e2⟩ := Option.bind_eq_some_iff.mp eq
        cases ds with
        | cons d1 t =>
          cases t
          obtain ⟨p, vs, rfl, h1, h2⟩ := qview_ok sr d1 e1
          have h3 := texts_ok h2 e2
          subst h3
          exact mt_join pins s σ H _ _ v us Q I rx rs ⟨a, p, ys, rfl, rfl, h1, hl, q _ H .refl sr (.str _)⟩
      · cases e
    · cases e
  · cases e
theorem m_append : MtR X "list.append" (rVM X.K gAppend) := by
  intro pins s σ H x' xs' v us Q I rx rs ⟨ω, ρ, st, x, xs, z, st', sr, dx, ds, e, q⟩
  unfold gAppend at e
  split at e
  · next l y =>
    split at e
    · next ys eo =>
      split at e
      · next hc =>
        cases e
        cases dx with
        | @ref a _ h =>
          cases ds with
          | cons d1 t =>
            cases t
            cases sr.obj l _ a eo h with
            | lst ha r =>
              have hl := r.length
              obtain ⟨e1, s1⟩ := put_ok sr h eo (r.append (.cons d1 .nil)) fun n hn => by
                rcases Bool.or_eq_true_iff.mp hc.2 with w | w
                · exact .inl (of_decide_eq_true w)
                · refine .inr ?_
                  rw [bels_append, hn, Bool.true_and]
                  exact Bool.and_eq_true_iff.mpr ⟨D.bel_mono (Nat.zero_le n) _ w, rfl⟩
              exact mt_append pins s σ H _ _ v us Q I rx rs ⟨a, _, _, rfl, rfl, ha, by omega, q _ _ e1 s1 .non⟩
      · cases e
    · cases e
  · cases e
theorem RpL.dropLast {K : PySem.W.Frag} {ω ρ : List Addr} {H : Hp} {vs : List V} {ds : List D} (r : RpL K ω ρ H vs ds) : RpL K ω ρ H vs.dropLast ds.dropLast := by
  rw [List.dropLast_eq_take, List.dropLast_eq_take, r.length]
  exact r.take _
theorem bels_take {n : Nat} : ∀ {xs : List D} (k : Nat), D.bels n xs = true → D.bels n (xs.take k) = true
  | [], k, h => by rw [List.take_nil]; rfl
  | x :: r, 0, h => rfl
  | x :: r, k + 1, h => by
    obtain ⟨h1, h2⟩ := Bool.and_eq_true_iff.mp (show (D.bel n x && D.bels n r) = true from h)
    exact Bool.and_eq_true_iff.mpr ⟨h1, bels_take k h2⟩
theorem m_pop : MtR X "list.pop" (rVM X.K gPop) := by
  intro pins s σ H x' xs' v us Q I rx rs ⟨ω, ρ, st, x, xs, z, st', sr, dx, ds, e, q⟩
  unfold gPop at e
  split at e
  · next l =>
    split at e
    · next ys eo =>
      split at e
      · next y hy =>
        cases e
        cases dx with
        | @ref a _ h =>
          cases ds
          cases sr.obj l _ a eo h with
          | lst ha r =>
            obtain ⟨w, h1, h2⟩ := r.get hy
            obtain ⟨e1, s1⟩ := put_ok sr h eo r.dropLast fun n hn => .inr (by rw [List.dropLast_eq_take]; exact bels_take _ hn)
            exact mt_pop pins s σ H _ _ v us Q I rx rs ⟨a, _, w, rfl, rfl, ha, by rw [r.length]; exact h1, q _ _ e1 s1 (h2.ext e1)⟩
      · cases e
    · cases e
  · cases e
theorem m_extend : MtR X "list.extend" (rVM X.K gExtend) := by
  intro pins s σ H x' xs' v us Q I rx rs ⟨ω, ρ, st, x, xs, z, st', sr, dx, ds, e, q⟩
  unfold gExtend at e
  split at e
  · next l y =>
    split at e
    · next ys zs eo ez =>
      split at e
      · next hc =>
        cases e
        cases dx with
        | @ref a _ h =>
          cases ds with
          | cons d1 t =>
            cases t
            obtain ⟨b, ws, rfl, h1, h2⟩ := tview_ok sr d1 ez
            cases sr.obj l _ a eo h with
            | lst ha r =>
              have hl := r.length
              have hl2 := h2.length
              obtain ⟨e1, s1⟩ := put_ok sr h eo (r.append h2) fun n hn => by
                rcases Bool.or_eq_true_iff.mp hc.2 with w | w
                · exact .inl (of_decide_eq_true w)
                · refine .inr ?_
                  rw [bels_append, hn, Bool.true_and]
                  exact D.bels_mono (Nat.zero_le n) _ w
              exact mt_extend pins s σ H _ _ v us Q I rx rs ⟨a, b, _, _, rfl, rfl, ha, h1, by omega, q _ _ e1 s1 .non⟩
      · cases e
    · cases e
  · cases e
theorem m_ok (m : Mn) : MtOk X m.name m.mk m.g := by
  intro x st k e
  unfold Mn.mk at e
  split at e <;> first
    | cases e; done
    | (next h =>
        cases e
        refine ⟨h, ?_⟩
        first
          | exact ⟨_, F.plainAttrs_str, F.slot_str_endswith, F.type_str_endswith, m_endswith⟩
          | exact ⟨_, F.plainAttrs_str, F.slot_str_join, F.type_str_join, m_join⟩
          | exact ⟨_, F.plainAttrs_list, F.slot_list_append, F.type_list_append, m_append⟩
          | exact ⟨_, F.plainAttrs_list, F.slot_list_pop, F.type_list_pop, m_pop⟩
          | exact ⟨_, F.plainAttrs_list, F.slot_list_extend, F.type_list_extend, m_extend⟩)

/-! ### o[i] = v -/
def putIx (o i v : D) (st : Sto) : Option Sto := match o, i with
  | .ref l, .int k => match st.o[l]? with
    | some (.lst xs) => match ixN xs.length k with
      | some j => if okPut st l v = true then some (st.put l (.lst (xs.set j v))) else none
      | none => none
    | _ => none
  | _, _ => none
theorem bels_set {n : Nat} {v : D} : ∀ {xs : List D} (j : Nat), D.bels n xs = true → v.bel n = true → D.bels n (xs.set j v) = true
  | [], _, _, _ => rfl
  | x :: r, 0, h, hv => by
    obtain ⟨h1, h2⟩ := Bool.and_eq_true_iff.mp (show (D.bel n x && D.bels n r) = true from h)
    exact Bool.and_eq_true_iff.mpr ⟨hv, h2⟩
  | x :: r, j + 1, h, hv => by
    obtain ⟨h1, h2⟩ := Bool.and_eq_true_iff.mp (show (D.bel n x && D.bels n r) = true from h)
    exact Bool.and_eq_true_iff.mpr ⟨h1, bels_set j h2 hv⟩
def rPut (K : PySem.W.Frag) : V → V → V → Hp → (Hp → Prop) → Prop := fun o' i' v' H Q => ∃ ω ρ st o i v st', StoR K ω ρ H st ∧ Rp K ω ρ H o' o ∧ Rp K ω ρ H i' i ∧ Rp K ω ρ H v' v ∧ putIx o i v st = some st' ∧
  ∀ H', Ext ω ρ H ρ H' → StoR K ω ρ H' st' → Q H'
theorem p_put : PSet X (rPut X.K) := by
  intro pins s σ H o' i' v' ov iv u Q I ro ri rv ⟨ω, ρ, st, o, i, v, st', sr, d1, d2, d3, e, q⟩
  unfold putIx at e
  split at e
  · next l k =>
    split at e
    · next xs eo =>
      split at e
      · next j hj =>
        split at e
        · next hc =>
          cases e
          obtain rfl := d2.intI
          cases d1 with
          | @ref a _ h =>
            cases sr.obj l _ a eo h with
            | lst ha r =>
              obtain ⟨e1, s1⟩ := put_ok sr h eo (r.set d3 j) fun n hn => by
                rcases Bool.or_eq_true_iff.mp hc with w | w
                · exact .inl (of_decide_eq_true w)
                · exact .inr (bels_set j hn (D.bel_mono (Nat.zero_le n) _ w))
              exact set_list pins s σ H _ _ _ ov iv u Q I ro ri rv ⟨a, _, k, j, rfl, rfl, ha, by rw [r.length]; exact hj, q _ e1 s1⟩
        · cases e
      · cases e
    · cases e
  · cases e
def Ds.put (de do_ di : De D) : Ds := Ds.of de fun v => Ds.of do_ fun o => Ds.of di fun i sl st => (putIx o i v st).map fun st' => (.nx, sl, st')
theorem s_put {G : Gd} {W : WX} {pos tpos : Pos} {e o i : Expr} {de do_ di : De D} (he : PE X e (tD X.K G W de)) (ho : PE X o (tD X.K G W do_)) (hi : PE X i (tD X.K G W di))
    (ha : ∀ v, assign (.Subscript o i tpos) X.env v = (do
      let ov ← holding [v] (eval o X.env)
      let iv ← holding [v, ov] (eval i X.env)
      standAt tpos
      holding [v, ov, iv] (setItem ov iv v)
      release [v, ov, iv] []))
    (hs : swapsWithSole [.Subscript o i tpos] e pos.line X.env = pure false) (hw : swappedStores [.Subscript o i tpos] e X.env = pure none)
    (h1 : (assignEach [.Subscript o i tpos] X.env).map (·.2) = [assign (.Subscript o i tpos) X.env]) : PS X (.Assign [.Subscript o i tpos] e pos) (tS X.K G W (Ds.put de do_ di)) :=
  PS.imp (ps_asg he (pg_sub ho hi p_put ha) hs hw h1) fun D σ H h => by
    obtain ⟨ω, ρ, sl, st, a, h⟩ := h
    refine tG.mono (splitS a h) fun v' H1 ⟨v, ρ1, st1, E1, e1, a1, r1, h1⟩ => ?_
    refine tG.mono (splitS a1 h1) fun o' H2 ⟨o, ρ2, st2, E2, e2, a2, r2, h2⟩ => ?_
    refine tG.mono (splitS a2 h2) fun i' H3 ⟨i, ρ3, st3, E3, e3, a3, r3, h3⟩ => ?_
    cases ep : putIx o i v st3 with
    | none => simp only [ep] at h3; exact h3.elim
    | some st4 =>
      simp only [ep] at h3
      exact ⟨ω, ρ3, st3, o, i, v, st4, a3.sto, Rp.ext e3 r2, r3, Rp.ext (e2.trans e3) r1, ep, fun H4 e4 s4 => h3 σ H4 ρ3 e4 ⟨s4, a3.slo.ext e4⟩⟩
end

/-! ### isinstance -/
inductive TN where
  | non | bl | int | str | tup | lst | dic
  deriving DecidableEq
def TN.name : TN → String
  | .non => "NoneType"
  | .bl => "bool"
  | .int => "int"
  | .str => "str"
  | .tup => "tuple"
  | .lst => "list"
  | .dic => "dict"
def TN.isa (a b : TN) : Bool := a == b || (a == .bl && b == .int)
theorem TN.kit (a b : TN) : kitB a.name b.name = some (a.isa b) := by
  cases a <;> cases b <;> decide +kernel
def tyOf (d : D) (st : Sto) : Option TN := match d with
  | .non => some .non
  | .bl _ => some .bl
  | .int _ => some .int
  | .str _ => some .str
  | .tup _ => some .tup
  | .lst _ => some .lst
  | .scr _ => some .lst
  | .dic _ _ => some .dic
  | .ref l => match st.o[l]? with
    | some (.lst _) => some .lst
    | some (.dic _ _) => some .dic
    | _ => none
  | _ => none
theorem tyOf_ok {K : PySem.W.Frag} {ω ρ : List Addr} {H : Hp} {st : Sto} (s : StoR K ω ρ H st) {v : V} {d : D} {t : TN} (r : Rp K ω ρ H v d) (e : tyOf d st = some t) : TyX K H v (.type t.name) := by
  cases r with
  | non => cases e; exact .base .non
  | bl b => cases e; exact .base (.bl b)
  | int i => cases e; exact .base (.int i)
  | str x => cases e; exact .base (.str x)
  | tup h _ _ _ =>
    cases e
    rcases h with h | ⟨o, h⟩
    · exact .base (.tup h)
    · exact .fTuple h
  | tupK h _ =>
    cases e
    rcases h H with (h | ⟨o, h⟩) | ⟨o, its, n, h, hc, _⟩
    · exact .base (.tup h)
    · exact .fTuple h
    · exact .kTuple h hc
  | lst h _ _ _ => cases e; exact .base (.lst h)
  | scr h _ _ _ => cases e; exact .base (.frz h)
  | dic h _ _ _ _ => cases e; exact .base (.dK h)
  | scrK h _ =>
    cases e
    rcases h H with (h | ⟨o, h⟩) | ⟨o, its, n, h, hc, _⟩
    · exact .base (.lst h)
    · exact .base (.frz h)
    · exact .kList h hc
  | @ref a l h =>
    have e' : (match st.o[l]? with
      | some (.lst _) => some TN.lst
      | some (.dic _ _) => some TN.dic
      | _ => none) = some t := e
    cases q : st.o[l]? with
    | none => rw [q] at e'; cases e'
    | some o =>
      rw [q] at e'
      cases o with
      | lst xs =>
        cases e'
        cases s.obj l _ a q h with
        | lst h1 _ => exact .base (.lst h1)
      | dic ks xs =>
        cases e'
        cases s.obj l _ a q h with
        | dic h1 _ _ => exact .base (.dK h1)
      | _ => cases e'
def fIsi (t : TN) (x : D) (st : Sto) : Option D := (tyOf x st).map fun a => .bl (a.isa t)
def fIsi2 (t u : TN) (x : D) (st : Sto) : Option D := (tyOf x st).map fun a => .bl (a.isa t || a.isa u)
section
variable {X : Cx} {G : Gd} {W : WX} {pos p tp : Pos} {e : Expr} {T U : Str}
/-- isinstance(e, T) -/
theorem d_isi {d : De D} {t : TN} (he : PE X e (tD X.K G W d)) (hT : PE X (.Name T tp) (tC (.ty t.name))) (hg : Gl X "isinstance") (hm : X.mg "isinstance" = none) (hs : starEach [e, .Name T tp] X.env = (false, eval e X.env) :: starEach [.Name T tp] X.env) :
    PE X (.Call (.Name "isinstance" p) [e, .Name T tp] [] pos) (tD X.K G W (d.bnd fun x => De.of (fIsi t x))) :=
  PE.imp (pe_callB call_isi hg hm PyProof.Rows.boot_isinstance (pa_cons he (pa_cons hT pa_nil rfl) hs) (by decide) (by decide) hs rfl) fun σ H Q h => by
    obtain ⟨ω, ρ, sl, st, a, h⟩ := h
    refine tG.mono (split a h) fun x' H1 ⟨x, ρ1, st1, E1, e1, a1, r1, h1⟩ => ?_
    obtain ⟨z, ez, q⟩ := h1.of
    obtain ⟨k, ek, rfl⟩ := Option.map_eq_some_iff.mp ez
    exact ⟨x', _, _, _, k.isa t, rfl, .ty _, tyOf_ok a1.sto r1 ek, kit_ty (TN.kit k t), q _ H1 ρ1 .refl a1.sto (.bl _)⟩
/-- isinstance(e, (T, U)) -/
theorem d_isi2 {d : De D} {t u : TN} {up tpp : Pos} {kk : Nat} (he : PE X e (tD X.K G W d)) (hT : PE X (.Name T tp) (tC (.ty t.name))) (hU : PE X (.Name U up) (tC (.ty u.name))) (hg : Gl X "isinstance") (hm : X.mg "isinstance" = none)
    (hs : starEach [e, .Tuple [.Name T tp, .Name U up] kk tpp] X.env = (false, eval e X.env) :: starEach [.Tuple [.Name T tp, .Name U up] kk tpp] X.env) :
    PE X (.Call (.Name "isinstance" p) [e, .Tuple [.Name T tp, .Name U up] kk tpp] [] pos) (tD X.K G W (d.bnd fun x => De.of (fIsi2 t u x))) :=
  PE.imp (pe_callB call_isiT hg hm PyProof.Rows.boot_isinstance (pa_cons he (pa_cons (pe_tup (pa_cons hT (pa_cons hU pa_nil rfl) rfl)) pa_nil rfl) hs) (by decide) (by decide) hs rfl) fun σ H Q h => by
    obtain ⟨ω, ρ, sl, st, a, h⟩ := h
    refine tG.mono (split a h) fun x' H1 ⟨x, ρ1, st1, E1, e1, a1, r1, h1⟩ => ?_
    obtain ⟨z, ez, q⟩ := h1.of
    obtain ⟨k, ek, rfl⟩ := Option.map_eq_some_iff.mp ez
    refine ⟨by show 2 ≤ sizeLine; decide, fun P hP => ?_⟩
    have e2 : Ext ω ρ1 H1 ρ1 (upd H1 P (.tup [.ty t.name, .ty u.name])) := Ext.new hP a1.sto.tr
    have s2 : StoR X.K ω ρ1 (upd H1 P (.tup [.ty t.name, .ty u.name])) st1 := a1.sto.new hP
    refine ⟨x', P, _, _, [.type t.name, .type u.name], k.isa t || k.isa u, rfl, upd_same, .cons (.ty _) (.cons (.ty _) .nil), tyOf_ok s2 (Rp.ext e2 r1) ek, ?_, q _ _ ρ1 e2 s2 (.bl _)⟩
    refine kitAny_cons (kit_ty (TN.kit k t)) (fun hb => ?_) fun hb => by rw [hb]; rfl
    rw [hb, Bool.false_or]
    refine kitAny_cons (kit_ty (TN.kit k u)) (fun hb2 => ?_) fun hb2 => hb2
    rw [hb2]
    exact kitAny_nil
end
end Hb

set_option Elab.async false
set_option linter.all false
set_option maxRecDepth 100000
set_option maxHeartbeats 1000000
/-! Part I: how plain parameters are bound; exceptions of own classes that bear one field: raised, caught. -/
namespace Hb
open PySem PySem.Spec L2
theorem lookup_zip : ∀ {ps : List Str} {us : List Value} {n : Str}, us.length = ps.length → n ∈ ps → ((ps.zip us).lookup n).isNone = false
  | [], _, _, _, h => by cases h
  | p :: ps, [], _, hl, _ => by simp at hl
  | p :: ps, u :: us, n, hl, h => by
    rw [List.zip_cons_cons, List.lookup_cons]
    by_cases e : n == p
    · rw [e]; rfl
    · have e' : (n == p) = false := by simpa using e
      rw [e']
      refine lookup_zip (by simpa using hl) ?_
      rcases List.mem_cons.mp h with z | z
      · subst z; simp at e
      · exact z
theorem zip_binds : ∀ {ps : List Str} {us : List Value} {l : List (Str × Value)}, us.length = ps.length → ps.Nodup → (∀ n ∈ ps, l.lookup n = (ps.zip us).lookup n) → ps.filterMap (fun n => (l.lookup n).map fun v => (n, v)) = ps.zip us
  | [], _, _, _, _, _ => rfl
  | p :: ps, [], _, hl, _, _ => by simp at hl
  | p :: ps, u :: us, l, hl, hn, h => by
    have h0 : l.lookup p = some u := by
      rw [h p List.mem_cons_self, List.zip_cons_cons, List.lookup_cons]
      simp
    rw [List.filterMap_cons, h0]
    show (p, u) :: _ = _
    rw [List.zip_cons_cons]
    refine congrArg _ (zip_binds (by simpa using hl) (List.nodup_cons.mp hn).2 fun n hm => ?_)
    rw [h n (List.mem_cons_of_mem _ hm), List.zip_cons_cons, List.lookup_cons]
    have : (n == p) = false := by
      by_cases e : n = p
      · subst e; exact absurd hm (List.nodup_cons.mp hn).1
      · simpa using e
    rw [this]
theorem bind_plain {x qual : Str} {params : Arguments} {body : List Stmt} {scope : Scope} {ps : List Str} (h1 : params.posonlyargs = []) (h2 : params.args.map (·.arg) = ps) (h3 : params.vararg = none) (h4 : params.kwonlyargs = []) (h5 : params.kwarg = none) (hn : ps.Nodup)
    (kV doc pm : Value) (an : Option Addr) (cdv ct : Value) (us : List Value) (hl : us.length = ps.length) : bindArgs (PySem.W.fnOf x qual params body scope .none kV doc pm an cdv ct) ⟨us, []⟩ = pure (ps.zip us) := by
  have nm : ∀ k, (ps.take k).filter (fun n => ((ps.zip us).lookup n).isNone) = [] := fun k => by
    rw [List.filter_eq_nil_iff]
    intro n hn
    rw [lookup_zip hl (List.mem_of_mem_take hn)]
    exact Bool.false_ne_true
  unfold bindArgs PySem.W.fnOf
  simp only [h1, h2, h3, h4, h5]
  simp [seqItems?, hl]
  split
  · next h =>
    have h' : (!(List.filter (fun n => ((ps.zip us).lookup n).isNone) (List.take _ ps)).isEmpty) = true := h
    rw [nm] at h'
    cases h'
  · show (pure _ : Sem _) = _
    rw [zip_binds hl hn fun _ _ => rfl]

/-! ### X.__init__(self, at): self.at = at -/
/-- what such a def does -/
def spX (K : PySem.W.Frag) (fl : Str) : Sp := fun vs H Q _ => ∃ (a C : Addr) (v : V), vs = [.ref a, v] ∧ OexC K C ∧ PySem.W.findIn K (.ref C) fl = some none ∧ H a = some (exo a C none) ∧
  ∀ dx, H dx = none → dx ≠ a → Q .non (upd (upd H dx (exd dx [(fl, v)])) a (exo a C (some dx)))
section
variable {P : Program} {w : World} {K : PySem.W.Frag} {mg : Str → Option Value} {base : Heap}
theorem ok_xinit {x qual : Str} {params : Arguments} {scope : Scope} {f : Addr} {fd : FuncData} {p0 p1 fl : Str} {q1 q2 q3 q4 : Pos} (F : FunD K x qual params [.Assign [.Attribute (.Name p0 q1) fl q2] (.Name p1 q3) q4] scope [] [] f fd) (S : FnScope [p0, p1] [p0, p1] scope)
    (n0 : (p0 == ("__debug__" : Str)) = false ∧ (p0 == ("__classdict__" : Str)) = false) (n1 : (p1 == ("__debug__" : Str)) = false ∧ (p1 == ("__classdict__" : Str)) = false) :
    FnOk P w K mg base CX0 1 f fd [p0, p1] (spX K fl) := by
  refine F.ok S (fun vs H Q E h => ?_) (fun cdv A outer s H vs Q E hr h => ?_)
  · obtain ⟨_, _, _, rfl, _⟩ := h
    rfl
  · have v0 : Vis scope p0 := (S.par p0 (by simp)).imp id .inl
    have v1 : Vis scope p1 := (S.par p1 (by simp)).imp id .inl
    refine ⟨_, pss_one (ps_ost (pe_var (i := 0) rfl v0 n0.1 n0.2) (pe_var (i := 1) rfl v1 n1.1 n1.2)), ?_⟩
    obtain ⟨a, C, v, rfl, hO, hno, ha, q⟩ := h
    exact ⟨v, rfl, .ref a, rfl, a, C, rfl, hO, hno, .inl ⟨ha, fun dx h1 h2 => q dx h1 h2⟩⟩
end
/-- a class of exceptions whose instances bear one field, as the top left it -/
structure XcC (P : Program) (w : World) (K : PySem.W.Frag) (mg : Str → Option Value) (base : Heap) (x : Str) (C : Addr) (fl : Str) : Prop where
  gC : mg x = some (.ref C)
  oex : OexC K C
  noF : PySem.W.findIn K (.ref C) fl = some none
  ini : ∃ fI, PySem.W.findIn K (.ref C) "__init__" = some (some (.ref fI)) ∧ PySem.W.typeIn K (.ref fI) = some (.type "function") ∧ ∃ (fd : FuncData) (ps : List Str), FnOk P w K mg base CX0 1 fI fd ps (spX K fl) ∧ Binds K fd ps []
  xf : XfC K C
section
variable {X : Cx} {G : Gd} {W : WX} {pos p : Pos} {x : Str} {e : Expr}
theorem upd_del {H : Hp} {a d : Addr} {o u v : HO} (ha : H a = none) (hd : H d = none) (ne : d ≠ a) : upd (del (upd (upd H d o) a u) a) d v = upd H d v := by
  funext b
  by_cases h1 : b = d
  · subst h1; rw [upd_same, upd_same]
  · rw [upd_ne h1, upd_ne h1]
    by_cases h2 : b = a
    · subst h2; rw [del_same]; exact ha.symm
    · rw [del_ne h2, upd_ne h2, upd_ne h1]
/-- raise X(e) -/
theorem s_raiseX {pos2 : Pos} {c : Nat} {d : De D} (hc : X.calm = true) (tk : Takes X W) (T : XcC X.prog X.w X.K X.mg X.base x (G.cad c) (G.cfl c)) (hr : Room 2 X.A) (hg : Gl X x) (he : PE X e (tD X.K G W d)) (hs : starEach [e] X.env = (false, eval e X.env) :: starEach [] X.env) (hdb : (x == ("__debug__" : Str)) = false) :
    PS X (.Raise (some (.Call (.Name x p) [e] [] pos)) none pos2) (tS X.K G W (Ds.of d fun x sl st => some (.ex c x, sl, st))) := by
  obtain ⟨fI, i1, i2, fd, ps, F, B⟩ := T.ini
  refine s_raise hc tk (pmk_oex (k := 1) T.oex i1 i2 F hr B .nil pass0 hg T.gC (pa_cons he pa_nil hs) hdb hs rfl) fun σ H Q h => ?_
  refine tG.mono h fun v H1 q => ?_
  refine ⟨by show 1 ≤ 1000; decide, fun a ha => ?_⟩
  refine ⟨a, G.cad c, v, rfl, T.oex, T.noF, upd_same, fun dx hdx ne => ?_⟩
  have hdx' : H1 dx = none := by rw [upd_ne ne] at hdx; exact hdx
  refine ⟨rfl, dx, _, upd_same, by rw [upd_ne ne, upd_same], hdx', ?_⟩
  have e1 : upd (del (upd (upd (upd H1 a (exo a (G.cad c) none)) dx (exd dx [(G.cfl c, v)])) a (exo a (G.cad c) (some dx))) a) dx (.xd [(G.cfl c, v)]) = upd H1 dx (.xd [(G.cfl c, v)]) := by
    funext b
    by_cases h1 : b = dx
    · subst h1; rw [upd_same, upd_same]
    · rw [upd_ne h1, upd_ne h1]
      by_cases h2 : b = a
      · subst h2; rw [del_same]; exact ha.symm
      · rw [del_ne h2, upd_ne h2, upd_ne h1, upd_ne h2]
  rw [e1]
  exact q dx hdx'
end
end Hb

set_option Elab.async false
set_option linter.all false
set_option maxRecDepth 100000
set_option maxHeartbeats 1000000
/-! Part J: try with several clauses, named or not. -/
namespace Hb
open PySem PySem.Spec PyProof.Rows L2
/-- a clause's class, the slot of its name, what its suite does -/
abbrev Hc := Value × Option Nat × (Addr → Value → Option Addr → TS)
/-- behind a named clause the name is gone -/
def gone (i : Nat) (D : Ends) : Ends := { nx := fun σ' H' => D.nx (σ'.set i none) H', rt := D.rt, bk := fun σ' H' => D.bk (σ'.set i none) H', ct := fun σ' H' => D.ct (σ'.set i none) H' }
def wHs (K : PySem.W.Frag) (Wout : WX) (D : Ends) : List Hc → WX
  | [] => Wout
  | (c, none, ts) :: r => fun cls d σ H => ∃ b, PySem.W.exmOne K cls c = some b ∧ (b = true → ∀ a, H a = none → ts a cls d D σ H) ∧ (b = false → wHs K Wout D r cls d σ H)
  | (c, some i, ts) :: r => fun cls d σ H => ∃ b, PySem.W.exmOne K cls c = some b ∧ (b = true → ∀ a, H a = none → ts a cls d (gone i D) (σ.set i (some (.ref a))) H) ∧ (b = false → wHs K Wout D r cls d σ H)
abbrev SuiteOk (X : Cx) (b : List Stmt) (ts : Addr → Value → Option Addr → TS) : Prop := ∀ (a : Addr) (oe : Obj) (cls : Value) (d : Option Addr) (pn : List (Addr × Obj)), Zc cls d oe → (∃ vs, oe.data = .fields vs) → PSs (X.suite a ((a, oe) :: pn)) b (ts a cls d)
inductive HsOk (X : Cx) : List ExceptHandler → List Hc → Prop
  | nil : HsOk X [] []
  | plain {x : Str} {c : Value} {ts : Addr → Value → Option Addr → TS} {b₀ : Stmt} {bs : List Stmt} {np pp : Pos} {hs : List ExceptHandler} {l : List Hc} (hc : Names X x c) (hsu : SuiteOk X (b₀ :: bs) ts) (r : HsOk X hs l) :
      HsOk X (.ExceptHandler (some (.Name x np)) none (b₀ :: bs) pp :: hs) ((c, none, ts) :: l)
  | named {x n : Str} {c : Value} {i : Nat} {ts : Addr → Value → Option Addr → TS} {b₀ : Stmt} {bs : List Stmt} {np pp : Pos} {hs : List ExceptHandler} {l : List Hc} (hi : X.N[i]? = some n) (hn : X.env.kindOf n = some .local) (hc : Names X x c) (hsu : SuiteOk X (b₀ :: bs) ts) (r : HsOk X hs l) :
      HsOk X (.ExceptHandler (some (.Name x np)) (some n) (b₀ :: bs) pp :: hs) ((c, some i, ts) :: l)
section
variable {X : Cx} {body : List Stmt} {h₀ : ExceptHandler} {hds : List ExceptHandler} {l : List Hc} {pos : Pos} {tb : WX → TS} {Wout : WX}
/-- an exception that is in the air, noted, on the ground: the clauses look at it one after the other -/
theorem look_at {pins : List (Addr × Obj)} {D : Ends} {σ0 : L2.St} {H0 : Hp} {B : Heap} {sI s0 : Shared} {a : Addr} {cls : Value} {d : Option Addr} {h3 : Heap} (hs : X.stack = X.env :: X.outer) (hf : X.env.frame = some X.env.locals) (hN : X.N.Nodup) (tk : Takes X Wout) (J : Inv X pins σ0 H0 sI)
    (nb : ∀ b o, sI.heap.get? b = some o → b ∉ frs X.stack → B.get? b = some o) (up : sI.heap.UpToSlots h3) (fl3 : HandSPX.FlyingZ B (X.env :: X.outer) a (Zc cls d) h3) (na : H0 a = none) (os : s0.os = sI.os) (ag : AllBare s0.gens) :
    ∀ {hs' : List ExceptHandler} {l' : List Hc}, HsOk X hs' l' → wHs X.K Wout D l' cls d σ0 H0 → wpAny (model X.prog X.w) X.A (handleBy (.ref a) X.env hs') (SP X pins D) X.xe { s0 with heap := h3 } := by
  have okX := J.ok
  have J3 : Inv X pins σ0 H0 { s0 with heap := h3 } := J.landed nb fl3.1 up os ag
  obtain ⟨oe3, vs3, he3, hz3, hd3⟩ := fl3.there
  have offFr : a ∉ frs (X.env :: X.outer) := fun hm => by
    obtain ⟨_, o', e', hnf⟩ := fl3.2.2.1.mem hm
    rw [he3] at e'; cases e'
    exact hnf _ hd3
  have nL : a ≠ X.env.locals := fun z => offFr (List.mem_filterMap.mpr ⟨X.env, List.mem_cons_self, by rw [hf, z]⟩)
  have nF : a ∉ X.fs := fun hm => by
    obtain ⟨ev, hev, q⟩ := List.mem_filterMap.mp hm
    exact offFr (List.mem_filterMap.mpr ⟨ev, List.mem_cons_of_mem _ hev, q⟩)
  have S3 := J3.suite he3 hd3 na nL nF
  -- the class that a clause names is read
  have named : ∀ {x : Str} {c : Value} {np : Pos} {Q : Value → Shared → Prop} {E : Value → Shared → Prop}, Names X x c → Q c { s0 with heap := h3 } → wpAny (model X.prog X.w) (X.A.mark (some (.ref a))) (eval (.Name x np) X.env) Q E { s0 with heap := h3 } := fun {x c np Q E} hc q => by
    obtain ⟨g1, g2, g3 | ⟨g3, g4, g5⟩⟩ := hc
    · exact ld_glob (X := X.suite a ((a, oe3) :: (X.pn ++ pins))) S3 g1 g3 q g2
    · exact ld_blt (X := X.suite a ((a, oe3) :: (X.pn ++ pins))) S3 g1 g3 g4 q g5 g2
  have asked : ∀ {c : Value} {b : Bool}, PySem.W.exmOne X.K cls c = some b → PySem.W.Looks (model X.prog X.w) h3 _ _ := fun {c b} hb =>
    PySem.W.exm_one (M := model X.prog X.w) J3.kIn (fun A Q E s k q => wpAny_typeOf_ref (k _ _ he3) (by rw [hz3.1]; exact q)) hb
  -- behind a suite
  have back : ∀ {f : Flow} {s6 : Shared} {oe : Obj}, SP (X.suite a ((a, oe) :: (X.pn ++ pins))) [] D f s6 → SP X pins D f s6 := fun {f s6 oe} hsp => by
    cases f with
    | ret u => obtain ⟨v6, σ6, H6, S6, r6, q6⟩ := hsp; exact ⟨v6, σ6, H6, S6.unsuite okX, r6, q6⟩
    | next => obtain ⟨σ6, H6, S6, q6⟩ := hsp; exact ⟨σ6, H6, S6.unsuite okX, q6⟩
    | brk => obtain ⟨σ6, H6, S6, q6⟩ := hsp; exact ⟨σ6, H6, S6.unsuite okX, q6⟩
    | cont => obtain ⟨σ6, H6, S6, q6⟩ := hsp; exact ⟨σ6, H6, S6.unsuite okX, q6⟩
  intro hs' l' hk
  induction hk with
  | nil =>
    intro wish
    refine wpAny_handleBy_nil ?_
    obtain ⟨_, _, _, oe, vs, T, oT, ts', he, hz, hd, h1, hr⟩ := id fl3
    unfold PySem.passOn
    refine wpAny_bind (wpAny_field he hd h1 ?_)
    rw [if_neg (show ¬ ((Value.ref T == Value.none) = true) from by simp)]
    have out : wpAny (model X.prog X.w) X.A (setFlight (.ref a) X.env.frame) (fun _ s4 => wpAny (model X.prog X.w) X.A (throw (.ref a) : Sem Flow) (SP X pins D) X.xe s4) X.xe { s0 with heap := h3 } := by
      rw [hf]
      exact HandSPX.setFlight_upZ fl3 fun h4 hh4 up4 => wpAny_throw (tk _ _ ⟨a, B, sI, pins, σ0, H0, cls, d, rfl, J, nb, up.trans up4, .inr (.inr (by rw [hs]; exact hh4)), na, os, ag, wish⟩)
    first | exact wpAny_bind (wpAny_pure (wpAny_bind out)) | exact wpAny_bind out
  | plain hc hsu r ih =>
    rintro ⟨b, hb, yes, no⟩
    refine wpAny_handleBy_cons (codeAny_handlers_test ?_) (by intro q; cases q)
    refine named hc ((asked hb).here ?_)
    cases b with
    | false => exact ih (no rfl)
    | true =>
      refine codeAny_handlers_suite (HandSPX.lands_againZ fl3 fun h4 fl4 up4 => ?_)
      have J4 : Inv X pins σ0 H0 { s0 with heap := h4 } := J.landed nb fl4.1 (up.trans up4) os ag
      obtain ⟨oe4, vs4, he4, hz4, hd4⟩ := fl4.there
      exact wpAny_mono ((hsu a oe4 cls d (X.pn ++ pins) hz4 ⟨_, hd4⟩).run [] _ _ H0 _ (J4.suite he4 hd4 na nL nF) (yes rfl a na)) (fun f s6 hsp => back hsp) fun _ _ z => z.elim
  | @named x n c i ts b₀ bs np pp hs2 l2 hi hn hc hsu r ih =>
    rintro ⟨b, hb, yes, no⟩
    refine wpAny_handleBy_cons (codeAny_handlers_test ?_) (by intro q; cases q)
    refine named hc ((asked hb).here ?_)
    cases b with
    | false => exact ih (no rfl)
    | true =>
      refine codeAny_handlers_suite_as (HandSPX.lands_againZ fl3 fun h4 fl4 up4 => ?_)
      have J4 : Inv X pins σ0 H0 { s0 with heap := h4 } := J.landed nb fl4.1 (up.trans up4) os ag
      obtain ⟨oe4, vs4, he4, hz4, hd4⟩ := fl4.there
      refine store_ok (X := X.suite a ((a, oe4) :: (X.pn ++ pins))) (v := .ref a) (J4.suite he4 hd4 na nL nF) hN hi (.inl hn) rfl (fun s5 S5 => ?_) (.inr hn)
      refine wpAny_mono ((hsu a oe4 cls d (X.pn ++ pins) hz4 ⟨_, hd4⟩).run [] s5 _ H0 _ S5 (yes rfl a na)) (fun f s6 hsp => ?_) fun _ _ z => z.elim
      have unnamed : ∀ {σ6 : L2.St} {H6 : Hp} {Q : Shared → Prop}, Inv (X.suite a ((a, oe4) :: (X.pn ++ pins))) [] σ6 H6 s6 → (∀ s7, Inv X pins (σ6.set i none) H6 s7 → Q s7) →
          wpAny (model X.prog X.w) X.A (do bindName X.env n .none; unbindBehindTheSuite X.env n pp) (fun _ s7 => Q s7) X.xe s6 := fun {σ6 H6 Q} S6 hq => gone_ok (S6.unsuite okX) hN hi hn hq
      cases f with
      | ret u => obtain ⟨v6, σ6, H6, S6, r6, q6⟩ := hsp; exact unnamed S6 fun s7 J7 => ⟨_, _, _, J7, r6, q6⟩
      | next => obtain ⟨σ6, H6, S6, q6⟩ := hsp; exact unnamed S6 fun s7 J7 => ⟨_, _, J7, q6⟩
      | brk => obtain ⟨σ6, H6, S6, q6⟩ := hsp; exact unnamed S6 fun s7 J7 => ⟨_, _, J7, q6⟩
      | cont => obtain ⟨σ6, H6, S6, q6⟩ := hsp; exact unnamed S6 fun s7 J7 => ⟨_, _, J7, q6⟩
theorem try_mix (hs : X.stack = X.env :: X.outer) (hf : X.env.frame = some X.env.locals) (hN : X.N.Nodup) (tk : Takes X Wout)
    (hb : ∀ (W : WX) (pn : List (Addr × Obj)) (xe : Value → Shared → Prop), Takes (X.tr pn xe) W → PassesOwn (model X.prog X.w) X.A X.env xe → PSs (X.tr pn xe) body (tb W))
    (hh : HsOk X (h₀ :: hds) l) : PS X (.Try body (h₀ :: hds) [] [] pos) (fun D σ H => tb (wHs X.K Wout D l) D σ H) := by
  refine ⟨fun pins s σ H D I h => wpAny_Try_except ?_⟩
  refine wpAny_mono ((hb (wHs X.K Wout D l) (X.pn ++ pins) (fun e s₁ => wpAny (model X.prog X.w) X.A (noteFrame e X.env) (fun _ s₂ => wpAny (model X.prog X.w) X.A (setFlight e none) (fun _ s₃ => wpAny (model X.prog X.w) X.A (handleBy e X.env (h₀ :: hds)) (SP X pins D) X.xe s₃) X.xe s₂) X.xe s₁) (fun u s0 xx => ?_) PassesOwn.looking).run [] s σ H D (I.toTry _) h) (fun f s1 hsp => ?_) fun _ _ he => he
  · obtain ⟨a, B, sI, pins0, σ0, H0, cls, d, rfl, J0, nb, up, sky, na, os, ag, wish⟩ := xx
    have sky' : Sky B (X.env :: X.outer) a (Zc cls d) X.env.locals s0.heap := by rw [← hs]; exact sky
    exact Sky.land Zc.steady (by rw [I.ok.frames, hs]) hf sky' fun h3 fl3 up3 => look_at hs hf hN tk (J0.ofTry I.ok) nb (up.trans up3) fl3 na os ag hh wish
  · cases f with
    | ret u => obtain ⟨v, σ1, H1, J1, r, q⟩ := hsp; exact ⟨v, σ1, H1, J1.ofTry I.ok, r, q⟩
    | next => obtain ⟨σ1, H1, J1, q⟩ := hsp; exact wpAny_execs_nil ⟨σ1, H1, J1.ofTry I.ok, q⟩
    | brk => obtain ⟨σ1, H1, J1, q⟩ := hsp; exact ⟨σ1, H1, J1.ofTry I.ok, q⟩
    | cont => obtain ⟨σ1, H1, J1, q⟩ := hsp; exact ⟨σ1, H1, J1.ofTry I.ok, q⟩
end
end Hb

set_option Elab.async false
set_option linter.all false
set_option maxRecDepth 100000
set_option maxHeartbeats 1000000
/-! Part K: what the clauses of a try do to data. -/
namespace Hb
open PySem PySem.Spec L2
/-- a part of what a clause stores: a constant, a field of the error -/
inductive Pt where
  | c (d : D) | f (fl : Str)
/-- a clause: its class, the slot of its name, the slot that it stores, one part or a tuple of parts -/
structure Hd where
  c : Nat
  nm : Option Nat
  t : Nat
  one : Bool
  ps : List Pt
def scV : D → Option V
  | .non => some .non
  | .bl b => some (.bl b)
  | .int i => some (.int i)
  | .str x => some (.str x)
  | _ => none
theorem scV_ok {K : PySem.W.Frag} {d : D} {v : V} (h : scV d = some v) {ω ρ : List Addr} {H : Hp} : Rp K ω ρ H v d := by
  cases d <;> cases h <;> first | exact .non | exact .bl _ | exact .int _ | exact .str _
def Pt.val (fl : Str) (x : D) : Pt → Option D
  | .c d => some d
  | .f g => if g = fl then some x else none
def Pt.vals (fl : Str) (x : D) : List Pt → Option (List D)
  | [] => some []
  | p :: r => match p.val fl x, Pt.vals fl x r with
    | some d, some ds => some (d :: ds)
    | _, _ => none
/-- what a clause stores -/
def Hd.val (h : Hd) (fl : Str) (x : D) : Option D := match Pt.vals fl x h.ps with
  | some ds => if h.one then (match ds with
    | [d] => some d
    | _ => none) else some (.tup ds)
  | none => none
def Hd.sl (h : Hd) (v : D) (sl : Sl) : Sl := match h.nm with
  | none => sl.set h.t (some v)
  | some i => ((sl.set i none).set h.t (some v)).set i none
def Hd.okL (h : Hd) (sl : Sl) : Bool := match h.nm with
  | none => true
  | some i => decide (i < sl.length)
/-- which clause -/
def pick (sub : Nat → Nat → Bool) (c : Nat) : List Hd → Option Hd
  | [] => none
  | h :: r => if sub c h.c then some h else pick sub c r
def Ds.try_ (sub : Nat → Nat → Bool) (cfl : Nat → Str) (db : Ds) (hs : List Hd) : Ds := fun sl st => match db sl st with
  | some (.ex c x, sl1, st1) => match pick sub c hs with
    | none => some (.ex c x, sl1, st1)
    | some h => if h.okL sl1 then (h.val (cfl c) x).map fun v => (.nx, h.sl v sl1, st1) else none
  | r => r
theorem Pt.vals_len {fl : Str} {x : D} : ∀ {ps : List Pt} {ds : List D}, Pt.vals fl x ps = some ds → ds.length = ps.length
  | [], ds, h => by cases h; rfl
  | p :: r, ds, e3 => by
    have e4 : (match p.val fl x, Pt.vals fl x r with
      | some d, some ds => some (d :: ds)
      | _, _ => none) = some ds := e3
    cases h1 : p.val fl x with
    | none => rw [h1] at e4; cases e4
    | some d =>
      cases h2 : Pt.vals fl x r with
      | none => rw [h1, h2] at e4; cases e4
      | some ds2 =>
        rw [h1, h2] at e4
        cases e4
        simp [Pt.vals_len h2]
theorem Pt.vals_fld {fl g : Str} {x : D} : ∀ {ps : List Pt} {ds : List D}, Pt.vals fl x ps = some ds → Pt.f g ∈ ps → g = fl
  | [], ds, _, h => by cases h
  | p :: r, ds, e3, h => by
    have e4 : (match p.val fl x, Pt.vals fl x r with
      | some d, some ds => some (d :: ds)
      | _, _ => none) = some ds := e3
    cases h1 : p.val fl x with
    | none => rw [h1] at e4; cases e4
    | some d =>
      cases h2 : Pt.vals fl x r with
      | none => rw [h1, h2] at e4; cases e4
      | some ds2 =>
        rcases List.mem_cons.mp h with z | z
        · subst z
          have h3 : (if g = fl then some x else none) = some d := h1
          split at h3
          · assumption
          · cases h3
        · exact Pt.vals_fld h2 z
section
/-- the reading of a clause's suite -/
def tPt (a : Addr) (cls : Value) (d : Option Addr) (C : Addr) (i : Nat) : Pt → TE
  | .c x => fun σ H Q => ∃ v, scV x = some v ∧ Q v H
  | .f fl => tXf a cls d C fl (tVar i)
def tPts (a : Addr) (cls : Value) (d : Option Addr) (C : Addr) (i : Nat) : List Pt → TA
  | [] => tNil
  | p :: r => tCons (tPt a cls d C i p) (tPts a cls d C i r)
/-- the fields that a clause reads -/
def Pt.noF (K : PySem.W.Frag) (C : Addr) : Pt → Prop
  | .c _ => True
  | .f fl => PySem.W.findIn K (.ref C) fl = some none
def tHd (K : PySem.W.Frag) (h : Hd) (a : Addr) (cls : Value) (d : Option Addr) : TS := fun D σ H => ∃ C, XfC K C ∧ (∀ p ∈ h.ps, p.noF K C) ∧
  tAsg (if h.one then (match h.ps with
    | [p] => tPt a cls d C (h.nm.getD 0) p
    | _ => fun _ _ _ => False) else tTup (tPts a cls d C (h.nm.getD 0) h.ps)) (gName h.t) D σ H
def Hd.hc (K : PySem.W.Frag) (G : Gd) (h : Hd) : Hc := (.ref (G.cad h.c), h.nm, tHd K h)
variable {X : Cx} {G : Gd} {W : WX}
/-- a constant's expression -/
inductive CstE : Expr → D → Prop
  | int {i : Int} {k : Nat} {p : Pos} : CstE (.Constant (.int i) k p) (.int i)
  | bl {b : Bool} {k : Nat} {p : Pos} : CstE (.Constant (.bool b) k p) (.bl b)
  | non {k : Nat} {p : Pos} : CstE (.Constant .none k p) .non
  | str {x : Str} {k : Nat} {p : Pos} : CstE (.Constant (.str x) k p) (.str x)
theorem CstE.pe {e : Expr} {d : D} (h : CstE e d) : ∃ v, scV d = some v ∧ PE X e (tC v) ∧ starEach (e :: []) X.env = (false, eval e X.env) :: [] := by
  cases h with
  | int => exact ⟨_, rfl, pe_int, rfl⟩
  | bl => exact ⟨_, rfl, pe_bl, rfl⟩
  | non => exact ⟨_, rfl, pe_non, rfl⟩
  | str => exact ⟨_, rfl, pe_str, rfl⟩
/-- the parts' expressions -/
inductive PtE (n : Option Str) : Expr → Pt → Prop
  | c {e : Expr} {d : D} (h : CstE e d) : PtE n e (.c d)
  | f {x fl : Str} {p q : Pos} (h : n = some x) : PtE n (.Attribute (.Name x p) fl q) (.f fl)
inductive PtEs (n : Option Str) : List Expr → List Pt → Prop
  | nil : PtEs n [] []
  | cons {e : Expr} {p : Pt} {es : List Expr} {ps : List Pt} (h : PtE n e p) (r : PtEs n es ps) : PtEs n (e :: es) (p :: ps)
theorem PtE.pe {n : Option Str} {e : Expr} {p : Pt} {a C : Addr} {oe : Obj} {cls : Value} {d : Option Addr} {pn : List (Addr × Obj)} {i : Nat} (h : PtE n e p) (T : XfC X.K C) (hno : p.noF X.K C) (hz : Zc cls d oe) (hf : ∃ vs, oe.data = .fields vs)
    (hn : ∀ x, n = some x → X.N[i]? = some x ∧ Vis X.env.scope x ∧ (x == ("__debug__" : Str)) = false ∧ (x == ("__classdict__" : Str)) = false) : PE (X.suite a ((a, oe) :: pn)) e (tPt a cls d C i p) := by
  cases h with
  | c h =>
    obtain ⟨v, e1, e2, _⟩ := h.pe (X := X.suite a ((a, oe) :: pn))
    exact PE.imp e2 fun σ H Q ⟨w, h1, h2⟩ => by
      rw [e1] at h1
      cases h1
      exact h2
  | @f x fl p q h =>
    obtain ⟨n1, n2, n3, n4⟩ := hn x h
    exact pe_xf T hno hz hf (pe_var n1 n2 n3 n4) rfl
theorem PtE.star {n : Option Str} {e : Expr} {p : Pt} {es : List Expr} {env : Env} (h : PtE n e p) : starEach (e :: es) env = (false, eval e env) :: starEach es env := by
  cases h with
  | c h => cases h <;> rfl
  | f h => rfl
theorem PtEs.pa {n : Option Str} {a C : Addr} {oe : Obj} {cls : Value} {d : Option Addr} {pn : List (Addr × Obj)} {i : Nat} (T : XfC X.K C) (hz : Zc cls d oe) (hf : ∃ vs, oe.data = .fields vs)
    (hn : ∀ x, n = some x → X.N[i]? = some x ∧ Vis X.env.scope x ∧ (x == ("__debug__" : Str)) = false ∧ (x == ("__classdict__" : Str)) = false) : ∀ {es : List Expr} {ps : List Pt}, PtEs n es ps → (∀ p ∈ ps, p.noF X.K C) → PA (X.suite a ((a, oe) :: pn)) es (tPts a cls d C i ps)
  | _, _, .nil, _ => pa_nil
  | _, _, .cons h r, hno => pa_cons (h.pe T (hno _ List.mem_cons_self) hz hf hn) (PtEs.pa T hz hf hn r fun p hp => hno p (List.mem_cons_of_mem _ hp)) h.star
theorem swaps_ptE {n : Option Str} {e : Expr} {p : Pt} {t : Option Expr} {l : Nat} {env : Env} (h : PtE n e p) : swapsWith e t l env = pure false := by
  cases h with
  | c h => cases h <;> rfl
  | f h => rfl
/-- a clause as it is written -/
inductive HdE (X : Cx) (G : Gd) : ExceptHandler → Hd → Prop
  | one {x : Str} {np pp tp sp : Pos} {n : Option Str} {tx : Str} {e : Expr} {h : Hd} {p : Pt} (hc : Names X x (.ref (G.cad h.c))) (hnm : ∀ y, n = some y → ∃ i, h.nm = some i ∧ X.N[i]? = some y ∧ X.env.kindOf y = some .local ∧ (y == ("__debug__" : Str)) = false ∧ (y == ("__classdict__" : Str)) = false) (hnm0 : n = none → h.nm = none)
      (ht : X.N[h.t]? = some tx) (htl : X.env.scope.names.lookup tx = some .local) (he : PtE n e p) (h1 : h.one = true) (h2 : h.ps = [p]) : HdE X G (.ExceptHandler (some (.Name x np)) n [.Assign [.Name tx tp] e sp] pp) h
  | many {x : Str} {np pp tp sp ep : Pos} {n : Option Str} {tx : Str} {es : List Expr} {k : Nat} {h : Hd} (hc : Names X x (.ref (G.cad h.c))) (hnm : ∀ y, n = some y → ∃ i, h.nm = some i ∧ X.N[i]? = some y ∧ X.env.kindOf y = some .local ∧ (y == ("__debug__" : Str)) = false ∧ (y == ("__classdict__" : Str)) = false) (hnm0 : n = none → h.nm = none)
      (ht : X.N[h.t]? = some tx) (htl : X.env.scope.names.lookup tx = some .local) (he : PtEs n es h.ps) (h1 : h.one = false) : HdE X G (.ExceptHandler (some (.Name x np)) n [.Assign [.Name tx tp] (.Tuple es k ep) sp] pp) h
theorem HdE.suite {eh : ExceptHandler} {h : Hd} (hN : X.N.Nodup) (E : HdE X G eh h) : ∃ x np n b₀ bs pp, eh = .ExceptHandler (some (.Name x np)) n (b₀ :: bs) pp ∧ Names X x (.ref (G.cad h.c)) ∧ (∀ y, n = some y → ∃ i, h.nm = some i ∧ X.N[i]? = some y ∧ X.env.kindOf y = some .local) ∧ (n = none → h.nm = none) ∧ SuiteOk X (b₀ :: bs) (tHd X.K h) := by
  have nm : ∀ {n : Option Str}, (∀ y, n = some y → ∃ i, h.nm = some i ∧ X.N[i]? = some y ∧ X.env.kindOf y = some .local ∧ (y == ("__debug__" : Str)) = false ∧ (y == ("__classdict__" : Str)) = false) → ∀ y, n = some y → X.N[h.nm.getD 0]? = some y ∧ Vis X.env.scope y ∧ (y == ("__debug__" : Str)) = false ∧ (y == ("__classdict__" : Str)) = false := fun hnm y hy => by
    obtain ⟨i, e1, e2, e3, e4, e5⟩ := hnm y hy
    rw [e1]
    exact ⟨e2, .inl e3, e4, e5⟩
  cases E with
  | @one x np pp tp sp n tx e _ p hc hnm hnm0 ht htl he h1 h2 =>
    refine ⟨x, np, n, _, _, pp, rfl, hc, fun y hy => ?_, hnm0, fun a oe cls d pn hz hf => ⟨fun pins s σ H D I w => ?_⟩⟩
    · obtain ⟨i, e1, e2, e3, _⟩ := hnm y hy
      exact ⟨i, e1, e2, e3⟩
    · obtain ⟨C, T, hno, w⟩ := w
      simp only [h1, h2, if_true] at w
      have hp := he.pe (X := X) (a := a) (C := C) (oe := oe) (cls := cls) (d := d) (pn := pn) T (hno p (by rw [h2]; simp)) hz hf (nm hnm)
      exact (pss_one (ps_set (X := X.suite a ((a, oe) :: pn)) hN ht (.inl htl) hp (swaps_ptE he) (.inr htl))).run pins s σ H D I w
  | @many x np pp tp sp ep n tx es k _ hc hnm hnm0 ht htl he h1 =>
    refine ⟨x, np, n, _, _, pp, rfl, hc, fun y hy => ?_, hnm0, fun a oe cls d pn hz hf => ⟨fun pins s σ H D I w => ?_⟩⟩
    · obtain ⟨i, e1, e2, e3, _⟩ := hnm y hy
      exact ⟨i, e1, e2, e3⟩
    · obtain ⟨C, T, hno, w⟩ := w
      simp only [h1, Bool.false_eq_true, if_false] at w
      exact (pss_one (ps_set (X := X.suite a ((a, oe) :: pn)) hN ht (.inl htl) (pe_tup (PtEs.pa T hz hf (nm hnm) he hno)) rfl (.inr htl))).run pins s σ H D I w
inductive HdEs (X : Cx) (G : Gd) : List ExceptHandler → List Hd → Prop
  | nil : HdEs X G [] []
  | cons {eh : ExceptHandler} {h : Hd} {ehs : List ExceptHandler} {hs : List Hd} (e : HdE X G eh h) (r : HdEs X G ehs hs) : HdEs X G (eh :: ehs) (h :: hs)
theorem HdEs.ok (hN : X.N.Nodup) : ∀ {ehs : List ExceptHandler} {hs : List Hd}, HdEs X G ehs hs → HsOk X ehs (hs.map (Hd.hc X.K G))
  | _, _, .nil => .nil
  | _, _, .cons (h := h) e r => by
    obtain ⟨x, np, n, b₀, bs, pp, rfl, hc, hn, hn0, su⟩ := e.suite hN
    have r' := HdEs.ok hN r
    show HsOk X _ ((.ref (G.cad h.c), h.nm, tHd X.K h) :: _)
    cases n with
    | none => rw [hn0 rfl]; exact .plain hc su r'
    | some y =>
      obtain ⟨i, e1, e2, e3⟩ := hn y rfl
      rw [e1]
      exact .named e2 e3 hc su r'
/-- the parts are read -/
theorem pt_run {a : Addr} {cls : Value} {C dd : Addr} {i : Nat} {fl : Str} {x : D} {xv : V} {ω ρ : List Addr} {H : Hp} {σ : L2.St} {K : PySem.W.Frag} {p : Pt} {v : D} {Q : VK} (hi : ∀ f, p = Pt.f f → σ[i]? = some (some (.ref a))) (hc : cls = .ref C) (hd : H dd = some (.xd [(fl, xv)])) (rx : Rp K ω ρ H xv x)
    (e : p.val fl x = some v) (sc : ∀ d, p = Pt.c d → (scV d).isSome) (q : ∀ v', Rp K ω ρ H v' v → Q v' H) : tPt a cls (some dd) C i p σ H Q := by
  cases p with
  | c d =>
    cases e
    obtain ⟨w, hw⟩ := Option.isSome_iff_exists.mp (sc _ rfl)
    exact ⟨w, hw, q w (scV_ok hw)⟩
  | f g =>
    have e' : (if g = fl then some x else none) = some v := e
    split at e'
    · next h =>
      cases e'
      subst h
      exact ⟨.ref a, hi g rfl, rfl, hc, dd, _, xv, rfl, hd, by simp [List.lookup], q xv rx⟩
    · cases e'
theorem pts_run {a : Addr} {cls : Value} {C dd : Addr} {i : Nat} {fl : Str} {x : D} {xv : V} {ω ρ : List Addr} {H : Hp} {σ : L2.St} {K : PySem.W.Frag} (hc : cls = .ref C) (hd : H dd = some (.xd [(fl, xv)])) (rx : Rp K ω ρ H xv x) :
    ∀ {ps : List Pt} {vs : List D} {Q : List V → Hp → Prop}, (∀ f, Pt.f f ∈ ps → σ[i]? = some (some (.ref a))) → Pt.vals fl x ps = some vs → (∀ d, Pt.c d ∈ ps → (scV d).isSome) → (∀ vs', RpL K ω ρ H vs' vs → Q vs' H) → tPts a cls (some dd) C i ps σ H Q
  | [], vs, Q, _, e, _, q => by cases e; exact q [] .nil
  | p :: r, vs, Q, hi, e, sc, q => by
    have e' : (match p.val fl x, Pt.vals fl x r with
      | some d, some ds => some (d :: ds)
      | _, _ => none) = some vs := e
    cases h1 : p.val fl x with
    | none => rw [h1] at e'; cases e'
    | some d =>
      cases h2 : Pt.vals fl x r with
      | none => rw [h1, h2] at e'; cases e'
      | some ds =>
        rw [h1, h2] at e'
        cases e'
        refine pt_run (fun f h => hi f (by rw [h]; exact List.mem_cons_self)) hc hd rx h1 (fun d h => sc d (by rw [h]; exact List.mem_cons_self)) fun v' rv => ?_
        exact pts_run hc hd rx (fun f h => hi f (List.mem_cons_of_mem _ h)) h2 (fun d h => sc d (List.mem_cons_of_mem _ h)) fun vs' rvs => q _ (.cons rv rvs)
/-- all constants of a clause are scalars; a field is read of a named error alone; few parts -/
def Hd.fine (h : Hd) : Bool := decide (h.ps.length ≤ 100) && h.ps.all fun p => match p with
  | .c d => (scV d).isSome
  | .f _ => h.nm.isSome
theorem s_try {body : List Stmt} {eh : ExceptHandler} {ehs : List ExceptHandler} {hs : List Hd} {db : Ds} {sub : Nat → Nat → Bool} {pos : Pos} (hst : X.stack = X.env :: X.outer) (hf : X.env.frame = some X.env.locals) (hN : X.N.Nodup) (tk : Takes X W)
    (hb : ∀ (W : WX) (pn : List (Addr × Obj)) (xe : Value → Shared → Prop), Takes (X.tr pn xe) W → PassesOwn (model X.prog X.w) X.A X.env xe → PSs (X.tr pn xe) body (tS X.K G W db))
    (hh : HdEs X G (eh :: ehs) hs) (fine : ∀ h ∈ hs, h.fine = true) (hsub : ∀ c h, h ∈ hs → PySem.W.exmOne X.K (.ref (G.cad c)) (.ref (G.cad h.c)) = some (sub c h.c)) (hxf : ∀ c, XfC X.K (G.cad c)) (hno : ∀ c, PySem.W.findIn X.K (.ref (G.cad c)) (G.cfl c) = some none) :
    PS X (.Try body (eh :: ehs) [] [] pos) (tS X.K G W (Ds.try_ sub G.cfl db hs)) := by
  refine PS.imp (try_mix (tb := fun W => tS X.K G W db) hst hf hN tk hb (hh.ok hN)) fun D σ H h => ?_
  obtain ⟨ω, ρ, sl, st, a, h⟩ := h
  refine ⟨ω, ρ, sl, st, a, ?_⟩
  unfold Ds.try_ at h
  cases e : db sl st with
  | none => rw [e] at h; exact h
  | some p =>
    obtain ⟨f, sl1, st1⟩ := p
    rw [e] at h
    cases f with
    | nx => exact h
    | bk => exact h
    | ct => exact h
    | rt v => exact h
    | ex c x =>
      intro σ1 H1 ρ1 e1 a1 dd xv rx hd n1 n2
      have h' : PostS X.K G W D ω ρ H (match pick sub c hs with
        | none => some (.ex c x, sl1, st1)
        | some h => if h.okL sl1 then (h.val (G.cfl c) x).map fun v => (.nx, h.sl v sl1, st1) else none) := h
      have key : ∀ hs' : List Hd, (∀ h ∈ hs', h ∈ hs) → PostS X.K G W D ω ρ H (match pick sub c hs' with
        | none => some (.ex c x, sl1, st1)
        | some h => if h.okL sl1 then (h.val (G.cfl c) x).map fun v => (.nx, h.sl v sl1, st1) else none) → wHs X.K W D (hs'.map (Hd.hc X.K G)) (.ref (G.cad c)) (some dd) σ1 H1 := by
        intro hs'
        induction hs' with
        | nil => exact fun _ h' => h' σ1 H1 ρ1 e1 a1 dd xv rx hd n1 n2
        | cons hd1 r ih =>
          intro hm h'
          have hin := hm hd1 List.mem_cons_self
          have fi := fine hd1 hin
          unfold Hd.fine at fi
          rw [Bool.and_eq_true, List.all_eq_true] at fi
          obtain ⟨few, fi⟩ := fi
          have few := of_decide_eq_true few
          -- what the suite asks
          have run : ∀ (a0 : Addr) (D' : Ends) (σ' : L2.St) (sl' : Sl), sub c hd1.c = true → H1 a0 = none → At X.K ω ρ1 H1 σ' sl' st1 → (∀ i, hd1.nm = some i → σ'[i]? = some (some (.ref a0))) → (∀ v, hd1.val (G.cfl c) x = some v → ∀ H2 v', Ext ω ρ1 H1 ρ1 H2 → At X.K ω ρ1 H2 σ' sl' st1 → Rp X.K ω ρ1 H2 v' v → D'.nx (σ'.set hd1.t (some v')) H2) →
              tHd X.K hd1 a0 (.ref (G.cad c)) (some dd) D' σ' H1 := by
            intro a0 D' σ' sl' hsb ha0 aa hσ q
            refine ⟨G.cad c, hxf c, fun p hp => ?_, ?_⟩
            · cases p with
              | c d => trivial
              | f g =>
                have ev : ∃ v, hd1.val (G.cfl c) x = some v := by
                  have h2 := h'
                  unfold pick at h2
                  rw [hsb] at h2
                  simp only [if_true] at h2
                  split at h2
                  case isFalse => exact h2.elim
                  cases ev : hd1.val (G.cfl c) x with
                  | none => rw [ev] at h2; exact h2.elim
                  | some v => exact ⟨v, rfl⟩
                obtain ⟨v, ev⟩ := ev
                have : g = G.cfl c := by
                  unfold Hd.val at ev
                  cases e2 : Pt.vals (G.cfl c) x hd1.ps with
                  | none => rw [e2] at ev; cases ev
                  | some ds =>
                    exact Pt.vals_fld e2 hp
                rw [this]
                exact hno c
            · have ev : ∃ v, hd1.val (G.cfl c) x = some v := by
                have h2 := h'
                unfold pick at h2
                rw [hsb] at h2
                simp only [if_true] at h2
                split at h2
                case isFalse => exact h2.elim
                cases ev : hd1.val (G.cfl c) x with
                | none => rw [ev] at h2; exact h2.elim
                | some v => exact ⟨v, rfl⟩
              obtain ⟨v, ev⟩ := ev
              have q := q v ev
              unfold Hd.val at ev
              cases e2 : Pt.vals (G.cfl c) x hd1.ps with
              | none => rw [e2] at ev; cases ev
              | some ds =>
                rw [e2] at ev
                have slot : ∀ g, Pt.f g ∈ hd1.ps → σ'[hd1.nm.getD 0]? = some (some (.ref a0)) := fun g hg => by
                  obtain ⟨i, hi⟩ := Option.isSome_iff_exists.mp (fi _ hg)
                  rw [hi]
                  exact hσ i hi
                have scs : ∀ d, Pt.c d ∈ hd1.ps → (scV d).isSome := fun d hg => fi _ hg
                cases ho : hd1.one with
                | true =>
                  simp only [ho, if_true] at ev ⊢
                  cases ds with
                  | nil => cases ev
                  | cons d1 ds =>
                    cases ds with
                    | cons _ _ => cases ev
                    | nil =>
                      cases ev
                      cases hps : hd1.ps with
                      | nil => rw [hps] at e2; cases e2
                      | cons p ps =>
                        rw [hps] at e2 slot scs
                        have e3 : (match p.val (G.cfl c) x, Pt.vals (G.cfl c) x ps with
                          | some d, some ds => some (d :: ds)
                          | _, _ => none) = some [v] := e2
                        cases h1 : p.val (G.cfl c) x with
                        | none => rw [h1] at e3; cases e3
                        | some d2 =>
                          cases h2 : Pt.vals (G.cfl c) x ps with
                          | none => rw [h1, h2] at e3; cases e3
                          | some ds2 =>
                            rw [h1, h2] at e3
                            cases e3
                            cases ps with
                            | cons p2 ps2 =>
                              have e5 : (match p2.val (G.cfl c) x, Pt.vals (G.cfl c) x ps2 with
                                | some d, some ds => some (d :: ds)
                                | _, _ => none) = some [] := h2
                              cases h3 : p2.val (G.cfl c) x <;> cases h4 : Pt.vals (G.cfl c) x ps2 <;> (rw [h3, h4] at e5; cases e5)
                            | nil =>
                              exact pt_run (fun f hf => slot f (by rw [hf]; simp)) rfl hd rx h1 (fun d hd => scs d (by rw [hd]; simp)) fun v' rv => q H1 v' .refl aa rv
                | false =>
                  simp only [ho, Bool.false_eq_true, if_false] at ev ⊢
                  cases ev
                  refine pts_run rfl hd rx slot e2 scs fun vs' rvs => ?_
                  refine ⟨?_, fun P hP => ?_⟩
                  · rw [rvs.length, Pt.vals_len e2]
                    exact short_line (by omega)
                  · have e3 : Ext ω ρ1 H1 ρ1 (upd H1 P (.tup vs')) := Ext.new hP aa.sto.tr
                    have s3 := aa.sto.new (o := .tup vs') hP
                    exact q _ (.ref P) e3 ⟨s3, aa.slo.ext e3⟩ (.tup (.inl upd_same) (aa.sto.fresh hP).1 (aa.sto.fresh hP).2 (rvs.ext e3))
          have sb := hsub c hd1 hin
          show wHs X.K W D ((.ref (G.cad hd1.c), hd1.nm, tHd X.K hd1) :: r.map (Hd.hc X.K G)) _ _ _ _
          have rest : sub c hd1.c = false → wHs X.K W D (r.map (Hd.hc X.K G)) (.ref (G.cad c)) (some dd) σ1 H1 := fun hf => by
            refine ih (fun h hh => hm h (List.mem_cons_of_mem _ hh)) ?_
            unfold pick at h'
            rw [hf] at h'
            exact h'
          cases hnm : hd1.nm with
          | none =>
            refine ⟨sub c hd1.c, sb, fun hsb a0 ha0 => ?_, rest⟩
            refine run a0 D σ1 sl1 hsb ha0 a1 (fun i hi => by rw [hnm] at hi; cases hi) fun v ev H2 v' e2 a2 rv => ?_
            have h2 := h'
            unfold pick at h2
            rw [hsb] at h2
            have okl : hd1.okL sl1 = true := by unfold Hd.okL; rw [hnm]
            simp only [if_true, okl, ev, Option.map_some] at h2
            have sl2 : hd1.sl v sl1 = sl1.set hd1.t (some v) := by unfold Hd.sl; rw [hnm]
            rw [sl2] at h2
            exact h2 _ H2 ρ1 (e1.trans e2) ⟨a2.sto, a2.slo.set rv⟩
          | some i =>
            refine ⟨sub c hd1.c, sb, fun hsb a0 ha0 => ?_, rest⟩
            have len : sl1.length = σ1.length := a1.slo.len
            have slw : SlotR X.K ω ρ1 H1 (σ1.set i (some (.ref a0))) (sl1.set i none) := by
              refine ⟨by simp [len], fun j d hj => ?_⟩
              by_cases ej : j = i
              · subst ej
                by_cases hl : j < sl1.length
                · rw [List.getElem?_set_self hl] at hj; cases hj
                · rw [List.getElem?_eq_none (by simpa using hl)] at hj; cases hj
              · rw [List.getElem?_set_ne (Ne.symm ej)] at hj
                obtain ⟨v', g1, g2⟩ := a1.slo.at_ j d hj
                exact ⟨v', by rw [List.getElem?_set_ne (Ne.symm ej)]; exact g1, g2⟩
            have hil : i < σ1.length := by
              have h2 := h'
              unfold pick at h2
              rw [hsb] at h2
              simp only [if_true] at h2
              split at h2
              case isFalse => exact h2.elim
              next okl =>
                unfold Hd.okL at okl
                rw [hnm] at okl
                rw [← len]
                exact of_decide_eq_true okl
            · refine run a0 (gone i D) _ (sl1.set i none) hsb ha0 ⟨a1.sto, slw⟩ (fun j hj => ?_) fun v ev H2 v' e2 a2 rv => ?_
              · rw [hnm] at hj; cases hj
                rw [List.getElem?_set_self hil]
              · have h2 := h'
                unfold pick at h2
                rw [hsb] at h2
                have okl : hd1.okL sl1 = true := by unfold Hd.okL; rw [hnm]; exact decide_eq_true (by rw [len]; exact hil)
                simp only [if_true, okl, ev, Option.map_some] at h2
                have sl2 : hd1.sl v sl1 = ((sl1.set i none).set hd1.t (some v)).set i none := by unfold Hd.sl; rw [hnm]
                rw [sl2] at h2
                exact h2 _ H2 ρ1 (e1.trans e2) ⟨a2.sto, (a2.slo.set rv).clear i⟩
      exact key hs (fun _ h => h) h'
end
end Hb

set_option Elab.async false
set_option linter.all false
set_option maxRecDepth 100000
set_option maxHeartbeats 4000000
/-! Part T: dicts whose keys are ints and texts; enumerate over lists and tuples. -/
namespace Hb
open PySem PySem.Spec PyProof.Rows L2
def dkey : D → Option Key
  | .int i => some (.inl i)
  | .str x => some (.inr x)
  | _ => none
theorem dkey_ok {K : PySem.W.Frag} {ω ρ : List Addr} {H : Hp} {v : V} {d : D} {k : Key} (r : Rp K ω ρ H v d) (e : dkey d = some k) : v = kV k := by
  cases r <;> cases e <;> rfl
def dview (d : D) (st : Sto) : Option (List Key × List D) := match d with
  | .dic ks xs => some (ks, xs)
  | .ref l => match st.o[l]? with
    | some (.dic ks xs) => some (ks, xs)
    | _ => none
  | _ => none
theorem dview_ok {K : PySem.W.Frag} {ω ρ : List Addr} {H : Hp} {st : Sto} (s : StoR K ω ρ H st) {v : V} {d : D} {ks : List Key} {xs : List D} (r : Rp K ω ρ H v d) (e : dview d st = some (ks, xs)) : ∃ a vs, v = .ref a ∧ H a = some (.dK (ks.zip vs)) ∧ ks.length = vs.length ∧ RpL K ω ρ H vs xs := by
  cases r with
  | dic h l _ _ t => cases e; exact ⟨_, _, rfl, h, l, t⟩
  | @ref a l h =>
    have e' : (match st.o[l]? with
      | some (.dic ks xs) => some (ks, xs)
      | _ => none) = some (ks, xs) := e
    cases q : st.o[l]? with
    | none => rw [q] at e'; cases e'
    | some o =>
      rw [q] at e'
      cases o with
      | dic ks' xs' =>
        cases e'
        cases s.obj l _ a q h with
        | dic h1 l1 t => exact ⟨_, _, rfl, h1, l1, t⟩
      | _ => cases e'
  | _ => cases e
def dget : List Key → List D → Key → Option D
  | k :: ks, x :: xs, j => if k = j then some x else dget ks xs j
  | _, _, _ => none
theorem dget_ok {K : PySem.W.Frag} {ω ρ : List Addr} {H : Hp} {j : Key} : ∀ {ks : List Key} {vs : List V} {xs : List D}, ks.length = vs.length → RpL K ω ρ H vs xs →
    (∀ d, dget ks xs j = some d → ∃ v, valV (ks.zip vs) j = some v ∧ Rp K ω ρ H v d) ∧ (dget ks xs j = none → valV (ks.zip vs) j = none)
  | [], [], _, _, .nil => by
    refine ⟨fun d h => ?_, fun _ => rfl⟩
    cases h
  | k :: ks, v :: vs, x :: xs, hl, .cons r t => by
    obtain ⟨a, b⟩ := dget_ok (j := j) (ks := ks) (Nat.succ.inj hl) t
    have e : dget (k :: ks) (x :: xs) j = if k = j then some x else dget ks xs j := rfl
    rw [e]
    by_cases hk : k = j
    · rw [if_pos hk]
      refine ⟨fun d h => ⟨v, ?_, ?_⟩, fun h => by cases h⟩
      · rw [List.zip_cons_cons]; exact valV_pos hk
      · cases h; exact r
    · rw [if_neg hk]
      rw [List.zip_cons_cons, valV_neg (p := (k, v)) hk]
      exact ⟨a, b⟩
  | [], _ :: _, _, hl, _ => by cases hl
  | _ :: _, [], _, hl, _ => by cases hl
/-- what stands behind d[j] = y -/
def dset (ks : List Key) (xs : List D) (j : Key) (y : D) : List D := List.zipWith (fun k x => if k = j then y else x) ks xs
def dput (ks : List Key) (xs : List D) (j : Key) (y : D) : List Key × List D := if (ks.any fun k => decide (k = j)) then (ks, dset ks xs j y) else (ks ++ [j], xs ++ [y])
theorem zip_any {j : Key} : ∀ {ks : List Key} {vs : List V}, ks.length = vs.length → ((ks.zip vs).any fun kv => decide (kv.1 = j)) = ks.any fun k => decide (k = j)
  | [], [], _ => rfl
  | k :: ks, v :: vs, h => by rw [List.zip_cons_cons, List.any_cons, List.any_cons, zip_any (Nat.succ.inj h)]
  | [], _ :: _, h => by cases h
  | _ :: _, [], h => by cases h
theorem dput_ok {K : PySem.W.Frag} {ω ρ : List Addr} {H : Hp} {j : Key} {y : D} {w : V} (ry : Rp K ω ρ H w y) {ks : List Key} {vs : List V} {xs : List D} (hl : ks.length = vs.length) (r : RpL K ω ρ H vs xs) :
    ∃ vs', putK (ks.zip vs) j w = (dput ks xs j y).1.zip vs' ∧ (dput ks xs j y).1.length = vs'.length ∧ RpL K ω ρ H vs' (dput ks xs j y).2 := by
  unfold putK dput
  rw [zip_any hl]
  cases ks.any fun k => decide (k = j) with
  | true =>
    refine ⟨List.zipWith (fun k v => if k = j then w else v) ks vs, ?_, ?_, ?_⟩
    · show (ks.zip vs).map _ = ks.zip _
      clear r
      induction ks generalizing vs with
      | nil => rfl
      | cons k ks ih =>
        cases vs with
        | nil => cases hl
        | cons v vs =>
          rw [List.zip_cons_cons, List.map_cons, List.zipWith_cons_cons, List.zip_cons_cons, ih (Nat.succ.inj hl)]
          congr 1
          show (if k = j then (k, w) else (k, v)) = (k, if k = j then w else v)
          split <;> rfl
    · show ks.length = _
      rw [List.length_zipWith, hl, Nat.min_self]
    · show RpL K ω ρ H _ (dset ks xs j y)
      unfold dset
      induction ks generalizing vs xs with
      | nil => exact .nil
      | cons k ks ih =>
        cases r with
        | nil => cases hl
        | cons r t =>
          rw [List.zipWith_cons_cons, List.zipWith_cons_cons]
          refine .cons ?_ (ih (Nat.succ.inj hl) t)
          split <;> assumption
  | false =>
    refine ⟨vs ++ [w], ?_, ?_, r.append (.cons ry .nil)⟩
    · show ks.zip vs ++ [(j, w)] = (ks ++ [j]).zip (vs ++ [w])
      rw [List.zip_append hl]
      rfl
    · show (ks ++ [j]).length = _
      simp [hl]
section
variable {X : Cx}
/-- by index, by key -/
def fIxD (x y : D) (st : Sto) : Option D := match dview x st with
  | some (ks, xs) => (dkey y).bind (dget ks xs)
  | none => fIx x y st
theorem ix_dict (hu : X.A.units + 1 < cLine) : IxR X (fun x y H Q => ∃ a v, x = .ref a ∧ DGet H a y (some v) ∧ Q v H) := by
  intro value slice pins s σ H x y v u Q I rx ry ⟨a, z, ex, g, q⟩ hs
  subst ex
  obtain rfl : v = Value.ref a := rx
  have hT := dict_typeIs I g
  have h := d_getItem (A := X.A) (E := X.xe) (Q := EP X pins σ Q) hu I g ry fun w' s3 I3 rw' => ⟨z, H, I3, rw', q⟩
  unfold subscriptTail
  refine wpAny_bind ?_
  rw [getitemInPython_of_ne hT.not_modules]
  refine wpAny_bind (wpAny_specialOf hT PySem.F.slot_dict_getitem.lookup ?_)
  have fin : wpAny (model X.prog X.w) X.A (subscripted slice false (.ref a) u) (fun r s₃ => wpAny (model X.prog X.w) X.A (letTemporaryGo value (.ref a) r >>= fun _ => pure r) (EP X pins σ Q) X.xe s₃) X.xe s := by
    rw [hs]
    exact wpAny_operating (wpAny_mono h (fun r s3 h3 => wpAny_bind (wpAny_letTemporaryGo (wpAny_pure h3))) fun _ _ x => x)
  first
    | exact wpAny_pure (wpAny_bind fin)
    | exact wpAny_bind (wpAny_pure (wpAny_bind fin))
    | exact wpAny_bind fin
theorem o_ixD (hu : X.A.units + 1 < cLine) : IxR X (rV2 X.K fIxD) := by
  intro value slice pins s σ H x' y' v u Q I rx ry ⟨ω, ρ, st, x, y, z, sr, dx, dy, e, q⟩ hs
  unfold fIxD at e
  cases ed : dview x st with
  | none =>
    rw [ed] at e
    exact o_ix value slice pins s σ H x' y' v u Q I rx ry ⟨ω, ρ, st, x, y, z, sr, dx, dy, e, q⟩ hs
  | some p =>
    obtain ⟨ks, xs⟩ := p
    rw [ed] at e
    obtain ⟨k, ek, eg⟩ := Option.bind_eq_some_iff.mp e
    obtain ⟨a, vs, rfl, ha, hl, r⟩ := dview_ok sr dx ed
    obtain rfl := dkey_ok dy ek
    obtain ⟨w, e1, rw1⟩ := (dget_ok (j := k) hl r).1 z eg
    exact ix_dict hu value slice pins s σ H _ _ v u Q I rx ry ⟨a, w, rfl, .inl ⟨_, k, .inl ha, rfl, e1.symm⟩, q w H .refl sr rw1⟩ hs
/-- in: also of a dict -/
def inD (x y : D) (st : Sto) : Option Bool := match dview y st with
  | some (ks, xs) => (dkey x).map fun k => (dget ks xs k).isSome
  | none => inB x y st
def fInD (x y : D) (st : Sto) : Option D := (inD x y st).map .bl
def fNinD (x y : D) (st : Sto) : Option D := (inD x y st).map fun b => .bl (!b)
theorem in_dict {ω ρ : List Addr} {H : Hp} {st : Sto} {x' y' : V} {x y : D} {b : Bool} {ks : List Key} {xs : List D} (sr : StoR X.K ω ρ H st) (dx : Rp X.K ω ρ H x' x) (dy : Rp X.K ω ρ H y' y) (ed : dview y st = some (ks, xs)) (e : ((dkey x).map fun k => (dget ks xs k).isSome) = some b) :
    ∃ a o, y' = .ref a ∧ DGet H a x' o ∧ o.isSome = b := by
  obtain ⟨k, ek, rfl⟩ := Option.map_eq_some_iff.mp e
  obtain ⟨a, vs, rfl, ha, hl, r⟩ := dview_ok sr dy ed
  obtain rfl := dkey_ok dx ek
  refine ⟨a, _, rfl, .inl ⟨_, k, .inl ha, rfl, rfl⟩, ?_⟩
  obtain ⟨p1, p2⟩ := dget_ok (j := k) hl r
  cases eg : dget ks xs k with
  | none => rw [p2 eg]; rfl
  | some d =>
    obtain ⟨w, e1, _⟩ := p1 d eg
    rw [e1]; rfl
theorem o_inD (hu : X.A.units + 1 + 64 < cLine) : OpR X (compareOp .In) (rV2 X.K fInD) := by
  intro pins s σ H x' y' v u Q I rx ry ⟨ω, ρ, st, x, y, z, sr, dx, dy, e, q⟩
  unfold fInD inD at e
  cases ed : dview y st with
  | none =>
    rw [ed] at e
    exact o_in hu pins s σ H x' y' v u Q I rx ry ⟨ω, ρ, st, x, y, z, sr, dx, dy, e, q⟩
  | some p =>
    obtain ⟨ks, xs⟩ := p
    rw [ed] at e
    obtain ⟨b, eb, rfl⟩ := Option.map_eq_some_iff.mp e
    obtain ⟨a, o, rfl, g, eo⟩ := in_dict sr dx dy ed eb
    obtain rfl : u = Value.ref a := ry
    exact d_in (by omega) I g rx fun s3 I3 => ⟨.bl o.isSome, H, I3, rfl, q _ H .refl sr (by rw [eo]; exact .bl _)⟩
theorem o_ninD (hu : X.A.units + 1 + 64 < cLine) : OpR X (compareOp .NotIn) (rV2 X.K fNinD) := by
  intro pins s σ H x' y' v u Q I rx ry ⟨ω, ρ, st, x, y, z, sr, dx, dy, e, q⟩
  unfold fNinD inD at e
  cases ed : dview y st with
  | none =>
    rw [ed] at e
    exact o_nin hu pins s σ H x' y' v u Q I rx ry ⟨ω, ρ, st, x, y, z, sr, dx, dy, e, q⟩
  | some p =>
    obtain ⟨ks, xs⟩ := p
    rw [ed] at e
    obtain ⟨b, eb, rfl⟩ := Option.map_eq_some_iff.mp e
    obtain ⟨a, o, rfl, g, eo⟩ := in_dict sr dx dy ed eb
    obtain rfl : u = Value.ref a := ry
    exact d_notIn (by omega) I g rx fun s3 I3 => ⟨.bl (!o.isSome), H, I3, rfl, q _ H .refl sr (by rw [eo]; exact .bl _)⟩
/-- o[i] = v: also of a dict -/
def putD (o i v : D) (st : Sto) : Option Sto := match o with
  | .ref l => match st.o[l]? with
    | some (.dic ks xs) => match dkey i with
      | some k => if ks.length < sizeLine ∧ okPut st l v = true then some (st.put l (.dic (dput ks xs k v).1 (dput ks xs k v).2)) else none
      | none => none
    | _ => putIx o i v st
  | _ => none
def rPutD (K : PySem.W.Frag) : V → V → V → Hp → (Hp → Prop) → Prop := fun o' i' v' H Q => ∃ ω ρ st o i v st', StoR K ω ρ H st ∧ Rp K ω ρ H o' o ∧ Rp K ω ρ H i' i ∧ Rp K ω ρ H v' v ∧ putD o i v st = some st' ∧
  ∀ H', Ext ω ρ H ρ H' → StoR K ω ρ H' st' → Q H'
theorem bels_dset {n : Nat} {j : Key} {y : D} (hy : y.bel n = true) : ∀ {ks : List Key} {xs : List D}, D.bels n xs = true → D.bels n (dset ks xs j y) = true
  | [], _, _ => rfl
  | _ :: _, [], _ => rfl
  | k :: ks, x :: xs, h => by
    obtain ⟨h1, h2⟩ := Bool.and_eq_true_iff.mp (show (D.bel n x && D.bels n xs) = true from h)
    show (D.bel n (if k = j then y else x) && D.bels n (dset ks xs j y)) = true
    rw [bels_dset hy h2, Bool.and_true]
    split <;> assumption
theorem bels_dput {n : Nat} {ks : List Key} {j : Key} {y : D} {xs : List D} (hy : y.bel n = true) (h : D.bels n xs = true) : D.bels n (dput ks xs j y).2 = true := by
  unfold dput
  split
  · exact bels_dset hy h
  · show D.bels n (xs ++ [y]) = true
    rw [bels_append, h]
    show (D.bel n y && true) = true
    rw [hy]; rfl
theorem putD_ok {K : PySem.W.Frag} {ω ρ : List Addr} {H : Hp} {st : Sto} (s : StoR K ω ρ H st) {l : Nat} {a : Addr} {ks js : List Key} {xs ys : List D} {vs : List V} (h : ρ[l]? = some a) (hx : st.o[l]? = some (.dic ks xs)) (hl : js.length = vs.length) (r : RpL K ω ρ H vs ys)
    (hb : ∀ n, D.bels n xs = true → (st.b ≤ l ∨ D.bels n ys = true)) : Ext ω ρ H ρ (upd H a (.dK (js.zip vs))) ∧ StoR K ω ρ (upd H a (.dK (js.zip vs))) (st.put l (.dic js ys)) := by
  have e : Ext ω ρ H ρ (upd H a (.dK (js.zip vs))) := Ext.write h s.dj
  refine ⟨e, s.write h (.dic upd_same hl (r.ext e)) fun n hn hlt => ?_⟩
  rcases hb n (s.old n hn l _ hlt hx) with q | q
  · have := (s.bas n hn).1
    omega
  · exact q
theorem p_putD (hu : X.A.units + 1 < cLine) : PSet X (rPutD X.K) := by
  intro pins s σ H o' i' v' ov iv u Q I ro ri rv ⟨ω, ρ, st, o, i, v, st', sr, d1, d2, d3, e, q⟩
  cases o with
  | ref l =>
    have e : (match st.o[l]? with
      | some (.dic ks xs) => match dkey i with
        | some k => if ks.length < sizeLine ∧ okPut st l v = true then some (st.put l (.dic (dput ks xs k v).1 (dput ks xs k v).2)) else none
        | none => none
      | _ => putIx (.ref l) i v st) = some st' := e
    split at e
    · next ks xs eo =>
      split at e
      · next k ek =>
        split at e
        · next hc =>
          cases e
          obtain rfl := dkey_ok d2 ek
          cases d1 with
          | @ref a _ h =>
            cases sr.obj l _ a eo h with
            | dic ha hl r =>
              obtain ⟨vs', e1, e2, e3⟩ := dput_ok (j := k) d3 hl r
              obtain ⟨e4, s4⟩ := putD_ok sr h eo e2 e3 fun n hn => by
                rcases Bool.or_eq_true_iff.mp hc.2 with w | w
                · exact .inl (of_decide_eq_true w)
                · exact .inr (bels_dput (D.bel_mono (Nat.zero_le n) _ w) hn)
              rw [← e1] at e4 s4
              obtain rfl : ov = Value.ref a := ro
              exact d_setItem hu I (DPut.k ha (by rw [List.length_zip, ← hl, Nat.min_self]; exact hc.1)) ri rv fun s5 I5 => ⟨_, I5, q _ e4 s4⟩
        · cases e
      · cases e
    · exact p_put pins s σ H o' i' v' ov iv u Q I ro ri rv ⟨ω, ρ, st, _, i, v, st', sr, d1, d2, d3, e, q⟩
  | _ => cases e
def Ds.putD (de do_ di : De D) : Ds := Ds.of de fun v => Ds.of do_ fun o => Ds.of di fun i sl st => (Hb.putD o i v st).map fun st' => (.nx, sl, st')
theorem s_putD {G : Gd} {W : WX} {pos tpos : Pos} {e o i : Expr} {de do_ di : De D} (hu : X.A.units + 1 < cLine) (he : PE X e (tD X.K G W de)) (ho : PE X o (tD X.K G W do_)) (hi : PE X i (tD X.K G W di))
    (ha : ∀ v, assign (.Subscript o i tpos) X.env v = (do
      let ov ← holding [v] (eval o X.env)
      let iv ← holding [v, ov] (eval i X.env)
      standAt tpos
      holding [v, ov, iv] (setItem ov iv v)
      release [v, ov, iv] []))
    (hs : swapsWithSole [.Subscript o i tpos] e pos.line X.env = pure false) (hw : swappedStores [.Subscript o i tpos] e X.env = pure none)
    (h1 : (assignEach [.Subscript o i tpos] X.env).map (·.2) = [assign (.Subscript o i tpos) X.env]) : PS X (.Assign [.Subscript o i tpos] e pos) (tS X.K G W (Ds.putD de do_ di)) :=
  PS.imp (ps_asg he (pg_sub ho hi (p_putD hu) ha) hs hw h1) fun D σ H h => by
    obtain ⟨ω, ρ, sl, st, a, h⟩ := h
    refine tG.mono (splitS a h) fun v' H1 ⟨v, ρ1, st1, E1, e1, a1, r1, h1⟩ => ?_
    refine tG.mono (splitS a1 h1) fun o' H2 ⟨o, ρ2, st2, E2, e2, a2, r2, h2⟩ => ?_
    refine tG.mono (splitS a2 h2) fun i' H3 ⟨i, ρ3, st3, E3, e3, a3, r3, h3⟩ => ?_
    cases ep : Hb.putD o i v st3 with
    | none => simp only [ep] at h3; exact h3.elim
    | some st4 =>
      simp only [ep] at h3
      exact ⟨ω, ρ3, st3, o, i, v, st4, a3.sto, Rp.ext e3 r2, r3, Rp.ext (e2.trans e3) r1, ep, fun H4 e4 s4 => h3 σ H4 ρ3 e4 ⟨s4, a3.slo.ext e4⟩⟩
end
/-! ### displays -/
def dDsp (al : Bool) (ks : List Key) (r : De (List D)) : De D := fun sl st => match r sl st with
  | some (.ok xs, st') => if xs.length = ks.length then (match al with
    | true => some (.ok (.ref st'.o.length), st'.add (.dic ks xs))
    | false => some (.ok (.dic ks xs), st')) else none
  | _ => none
section
variable {X : Cx} {G : Gd} {W : WX} {pos : Pos}
inductive Prs (X : Cx) (G : Gd) (W : WX) : List Expr → List Expr → List Key → De (List D) → Prop
  | nil : Prs X G W [] [] [] (De.ret [])
  | cons {k v : Expr} {key : Key} {ks vs : List Expr} {keys : List Key} {d : De D} {r : De (List D)} (hk : PE X k (tC (kV key))) (hv : PE X v (tD X.K G W d)) (t : Prs X G W ks vs keys r) : Prs X G W (k :: ks) (v :: vs) (key :: keys) (De.cons d r)
theorem Prs.run : ∀ {kes es : List Expr} {ks : List Key} {r : De (List D)}, Prs X G W kes es ks r → kes.length = es.length ∧ kes.length = ks.length ∧ ∃ trs, PPs X pos (kes.map some) es trs ∧ ∀ σ H Q, tAs X.K G W r σ H (fun vs H' => Q ((ks.map kV).zip vs) H') → tPairs trs σ H Q
  | _, _, _, _, .nil => ⟨rfl, rfl, [], pps_nil, fun σ H Q ⟨ω, ρ, sl, st, a, h⟩ => h.ret a [] .nil⟩
  | _, _, _, _, .cons hk hv t => by
    obtain ⟨l1, l2, trs, p, q⟩ := Prs.run t
    refine ⟨congrArg Nat.succ l1, congrArg Nat.succ l2, _, pps_cons hk hv p, fun σ H Q ⟨ω, ρ, sl, st, a, h⟩ => ?_⟩
    show tD X.K G W _ σ H _
    refine tG.mono (split a h) fun x' H1 ⟨x, ρ1, st1, E1, e1, a1, r1, h1⟩ => ?_
    refine q σ H1 _ (tG.mono (split a1 h1) fun y' H2 ⟨y, ρ2, st2, E2, e2, a2, r2, h2⟩ => ?_)
    exact h2.ret a2 (x' :: y') (.cons (r1.ext e2) r2)
theorem merge_new : ∀ {more kvs : List (Key × V)}, (more.map (·.1)).Nodup → (∀ p ∈ more, valV kvs p.1 = none) → mergeK kvs more = kvs ++ more
  | [], kvs, _, _ => by simp [mergeK]
  | p :: more, kvs, hn, h => by
    have hn' := List.nodup_cons.mp (show (p.1 :: more.map (·.1)).Nodup from hn)
    show mergeK (putK kvs p.1 p.2) more = _
    rw [putK_new p.2 (h p List.mem_cons_self), merge_new hn'.2 fun q hq => ?_]
    · simp
    · rw [valV_snoc _ _ _ _ (h p List.mem_cons_self), if_neg (fun e => hn'.1 (by rw [← e]; exact List.mem_map.mpr ⟨q, hq, rfl⟩))]
      exact h q (List.mem_cons_of_mem _ hq)
theorem zip_kv : ∀ {ks : List Key} {vs : List V}, (ks.map kV).zip vs = (ks.zip vs).map fun kv => (kV kv.1, kv.2)
  | [], _ => rfl
  | _ :: _, [] => rfl
  | k :: ks, v :: vs => by
    rw [List.map_cons, List.zip_cons_cons, List.zip_cons_cons, List.map_cons, zip_kv]
theorem d_dsp {kes es : List Expr} {ks : List Key} {r : De (List D)} {al : Bool} (p : Prs X G W kes es ks r) (h0 : kes ≠ []) (h15 : kes.length ≤ 15) (hn : ks.Nodup) : PE X (.Dict (kes.map some) es pos) (tD X.K G W (dDsp al ks r)) := by
  obtain ⟨l1, l2, trs, pp, q⟩ := p.run (pos := pos)
  refine PE.imp (pe_disp pp (by simp) (by simpa using l1) (by simpa using h0) (by simpa using h15)) fun σ H Q h => ?_
  obtain ⟨ω, ρ, sl, st, a, h⟩ := h
  intro P hP
  have np := a.sto.fresh hP
  have e0 : Ext ω ρ H ρ (upd H P (.dK [])) := Ext.new hP a.sto.tr
  have hw : ∀ b ∈ P :: ω, b ∈ ω ∨ H b = none := fun b h => by
    rcases List.mem_cons.mp h with z | z
    · exact .inr (by rw [z]; exact hP)
    · exact .inl z
  refine q σ _ _ ⟨P :: ω, ρ, sl, st, ⟨a.sto.hide hP, a.slo.go e0 hw⟩, ?_⟩
  unfold dDsp at h
  cases er : r sl st with
  | none => rw [er] at h; exact h.elim
  | some w =>
    obtain ⟨z, st'⟩ := w
    rw [er] at h
    cases z with
    | ex c x => exact h.elim
    | ok xs =>
      intro vs H' ρ' e s rv
      dsimp only at h
      by_cases hl : xs.length = ks.length
      case neg => rw [if_neg hl] at h; exact h.elim
      rw [if_pos hl] at h
      have hd : H' P = some (.dK []) := (e.hid P List.mem_cons_self).trans upd_same
      have lv : ks.length = vs.length := by rw [rv.length, hl]
      refine ⟨hd, ks.zip vs, zip_kv, by rw [List.length_zip, ← lv, Nat.min_self]; omega, ?_⟩
      have em : mergeK [] (ks.zip vs) = ks.zip vs := by
        rw [merge_new (by rw [List.map_fst_zip (by omega)]; exact hn) (fun _ _ => rfl)]
        rfl
      rw [em]
      have dl : upd (fun b => if b = P then none else H' b) P (.dK (ks.zip vs)) = upd H' P (.dK (ks.zip vs)) := by
        funext b
        by_cases z : b = P
        · subst z; rw [upd_same, upd_same]
        · rw [upd_ne z, upd_ne z, if_neg z]
      have e1 : Ext ω ρ H ρ' (fun b => if b = P then none else H' b) := by
        refine Ext.drop ⟨fun b o hb h1 h2 => ?_, fun b hb => (e.hid b (List.mem_cons_of_mem _ hb)).trans (upd_ne fun z => np.2 (by rw [← z]; exact hb)), fun b z => ?_, ?_⟩ hP np.2
        · have nb : b ≠ P := fun z => by rw [z, hP] at hb; cases hb
          exact e.keep b o ((upd_ne nb).trans hb) h1 fun z => by
            rcases List.mem_cons.mp z with z | z
            · exact nb z
            · exact h2 z
        · have := e.live b z
          by_cases nb : b = P
          · rw [nb]; exact hP
          · rwa [upd_ne nb] at this
        · obtain ⟨τ, rfl, nn⟩ := e.grow
          refine ⟨τ, rfl, fun b hb => ?_⟩
          have := nn b hb
          by_cases nb : b = P
          · rw [nb]; exact hP
          · rwa [upd_ne nb] at this
      have s1 : StoR X.K ω ρ' (fun b => if b = P then none else H' b) st' := s.del np.2
      have r1 : RpL X.K ω ρ' (fun b => if b = P then none else H' b) vs xs := rv.del
      have hp : (fun b => if b = P then none else H' b) P = none := if_pos rfl
      rw [← dl]
      cases al with
      | true =>
        have e2 : Ext ω ρ' (fun b => if b = P then none else H' b) (ρ' ++ [P]) (upd (fun b => if b = P then none else H' b) P (.dK (ks.zip vs))) := Ext.push hp s1.tr
        refine h (.ref P) _ (ρ' ++ [P]) (e1.trans e2) (s1.push hp (.dic upd_same lv (r1.ext e2))) (.ref ?_)
        rw [← s1.len, List.getElem?_append_right (Nat.le_refl _)]
        simp
      | false =>
        have e2 : Ext ω ρ' (fun b => if b = P then none else H' b) ρ' (upd (fun b => if b = P then none else H' b) P (.dK (ks.zip vs))) := Ext.new hp s1.tr
        exact h (.ref P) _ ρ' (e1.trans e2) (s1.new hp) (.dic upd_same lv (s1.fresh hp).1 (s1.fresh hp).2 (r1.ext e2))
/-- {} -/
def dNewD (al : Bool) : De D := fun _ st => match al with
  | true => some (.ok (.ref st.o.length), st.add (.dic [] []))
  | false => some (.ok (.dic [] []), st)
theorem d_newD {al : Bool} : PE X (.Dict [] [] pos) (tD X.K G W (dNewD al)) := PE.imp pe_dnewK fun σ H Q h => by
  obtain ⟨ω, ρ, sl, st, a, h⟩ := h
  intro p hp
  cases al with
  | true =>
    have e2 : Ext ω ρ H (ρ ++ [p]) (upd H p (.dK [])) := Ext.push hp a.sto.tr
    refine h (.ref p) _ (ρ ++ [p]) e2 (a.sto.push hp (.dic (vs := []) upd_same rfl .nil)) (.ref ?_)
    rw [← a.sto.len, List.getElem?_append_right (Nat.le_refl _)]
    simp
  | false => exact h (.ref p) _ ρ (Ext.new hp a.sto.tr) (a.sto.new hp) (.dic (vs := []) upd_same rfl (a.sto.fresh hp).1 (a.sto.fresh hp).2 .nil)
end
end Hb

set_option Elab.async false
set_option linter.all false
set_option maxRecDepth 100000
set_option maxHeartbeats 4000000
/-! Part U: enumerate over lists and tuples. -/
namespace Hb
open PySem PySem.Spec PyProof.Rows L2
/-- enumerate(v): what its __new__ does -/
theorem meets_enum1 {v : Value} {o : Obj} {F : Heap → Prop} (B : Begins v o F) :
    Meets (Builtin.«enumerate.__new__» ⟨[.type "enumerate", v], []⟩) (fun _ R s => F s.heap ∧ R (.ok (.ret (.ref (s.heap.push o).objs.size)))
      { s with heap := (s.heap.push o).push { cls := .type "enumerate", data := .fields #[.none, .bool false, .ref s.heap.objs.size, rawInt 0, .none, .none] } }) := .of_wp fun prog w A R s h => by
  obtain ⟨hp, g, d, tk, os⟩ := s
  obtain ⟨h1, h⟩ := h
  have hsub := sub_enumerate
  have q1 : ∀ {A' : Around} {E : Value → Shared → Prop} {Q : Value → Shared → Prop}, Q (.ref hp.objs.size) ⟨hp.push o, g, d, tk, os⟩ → wpAny (model prog w) A' (pyIter v) Q E ⟨hp, g, d, tk, os⟩ := fun q => B.iter prog w _ _ ⟨hp, g, d, tk, os⟩ _ h1 q
  wp_walk using q1
  refine wpAny_stack_any fun st => wpAny_pure ?_
  split
  · rename_i c _ _ _ _ _
    cases (c == Value.type "enumerate") <;> (wp_walk using q1; exact ⟨_, rfl, h⟩)
  · wp_walk using q1
    exact ⟨_, rfl, h⟩
theorem call_enum1 {prog : Program} {w : World} {A : Around} {E : Value → Shared → Prop} {s : Shared} {v : Value} {o : Obj} {G : Heap → Prop} {Q : Value → Shared → Prop} (B : Begins v o G) (h1 : G s.heap)
    (h : ∀ h', IsEnum h' (s.heap.objs.size + 1) s.heap.objs.size 0 .none → h'.get? s.heap.objs.size = some o → (∀ b o, s.heap.get? b = some o → h'.get? b = some o) → Q (.ref (s.heap.objs.size + 1)) { s with heap := h' }) :
    wpAny (model prog w) A (call (.type "enumerate") [v]) Q E s := by
  refine callType_new F.called_enumerate (by decide) (F.typeCall_enumerate_1 _) (F.newCall_enumerate_1 _) (fun obj => F.args_object_init_2 obj _) F.entry_enumerate_new (meets_enum1 B) ⟨h1, ?_⟩
  have hz : (s.heap.push o).objs.size = s.heap.objs.size + 1 := Heap.size_push ..
  show _ ∧ _
  rw [hz]
  have he : IsEnum ((s.heap.push o).push { cls := .type "enumerate", data := .fields #[.none, .bool false, .ref s.heap.objs.size, rawInt 0, .none, .none] }) (s.heap.objs.size + 1) s.heap.objs.size 0 .none := by
    have := Heap.get?_push_size (s.heap.push o) (o := { cls := .type "enumerate", data := .fields #[.none, .bool false, .ref s.heap.objs.size, rawInt 0, .none, .none] }) rfl
    rwa [hz] at this
  exact ⟨⟨_, he, rfl⟩, h _ he (Heap.get?_push_of_some _ (Heap.get?_push_size _ B.free)) fun b o x => Heap.get?_push_of_some _ (Heap.get?_push_of_some _ x)⟩
/-- a tuple's items, each with its number -/
def ItT (K : PySem.W.Frag) (a : Addr) : It :=
  ⟨fun i H => ∃ (xs : List V) (x : V), SqT K H a xs ∧ xs[i]? = some x, fun i H v H' => ∃ T x, v = .ref T ∧ H T = none ∧ H' = upd H T (.tup [.int (i : Nat), x]) ∧ ∀ xs, SqT K H a xs → xs[i]? = some x, fun i H => ∃ xs : List V, SqT K H a xs ∧ xs.length = i⟩
theorem apart_cls {h : Heap} {a b : Addr} {o u : Obj} {x y : String} (ha : h.get? a = some o) (hb : h.get? b = some u) (ca : o.cls = .type x) (cb : u.cls = .type y) (ne : x ≠ y) : a ≠ b := by
  rintro rfl
  rw [ha] at hb
  cases hb
  rw [ca] at cb
  cases cb
  exact ne rfl
theorem turn_enumT {P : Program} {w : World} {K : PySem.W.Frag} {elts : List Expr} {kk : Nat} {tpos : Pos} (a e it : Addr) :
    Turn P w K (.Tuple elts kk tpos) (ItT K a) [e, it] e (fun i h => (∃ old, IsEnum h e it ((i : Nat) : Int) old) ∧ h.IsTupleIter it a i ∧ e ≠ it) where
  mem := by simp
  obj := fun i h st b hb => by
    obtain ⟨⟨old, he⟩, ⟨o, ho, hc, hd⟩, _⟩ := st
    rcases (by simpa using hb : b = e ∨ b = it) with z | z
    · rw [z]; exact ⟨_, he, fun v q => nomatch q⟩
    · rw [z]; exact ⟨o, ho, fun v q => by rw [hd] at q; cases q⟩
  keep := fun i h h' st k => by
    obtain ⟨⟨old, he⟩, hi, hne⟩ := st
    exact ⟨⟨old, k e (by simp) _ he⟩, hi.at fun o q => k it (by simp) o q, hne⟩
  item := by
    intro X hP hw hK hc i pins s σ H E I hf st hg
    subst hP hw hK
    obtain ⟨⟨old, he⟩, hit, hne⟩ := st
    obtain ⟨xs, x, hq, hx⟩ := hg
    obtain ⟨its, rv, p, hz⟩ := I.tuple hq
    have p : s.heap.IsTuple a its.toArray := p
    obtain ⟨u, hu, ru⟩ := rv.get hx
    have hel : e < s.heap.objs.size := Heap.lt_size he
    have hil : it < s.heap.objs.size := by obtain ⟨_, q, _⟩ := hit; exact Heap.lt_size q
    have hai : a ≠ it := by
      obtain ⟨o1, g1, c1, _⟩ := p
      obtain ⟨o2, g2, c2, _⟩ := hit
      exact apart_cls g1 g2 c1 c2 (by decide)
    have hea : e ≠ a := by
      obtain ⟨o1, g1, c1, _⟩ := p
      exact apart_cls he g1 rfl c1 (by decide)
    have D := Draws.tuple (prog := X.prog) (w := X.w) (A := X.A.in1) (I.ok.hd hc) it a hai its.toArray
    have hlt : i < its.toArray.size := by
      have := (List.getElem?_eq_some_iff.mp hu).1
      simpa using this
    refine wpAny_pyNext_enum_itemD D he ⟨hit, p⟩ hlt hne (by simp [hne, hea]) fun x' h' tk hP ho hst' hT hsz hk => ?_
    obtain rfl : x' = u := by
      have h1 : its[i]? = some x' := by simpa using hP
      rw [hu] at h1
      exact (Option.some.inj h1).symm
    refine ⟨_, rfl, wpAny_letOwnedTupleGo_enum (s := { s with heap := h', toks := tk + 1 }) ho fun h'' he' sb => ?_⟩
    have hT2 : h''.get? s.heap.objs.size = some { cls := .type "tuple", data := .seq #[.int i tk, x'] } := (sb.2 _ (Nat.ne_of_gt hel)).trans hT
    have new : ObjOk X.prog X.w (upd H s.heap.objs.size (.tup [.int (i : Nat), x])) h'' s.heap.objs.size (.tup [.int (i : Nat), x]) := ⟨by show 2 ≤ sizeLine; decide, [.int i tk, x'], .cons ⟨_, rfl⟩ (.cons ru .nil), ⟨_, hT2, rfl, _, rfl⟩⟩
    have I1 : Inv X pins σ (upd H s.heap.objs.size (.tup [.int (i : Nat), x])) { s with heap := h'', toks := tk + 1 } :=
      I.turnedNew (ch := [e, it]) (fun b ob hb q => (sb.2 b (fun z => hb (by simp [z]))).trans (hk b ob (fun z => hb (by simp [z])) (fun z => hb (by simp [z])) q)) hf (Nat.le_refl _) new
    refine ⟨.ref s.heap.objs.size, _, I1, rfl, ⟨_, x, rfl, I.hok.fresh (Nat.le_refl _), rfl, fun ys hy => by rw [I.tuple_inj hy hq]; exact hx⟩, ⟨⟨x', ?_⟩, hst'.1.at fun o q => (sb.2 it (Ne.symm hne)).trans q, hne⟩, fun b hb => ?_⟩
    · have e1 : ((i + 1 : Nat) : Int) = (i : Int) + 1 := by omega
      rw [e1]; exact he'
    · have hb' : b < s.heap.objs.size := by
        rcases (by simpa using hb : b = e ∨ b = it) with z | z
        · rw [z]; exact hel
        · rw [z]; exact hil
      rw [upd_ne (Nat.ne_of_lt hb')]
      exact (hf b hb).1
  done := by
    intro X hP hw hK hc i pins s σ H E I hf st hg
    subst hP hw hK
    obtain ⟨⟨old, he⟩, hit, hne⟩ := st
    obtain ⟨xs, hq, hx⟩ := hg
    obtain ⟨its, rv, p, hz⟩ := I.tuple hq
    have p : s.heap.IsTuple a its.toArray := p
    obtain ⟨f0, f1, f2, f3, f4, f5⟩ := hf it (by simp)
    have hai : a ≠ it := by
      obtain ⟨o1, g1, c1, _⟩ := p
      obtain ⟨o2, g2, c2, _⟩ := hit
      exact apart_cls g1 g2 c1 c2 (by decide)
    have D := Draws.tuple (prog := X.prog) (w := X.w) (A := X.A.in1) (I.ok.hd hc) it a hai its.toArray
    have en : i = its.toArray.size := by
      rw [← hx, rv.length]
      simp
    subst en
    exact wpAny_pyNext_enum_endD D he ⟨hit, p⟩ fun h' eb => ⟨rfl, I.turned (t' := s.toks) (fun b o hb q => eb b o hb q) f0 f1 f3 f4 f5⟩
  self := fun A i s Q E st h => let ⟨⟨_, he⟩, _⟩ := st; wpAny_pyIter_enum he h
/-- (0, x), (1, y), .. -/
def numb : Nat → List D → List D
  | _, [] => []
  | i, x :: r => .tup [.int (i : Nat), x] :: numb (i + 1) r
theorem numb_at : ∀ {xs : List D} {k i : Nat} {d : D}, (numb k xs)[i]? = some d → ∃ x, xs[i]? = some x ∧ d = .tup [.int ((k + i : Nat)), x]
  | [], _, _, _, h => by simp [numb] at h
  | x :: r, k, 0, d, h => by
    simp [numb] at h
    exact ⟨x, rfl, h.symm⟩
  | x :: r, k, i + 1, d, h => by
    obtain ⟨y, h1, h2⟩ := numb_at (xs := r) (k := k + 1) (i := i) (by simpa [numb] using h)
    exact ⟨y, by simpa using h1, by rw [h2]; congr 4; omega⟩
theorem numb_len : ∀ {xs : List D} {k : Nat}, (numb k xs).length = xs.length
  | [], _ => rfl
  | _ :: r, k => congrArg Nat.succ (numb_len (xs := r) (k := k + 1))
theorem wk_enum {K : PySem.W.Frag} {ω ρ : List Addr} {H : Hp} {a : Addr} {vs : List V} {xs : List D} {g : Sto → Bool} {J : It} {sq : Hp → List V → Prop}
    (hJ : ∀ i H v H', J.yld i H v H' → ∃ T x, v = .ref T ∧ H T = none ∧ H' = upd H T (.tup [.int (i : Nat), x]) ∧ ∀ ys, sq H ys → ys[i]? = some x) (hg : ∀ i H ys x, sq H ys → ys[i]? = some x → J.go i H) (hs : ∀ i H ys, sq H ys → ys.length = i → J.stop i H)
    (h : ∀ ω2 ρ2 H2 st2, Ext ω ρ H ρ2 H2 → (∀ b ∈ ω2, b ∈ ω ∨ H b = none) → StoR K ω2 ρ2 H2 st2 → g st2 = true → ∃ vs2, sq H2 vs2 ∧ RpL K ω2 ρ2 H2 vs2 xs) : Wk K ω ρ H J (numb 0 xs, g) := by
  intro ω2 ρ2 H2 st2 e hw s hgd
  obtain ⟨vs2, q2, r2⟩ := h ω2 ρ2 H2 st2 e hw s hgd
  refine ⟨fun i d hd => ?_, hs _ _ vs2 q2 (by rw [r2.length]; exact numb_len.symm)⟩
  obtain ⟨x, hx, rfl⟩ := numb_at hd
  obtain ⟨v, hv, rv⟩ := r2.get hx
  refine ⟨hg i H2 vs2 v q2 hv, fun u H3 y => ?_⟩
  obtain ⟨T, x', rfl, hT, rfl, hy⟩ := hJ i H2 u H3 y
  have ex := hy vs2 q2
  rw [hv] at ex
  cases ex
  have e3 : Ext ω2 ρ2 H2 ρ2 (upd H2 T (.tup [.int (i : Nat), v])) := Ext.new hT s.tr
  refine ⟨e3, s.new hT, .tup (.inl upd_same) (s.fresh hT).1 (s.fresh hT).2 (.cons ?_ (.cons (rv.ext e3) .nil))⟩
  rw [Nat.zero_add]
  exact .int _
/-- enumerate(x): x a list or a tuple -/
def enuOf : List D → Sto → Option Hb.Its
  | [d], st => match d with
    | .tup xs => some (numb 0 xs, fun _ => true)
    | .lst xs => some (numb 0 xs, fun _ => true)
    | .scr xs => some (numb 0 xs, fun _ => true)
    | .ref l => match st.o[l]? with
      | some (.lst xs) => some (numb 0 xs, stands l xs)
      | _ => none
    | _ => none
  | _, _ => none
theorem i_enu {X : Cx} {G : Gd} {W : WX} {e : Expr} {p pos tpos : Pos} {elts : List Expr} {kk : Nat} {r : De (List D)} (hg : Gl X "enumerate") (hm : X.mg "enumerate" = none) (ha : PA X [e] (tAs X.K G W r)) (hs : starEach [e] X.env = [(false, eval e X.env)]) :
    PI X (.Tuple elts kk tpos) (.Call (.Name "enumerate" p) [e] [] pos) (tI X.K G W (r.bnd fun xs => De.of (enuOf xs))) := by
  refine ⟨fun pins s σ H R I h => ?_⟩
  obtain ⟨ω, ρ, sl, st, a, h⟩ := h
  refine Call_ (ld_blt I hg hm boot_enumerate (PyProof.Rows.callWith_type1 (thn (ha.run pos pins s σ H _ I (split a h)) fun us s1 ⟨vs, H1, I1, rv, x, ρ1, st1, E1, e1, a1, r1, h1⟩ => ?_) hs rfl))
  obtain ⟨it, eo, q⟩ := h1.of
  -- a list
  have lst : ∀ {c : Addr} {ws : List V} {u : Value}, RelV (.ref c) u → us = [u] → SqL X.K H1 c ws → R (Ite X.K c) H1 → wpAny (model X.prog X.w) X.A (call (.type "enumerate") us) (fun v s2 => wpAny (model X.prog X.w) X.A (pyIter v) (PIE X pins σ (.Tuple elts kk tpos) R) X.xe s2) X.xe s1 := fun {c ws u} ru eu hq q => by
    subst eu
    obtain rfl : u = Value.ref c := ru
    obtain ⟨its, rv, p', hz⟩ := I1.list hq
    refine call_enumerate_list p'.isList fun h' he hit hsz hk => wpAny_pyIter_enum he ?_
    refine ⟨s1.heap.objs.size + 1, [s1.heap.objs.size + 1, s1.heap.objs.size], _, _, H1, rfl, I1.kept (t' := s1.toks) hk, turn_enum c (s1.heap.objs.size + 1) s1.heap.objs.size, ⟨⟨.none, he⟩, hit, Nat.succ_ne_self _⟩, fun b hb => ?_, q⟩
    have hle : s1.heap.objs.size ≤ b := by
      rcases (by simpa using hb : b = s1.heap.objs.size + 1 ∨ b = s1.heap.objs.size) with z | z
      · rw [z]; exact Nat.le_add_right _ _
      · rw [z]; exact Nat.le_refl _
    exact I1.fpOk hle (I1.hok.fresh hle)
  have tup : ∀ {c : Addr} {ws : List V} {u : Value}, RelV (.ref c) u → us = [u] → SqT X.K H1 c ws → R (ItT X.K c) H1 → wpAny (model X.prog X.w) X.A (call (.type "enumerate") us) (fun v s2 => wpAny (model X.prog X.w) X.A (pyIter v) (PIE X pins σ (.Tuple elts kk tpos) R) X.xe s2) X.xe s1 := fun {c ws u} ru eu hq q => by
    subst eu
    obtain rfl : u = Value.ref c := ru
    obtain ⟨its, rv, p', hz⟩ := I1.tuple hq
    refine call_enum1 (begins_tuple c its.toArray) p' fun h' he hit hk => wpAny_pyIter_enum he ?_
    refine ⟨s1.heap.objs.size + 1, [s1.heap.objs.size + 1, s1.heap.objs.size], _, _, H1, rfl, I1.kept (t' := s1.toks) hk, turn_enumT c (s1.heap.objs.size + 1) s1.heap.objs.size, ⟨⟨.none, he⟩, ⟨_, hit, rfl, rfl⟩, Nat.succ_ne_self _⟩, fun b hb => ?_, q⟩
    have hle : s1.heap.objs.size ≤ b := by
      rcases (by simpa using hb : b = s1.heap.objs.size + 1 ∨ b = s1.heap.objs.size) with z | z
      · rw [z]; exact Nat.le_add_right _ _
      · rw [z]; exact Nat.le_refl _
    exact I1.fpOk hle (I1.hok.fresh hle)
  have wl : ∀ {c : Addr} {xs : List D} {g : Sto → Bool}, (∀ ω2 ρ2 H2 st2, Ext ω ρ1 H1 ρ2 H2 → (∀ b ∈ ω2, b ∈ ω ∨ H1 b = none) → StoR X.K ω2 ρ2 H2 st2 → g st2 = true → ∃ vs2, SqL X.K H2 c vs2 ∧ RpL X.K ω2 ρ2 H2 vs2 xs) → Wk X.K ω ρ1 H1 (Ite X.K c) (numb 0 xs, g) := fun {c xs g} h =>
    wk_enum (sq := fun H2 ys => SqL X.K H2 c ys) (vs := []) (a := c) (fun _ _ _ _ y => y) (fun i H2 ys x q e => ⟨ys, x, q, e⟩) (fun i H2 ys q e => ⟨ys, q, Nat.le_of_eq e⟩) h
  have wt : ∀ {c : Addr} {xs : List D} {g : Sto → Bool}, (∀ ω2 ρ2 H2 st2, Ext ω ρ1 H1 ρ2 H2 → (∀ b ∈ ω2, b ∈ ω ∨ H1 b = none) → StoR X.K ω2 ρ2 H2 st2 → g st2 = true → ∃ vs2, SqT X.K H2 c vs2 ∧ RpL X.K ω2 ρ2 H2 vs2 xs) → Wk X.K ω ρ1 H1 (ItT X.K c) (numb 0 xs, g) := fun {c xs g} h =>
    wk_enum (sq := fun H2 ys => SqT X.K H2 c ys) (vs := []) (a := c) (fun _ _ _ _ y => y) (fun i H2 ys x q e => ⟨ys, x, q, e⟩) (fun i H2 ys q e => ⟨ys, q, e⟩) h
  match x, eo, r1 with
  | [d], eo, r1 =>
    cases r1 with
    | @cons v vs' _ _ rd rt =>
      cases rt
      cases rv with
      | @cons _ u _ us' ru rn =>
        cases rn
        cases rd with
        | tup g1 g2 g3 t =>
          cases eo
          exact tup ru rfl (.inl g1) (q _ H1 ρ1 .refl a1.sto (wt fun ω2 ρ2 H2 st2 e hw s _ => ⟨_, .inl (e.rd g1 g2 g3).1, t.go e hw⟩))
        | tupK g t =>
          cases eo
          exact tup ru rfl (g H1) (q _ H1 ρ1 .refl a1.sto (wt fun ω2 ρ2 H2 st2 e hw s _ => ⟨_, g H2, t.go e hw⟩))
        | lst g1 g2 g3 t =>
          cases eo
          exact lst ru rfl (.of g1) (q _ H1 ρ1 .refl a1.sto (wl fun ω2 ρ2 H2 st2 e hw s _ => ⟨_, .of (e.keep _ _ g1 g2 g3), t.go e hw⟩))
        | scr g1 g2 g3 t =>
          cases eo
          exact lst ru rfl (.inl (.inr ⟨_, g1⟩)) (q _ H1 ρ1 .refl a1.sto (wl fun ω2 ρ2 H2 st2 e hw s _ => ⟨_, .inl (.inr ⟨_, e.keep _ _ g1 g2 g3⟩), t.go e hw⟩))
        | scrK g t =>
          cases eo
          exact lst ru rfl (g H1) (q _ H1 ρ1 .refl a1.sto (wl fun ω2 ρ2 H2 st2 e hw s _ => ⟨_, g H2, t.go e hw⟩))
        | @ref c l h =>
          have e' : (match st1.o[l]? with
            | some (.lst xs) => some (numb 0 xs, stands l xs)
            | _ => none) = some it := eo
          split at e'
          · next xs ex =>
            cases e'
            cases a1.sto.obj l _ c ex h with
            | lst h1 t =>
              refine lst ru rfl (.of h1) (q _ H1 ρ1 .refl a1.sto (wl fun ω2 ρ2 H2 st2 e hw s hst => ?_))
              cases s.obj l _ c (stands_ok hst) (e.at h) with
              | lst h3 t3 => exact ⟨_, .of h3, t3⟩
          · cases e'
        | _ => cases eo
  | [], eo, _ => cases eo
  | _ :: _ :: _, eo, _ => cases eo
end Hb

set_option Elab.async false
set_option linter.all false
set_option maxRecDepth 100000
set_option maxHeartbeats 4000000
/-! Part L: expressions as data, what they compute, when they stand for the program's own. -/
namespace Hb
open PySem PySem.Spec L2
inductive Op2 where
  | add | sub | mul | fdv | mod | pow
  deriving DecidableEq
def Op2.op : Op2 → Operator
  | .add => .Add | .sub => .Sub | .mul => .Mult | .fdv => .FloorDiv | .mod => .Mod | .pow => .Pow
def Op2.f : Op2 → D → D → Sto → Option D
  | .add => fAdd | .sub => fSub | .mul => fMul | .fdv => fFdv | .mod => fMod | .pow => fPow
theorem Op2.ok {X : Cx} (o : Op2) : OpR X (binaryOp o.op) (rV2 X.K o.f) := by
  cases o
  · exact o_add
  · exact o_sub
  · exact o_mul
  · exact o_fdv
  · exact o_mod
  · exact o_pow
inductive Cp2 where
  | eq | ne | lt | le | gt | ge | is | isn | inn | nin
  deriving DecidableEq
def Cp2.op : Cp2 → CmpOp
  | .eq => .Eq | .ne => .NotEq | .lt => .Lt | .le => .LtE | .gt => .Gt | .ge => .GtE | .is => .Is | .isn => .IsNot | .inn => .In | .nin => .NotIn
def Cp2.f : Cp2 → D → D → Sto → Option D
  | .eq => fEq | .ne => fNe | .lt => fLt | .le => fLe | .gt => fGt | .ge => fGe | .is => fIs | .isn => fIsN | .inn => fInD | .nin => fNinD
theorem Cp2.ok {X : Cx} (hu : X.A.units + 1 + 64 < cLine) (o : Cp2) : OpR X (compareOp o.op) (rV2 X.K o.f) := by
  cases o
  · exact o_eq (by omega)
  · exact o_ne (by omega)
  · exact o_lt
  · exact o_le
  · exact o_gt
  · exact o_ge
  · exact o_is
  · exact o_isn
  · exact o_inD hu
  · exact o_ninD hu
/-- builtins that are called by values -/
inductive Bi where
  | len | int | min | max | sum | all | any | tuple
  deriving DecidableEq
def Bi.name : Bi → Str
  | .len => "len" | .int => "int" | .min => "min" | .max => "max" | .sum => "sum" | .all => "all" | .any => "any" | .tuple => "tuple"
def Bi.f : Bi → List D → Sto → Option D
  | .len => fLen | .int => fInt | .min => fMin2 | .max => fMax2 | .sum => fSum | .all => fAll | .any => fAny | .tuple => fTuple
/-- what an expression is: a value's, a row of arguments, a maker of a new list, an iterable, a bound of a slice -/
inductive E where
  | v (i : Nat) | c (d : D) | g (n : Nat)
  | bin (o : Op2) (a b : E) | cmp (o : Cp2) (a b : E) | ix (a b : E) | neg (a : E) | not (a : E)
  | ite (c a b : E) | andv (r : E) | orv (r : E)
  | nil | cons (a r : E) | one (a : E) | val (a : E)
  | tup (r : E) | frz (n : E) | alc (n : E) | disp (r : E) | lis (r : E) | comp (vs : List Nat) (t : Tg) (it ifs e : E)
  | blt (b : Bi) (r : E) | call (k : Nat) (r : E) | meth (m : Mn) (o r : E)
  | sl (e lo hi : E) | non_ | some_ (e : E)
  | isi (e : E) (t : TN) | isi2 (e : E) (t u : TN) | rng (r : E)
  | dsp (al : Bool) (ks : List Key) (r : E) | newd (al : Bool) | enu (r : E)
/-- what a program's names stand for -/
structure Tb where
  fns : List Str
  nb : List Str
  gc : List (Str × D)
  cls : List Str
  xcs : List Nat
  sub : Nat → Nat → Bool
abbrev No {α : Type} : De α := fun _ _ => none
section
variable (tb : Tb) (call : Nat → Cl)
def dBnd1 (d : De D) (f : D → Sto → Option D) : De D := d.bnd fun x => De.of (f x)
def dBnd2 (da db : De D) (f : D → D → Sto → Option D) : De D := da.bnd fun x => db.bnd fun y => De.of (f x y)
def dGc (n : Nat) : De D := match tb.gc[n]? with
  | some p => De.ret p.2
  | none => No
mutual
def evE : E → De D
  | .v i => dVar i
  | .c d => De.ret d
  | .g n => dGc tb n
  | .bin o a b => dBnd2 (evE a) (evE b) o.f
  | .cmp o a b => dBnd2 (evE a) (evE b) o.f
  | .ix a b => dBnd2 (evE a) (evE b) fIxD
  | .neg a => dBnd1 (evE a) fNeg
  | .not a => (evE a).bnd fun x => De.of fun st => (tru x st).map fun k => .bl (!k)
  | .ite c a b => dIf (evT c) (evE a) (evE b)
  | .andv r => evAnd r
  | .orv r => evOr r
  | .tup r => (evA r).bnd fun xs => De.ret (.tup xs)
  | .frz n => De.frz (evN n)
  | .alc n => De.alc (evN n)
  | .blt b r => (evA r).bnd fun xs => De.of (b.f xs)
  | .call k r => (evA r).bnd fun xs _ st => call k xs st
  | .meth m o r => dMeth (evE o) m.mk (evA r) m.g
  | .sl e lo hi => (evE e).bnd fun x => (evO lo).bnd fun l => (evO hi).bnd fun u => De.of (fSl x l u)
  | .isi e t => dBnd1 (evE e) (fIsi t)
  | .isi2 e t u => dBnd1 (evE e) (fIsi2 t u)
  | .dsp al ks r => dDsp al ks (evA r)
  | .newd al => dNewD al
  | _ => No
def evAnd : E → De D
  | .one a => evE a
  | .cons a r => dAnd (evE a) (evAnd r)
  | _ => No
def evOr : E → De D
  | .one a => evE a
  | .cons a r => dOr (evE a) (evOr r)
  | _ => No
def evT : E → De Bool
  | .val a => (evE a).bnd fun x => De.of (tru x)
  | .cmp o a b => (evE a).bnd fun x => (evE b).bnd fun y => De.of fun st => (o.f x y st).bind asB
  | .not a => (evT a).bnd fun k => De.ret (!k)
  | .andv r => evTAnd r
  | .orv r => evTOr r
  | _ => No
def evTAnd : E → De Bool
  | .one a => evT a
  | .cons a r => dIf (evT a) (evTAnd r) (De.ret false)
  | _ => No
def evTOr : E → De Bool
  | .one a => evT a
  | .cons a r => dIf (evT a) (De.ret true) (evTOr r)
  | _ => No
def evA : E → De (List D)
  | .nil => De.ret []
  | .cons a r => De.cons (evE a) (evA r)
  | _ => No
def evN : E → De (List D)
  | .disp r => evA r
  | .lis r => (evA r).bnd fun xs => De.of (fList xs)
  | .comp vs t it ifs e => dComp vs (evI it) t (evIf ifs) (evE e)
  | _ => No
def evIf : E → De Bool
  | .nil => De.ret true
  | .one a => evT a
  | _ => No
def evI : E → De Its
  | .rng r => (evA r).bnd fun xs => De.of (rngOf xs)
  | .enu r => (evA r).bnd fun xs => De.of (enuOf xs)
  | .one e => (evE e).bnd fun x => De.of (itemsOf x)
  | _ => No
def evO : E → De (Option Int)
  | .non_ => De.ret none
  | .some_ e => (evE e).bnd fun x => De.of fun _ => (asI x).map some
  | _ => No
end
end
def E.cnt : E → Nat
  | .cons _ r => r.cnt + 1
  | _ => 0

/-! ### the check -/
structure Ck where
  tb : Tb
  N : List Str
  sc : Scope
  cl : List Str
def Ck.lk (ck : Ck) (x : Str) : Option NameKind := ck.sc.names.lookup x
def okName (x : Str) : Bool := (x == ("__debug__" : Str)) == false && (x == ("__classdict__" : Str)) == false
def visB (ck : Ck) (x : Str) (i : Nat) : Bool := decide (ck.N[i]? = some x) && (match ck.lk x with
  | some .local => true
  | some .cell => true
  | some .free => true
  | _ => false) && okName x
def glB (ck : Ck) (x : Str) : Bool := decide (ck.lk x = some .globalImplicit) && okName x
def tgB (ck : Ck) (x : Str) (i : Nat) : Bool := decide (ck.N[i]? = some x) && (match ck.lk x with
  | some .local => true
  | some .cell => decide (x ∈ ck.cl)
  | _ => false)
def notStar : Expr → Bool
  | .Starred _ _ => false
  | _ => true
def plainT : Expr → Bool
  | .UnaryOp .Not _ _ => false
  | .BoolOp _ _ _ => false
  | .IfExp _ _ _ _ => false
  | .Compare _ _ _ _ => false
  | _ => true
def notSlice : Expr → Bool
  | .Slice _ _ _ _ => false
  | _ => true
def notSet : Expr → Bool
  | .Set _ _ _ => false
  | _ => true
def baseB : Expr → Bool
  | .Call _ _ _ _ => false
  | _ => true
/-- a call of a name, no keywords -/
def asCall : Expr → Option (Str × List Expr)
  | .Call (.Name x _) es [] _ => some (x, es)
  | _ => none
/-- a call of a method, no keywords -/
def asMeth : Expr → Option (Expr × Str × Pos × List Expr × Pos)
  | .Call (.Attribute o m apos) es [] cpos => some (o, m, apos, es, cpos)
  | _ => none
def asComp : Expr → Option (Expr × Expr × Expr × List Expr × Int × Scope)
  | .ListComp elt [⟨tg, iter, ifs, ia⟩] scope _ => some (elt, tg, iter, ifs, ia, scope)
  | _ => none
def asCmp : Expr → Option (Expr × CmpOp × Expr)
  | .Compare a [op] [b] _ => some (a, op, b)
  | _ => none
def asSl : Expr → Option (Expr × Option Expr × Option Expr)
  | .Subscript e (.Slice lo hi none _) _ => some (e, lo, hi)
  | _ => none
def asNm : Expr → Option Str
  | .Name x _ => some x
  | _ => none
def asTup2 : Expr → Option (Str × Str)
  | .Tuple [.Name x _, .Name y _] _ _ => some (x, y)
  | _ => none
/-- a scalar constant -/
def cst : Const → D → Bool
  | .none, .non => true
  | .bool b, .bl c => b == c
  | .int i, .int j => decide (i = j)
  | .str x, .str y => decide (x = y)
  | _, _ => false
def keyC : Const → Key → Bool
  | .int i, .inl j => decide (i = j)
  | .str x, .inr y => decide (x = y)
  | _, _ => false
def keysB : List Key → List (Option Expr) → Bool
  | [], [] => true
  | k :: ks, some (.Constant c _ _) :: es => keyC c k && keysB ks es
  | _, _ => false
def isTup : Expr → Bool
  | .Tuple _ _ _ => true
  | _ => false
def chGs (ck : Ck) : List Nat → List Expr → Bool
  | [], [] => true
  | i :: is, .Name x _ :: es => tgB ck x i && chGs ck is es
  | _, _ => false
def chG (ck : Ck) : Tg → Expr → Bool
  | .nm i, .Name x _ => tgB ck x i
  | .tp is, .Tuple es _ _ => chGs ck is es
  | _, _ => false
def relab (sc scope : Scope) : Scope := { scope with names := scope.names.map fun (n, k) => if (k == NameKind.free && sc.kind == .function && sc.names.lookup n == some .cell) then (n, NameKind.cell) else (n, k) }
def cells (sc : Scope) : List Str := (sc.names.filter fun p => sc.names.lookup p.1 == some .cell).map (·.1)
def Ck.blk (ck : Ck) (scope : Scope) : Ck := { ck with sc := relab ck.sc scope, cl := cells scope }
def Ck.own (ck : Ck) (vs : List Nat) : List (Str × Nat) := vs.map fun i => ((ck.N[i]?).getD "", i)
def tyB (ck : Ck) (t : TN) (x : Str) : Bool := glB ck x && decide (x ∈ ck.tb.nb) && decide (x = t.name) && (t != .non)
def nbB (ck : Ck) (x : Str) : Bool := glB ck x && decide (x ∈ ck.tb.nb)
mutual
def chE (ck : Ck) : E → Expr → Bool
  | .v i, e => (match e with
    | .Name x _ => visB ck x i
    | _ => false)
  | .c d, e => (match e with
    | .Constant k _ _ => cst k d
    | _ => false)
  | .g n, e => (match e with
    | .Name x _ => glB ck x && (match ck.tb.gc[n]? with
      | some p => decide (p.1 = x)
      | none => false)
    | _ => false)
  | .bin o a b, e => (match e with
    | .BinOp l op r _ => decide (op = o.op) && chE ck a l && chE ck b r
    | _ => false)
  | .cmp o a b, e => (match asCmp e with
    | some (l, op, r) => decide (op = o.op) && !(behindInMarks op r) && chE ck a l && chE ck b r
    | _ => false)
  | .ix a b, e => (match e with
    | .Subscript l r _ => notSlice r && chE ck a l && chE ck b r
    | _ => false)
  | .neg a, e => (match e with
    | .UnaryOp op l _ => decide (op = .USub) && chE ck a l
    | _ => false)
  | .not a, e => (match e with
    | .UnaryOp op l _ => decide (op = .Not) && chE ck a l
    | _ => false)
  | .ite c a b, e => (match e with
    | .IfExp t l r _ => chT ck c t && chE ck a l && chE ck b r
    | _ => false)
  | .andv r, e => (match e with
    | .BoolOp op es _ => decide (op = .And) && chAnd ck r es
    | _ => false)
  | .orv r, e => (match e with
    | .BoolOp op es _ => decide (op = .Or) && chAnd ck r es
    | _ => false)
  | .tup r, e => (match e with
    | .Tuple es _ _ => decide (r.cnt ≤ 1000) && chA ck r es
    | _ => false)
  | .frz n, e => chN ck n e
  | .alc n, e => chN ck n e
  | .blt b r, e => (match asCall e with
    | some (x, es) => decide (x = b.name) && nbB ck x && !es.isEmpty && chA ck r es
    | none => false)
  | .call k r, e => (match asCall e with
    | some (x, es) => decide (ck.tb.fns[k]? = some x) && glB ck x && chA ck r es
    | none => false)
  | .meth m o r, e => (match asMeth e with
    | some (l, nm, apos, es, cpos) => decide (nm = m.name) && baseB l && decide (es.length < 25) && (apos.endLine == cpos.line) && chE ck o l && chA ck r es
    | none => false)
  | .sl x lo hi, e => (match asSl e with
    | some (l, a, b) => chE ck x l && chO ck lo a && chO ck hi b
    | none => false)
  | .isi a t, e => (match asCall e with
    | some (x, [l, r]) => decide (x = ("isinstance" : Str)) && nbB ck x && notStar l && chE ck a l && (match asNm r with
      | some y => tyB ck t y
      | none => false)
    | _ => false)
  | .isi2 a t u, e => (match asCall e with
    | some (x, [l, r]) => decide (x = ("isinstance" : Str)) && nbB ck x && notStar l && chE ck a l && (match asTup2 r with
      | some (y, z) => tyB ck t y && tyB ck u z
      | none => false)
    | _ => false)
  | .dsp _ ks r, e => (match e with
    | .Dict keys vals _ => !ks.isEmpty && decide (ks.length = r.cnt) && decide (ks.length ≤ 15) && decide ks.Nodup && keysB ks keys && chA ck r vals
    | _ => false)
  | .newd _, e => (match e with
    | .Dict keys vals _ => keys.isEmpty && vals.isEmpty
    | _ => false)
  | _, _ => false
def chAnd (ck : Ck) : E → List Expr → Bool
  | .one a, es => (match es with
    | [e] => chE ck a e
    | _ => false)
  | .cons a r, es => (match es with
    | e :: es => !es.isEmpty && chE ck a e && chAnd ck r es
    | _ => false)
  | _, _ => false
def chT (ck : Ck) : E → Expr → Bool
  | .cmp o a b, e => (match asCmp e with
    | some (l, op, r) => decide (op = o.op) && !(behindInMarks op r) && chE ck a l && chE ck b r
    | _ => false)
  | .not a, e => (match e with
    | .UnaryOp op l _ => decide (op = .Not) && chT ck a l
    | _ => false)
  | .andv r, e => (match e with
    | .BoolOp op es _ => decide (op = .And) && chTs ck r es
    | _ => false)
  | .orv r, e => (match e with
    | .BoolOp op es _ => decide (op = .Or) && chTs ck r es
    | _ => false)
  | .val a, e => plainT e && chE ck a e
  | _, _ => false
def chTs (ck : Ck) : E → List Expr → Bool
  | .one a, es => (match es with
    | [e] => chT ck a e
    | _ => false)
  | .cons a r, es => (match es with
    | e :: es => !es.isEmpty && chT ck a e && chTs ck r es
    | _ => false)
  | _, _ => false
def chA (ck : Ck) : E → List Expr → Bool
  | .nil, es => es.isEmpty
  | .cons a r, es => (match es with
    | e :: es => notStar e && chE ck a e && chA ck r es
    | _ => false)
  | _, _ => false
def chN (ck : Ck) : E → Expr → Bool
  | .disp r, e => (match e with
    | .List es _ => decide (r.cnt ≤ 1000) && chA ck r es
    | _ => false)
  | .lis r, e => (match asCall e with
    | some (x, es) => decide (x = ("list" : Str)) && nbB ck x && !es.isEmpty && chA ck r es
    | none => false)
  | .comp vs t it ifs x, e => (match asComp e with
    | some (elt, tg, iter, tests, ia, scope) => decide (ia = 0) && notSet iter && blkC ck.N ck.sc scope (ck.own vs) && decide (∀ i ∈ t.sl, i ∈ vs) &&
        chI ck it tg iter && chG (ck.blk scope) t tg && chIf (ck.blk scope) ifs tests && chE (ck.blk scope) x elt
    | none => false)
  | _, _ => false
def chIf (ck : Ck) : E → List Expr → Bool
  | .nil, es => es.isEmpty
  | .one a, es => (match es with
    | [e] => chT ck a e
    | _ => false)
  | _, _ => false
def chI (ck : Ck) : E → Expr → Expr → Bool
  | .enu r, tg, e => (match asCall e with
    | some (x, es) => decide (x = ("enumerate" : Str)) && nbB ck x && isTup tg && decide (es.length = 1) && chA ck r es
    | none => false)
  | .rng r, _, e => (match asCall e with
    | some (x, es) => decide (x = ("range" : Str)) && nbB ck x && decide (r.cnt = es.length) && (es.length == 1 || es.length == 2) && chA ck r es
    | none => false)
  | .one a, _, e => chE ck a e
  | _, _, _ => false
def chO (ck : Ck) : E → Option Expr → Bool
  | .non_, o => o.isNone
  | .some_ a, o => (match o with
    | some e => chE ck a e
    | none => false)
  | _, _ => false
end
end Hb

set_option Elab.async false
set_option linter.all false
set_option maxRecDepth 100000
set_option maxHeartbeats 4000000
/-! Part M: the check is sound for expressions. -/
namespace Hb
open PySem PySem.Spec L2
/-- the module's facts, by the tables -/
structure Gb (P : Program) (w : World) (K : PySem.W.Frag) (mg : Str → Option Value) (base : Heap) (G : Gd) (tb : Tb) (n : Nat) (call : Nat → Cl) : Prop where
  nb : ∀ x ∈ tb.nb, mg x = none
  gc : ∀ p ∈ tb.gc, ∃ (v : V) (u : Value), mg p.1 = some u ∧ RelV v u ∧ ∀ ω ρ H, Rp K ω ρ H v p.2
  fs : ∀ k x, tb.fns[k]? = some x → ∃ f fd ps, FnOk P w K mg base (L2.CX P w) n f fd ps (spD K G (call k)) ∧ mg x = some (.ref f) ∧ PySem.W.keepIn K (.ref f) = true ∧ Binds K fd ps []
  cl : ∀ k x, tb.cls[k]? = some x → mg x = some (.ref (G.cad k))
  xc : ∀ k ∈ tb.xcs, ∀ x, tb.cls[k]? = some x → XcC P w K mg base x (G.cad k) (G.cfl k)
  sub : ∀ c k, k < tb.cls.length → PySem.W.exmOne K (.ref (G.cad c)) (.ref (G.cad k)) = some (tb.sub c k)
  xf : ∀ c, XfC K (G.cad c)
  nf : ∀ c, PySem.W.findIn K (.ref (G.cad c)) (G.cfl c) = some none
structure Fx (G : Gd) (n : Nat) (call : Nat → Cl) (ck : Ck) (X : Cx) (W : WX) : Prop where
  gb : Gb X.prog X.w X.K X.mg X.base G ck.tb n call
  N : X.N = ck.N
  nd : X.N.Nodup
  sc : X.env.scope = ck.sc
  calm : X.calm = true
  fn : ∀ x ∈ ck.cl, X.fn x = true
  tk : Takes X W
  rm : Room n X.A
section
variable {G : Gd} {n : Nat} {call : Nat → Cl} {ck : Ck} {X : Cx} {W : WX}
theorem Fx.hu (F : Fx G n call ck X W) : X.A.units + 1 + 64 < cLine := by have := F.rm.un; omega
theorem band {a b : Bool} (h : (a && b) = true) : a = true ∧ b = true := by simpa using h
theorem Fx.lk (F : Fx G n call ck X W) (x : Str) : X.env.scope.names.lookup x = ck.lk x := by rw [F.sc]; rfl
theorem okName_ok {x : Str} (h : okName x = true) : (x == ("__debug__" : Str)) = false ∧ (x == ("__classdict__" : Str)) = false := by
  obtain ⟨h1, h2⟩ := band h
  exact ⟨eq_of_beq h1, eq_of_beq h2⟩
theorem Fx.vis (F : Fx G n call ck X W) {x : Str} {i : Nat} (h : visB ck x i = true) : X.N[i]? = some x ∧ Vis X.env.scope x ∧ (x == ("__debug__" : Str)) = false ∧ (x == ("__classdict__" : Str)) = false := by
  obtain ⟨h1, h3⟩ := band h
  obtain ⟨h1, h2⟩ := band h1
  obtain ⟨d1, d2⟩ := okName_ok h3
  refine ⟨by rw [F.N]; exact of_decide_eq_true h1, ?_, d1, d2⟩
  show _ ∨ _ ∨ _
  rw [F.lk]
  split at h2
  · next e => exact .inl e
  · next e => exact .inr (.inl e)
  · next e => exact .inr (.inr e)
  · cases h2
theorem Fx.gl (F : Fx G n call ck X W) {x : Str} (h : glB ck x = true) : Gl X x ∧ (x == ("__debug__" : Str)) = false := by
  obtain ⟨h1, h2⟩ := band h
  refine ⟨?_, (okName_ok h2).1⟩
  show X.env.scope.names.lookup x = _
  rw [F.lk]
  exact of_decide_eq_true h1
theorem Fx.nbs (F : Fx G n call ck X W) {x : Str} (h : nbB ck x = true) : Gl X x ∧ X.mg x = none := by
  obtain ⟨h1, h2⟩ := band h
  exact ⟨(F.gl h1).1, F.gb.nb x (of_decide_eq_true h2)⟩
theorem Fx.tg (F : Fx G n call ck X W) {x : Str} {i : Nat} (h : tgB ck x i = true) : X.N[i]? = some x ∧ Loc X.env.scope x ∧ (X.fn x = true ∨ X.env.scope.names.lookup x = some .local) := by
  obtain ⟨h1, h2⟩ := band h
  refine ⟨by rw [F.N]; exact of_decide_eq_true h1, ?_, ?_⟩
  · show _ ∨ _
    rw [F.lk]
    split at h2
    · next e => exact .inl e
    · next e => exact .inr e
    · cases h2
  · rw [F.lk]
    split at h2
    · next e => exact .inr e
    · next e => exact .inl (F.fn x (of_decide_eq_true h2))
    · cases h2
theorem star_of {e : Expr} {es : List Expr} {env : Env} (h : notStar e = true) : starEach (e :: es) env = (false, eval e env) :: starEach es env := by
  cases e <;> first | rfl | cases h
theorem plain_any {pos : Pos} {env : Env} : ∀ {es : List Expr}, es.all notStar = true → (backTo pos (starEach es env)).any (·.1) = false
  | [], _ => rfl
  | e :: es, h => by
    obtain ⟨h1, h2⟩ := band (by simpa using h : (notStar e && es.all notStar) = true)
    rw [star_of h1]
    show (false || (backTo pos (starEach es env)).any (·.1)) = false
    rw [plain_any h2]
    rfl
theorem plain_all {pos : Pos} {env : Env} : ∀ {es : List Expr}, es.all notStar = true → (backTo pos (starEach es env)).all (fun x => !x.1) = true
  | [], _ => rfl
  | e :: es, h => by
    obtain ⟨h1, h2⟩ := band (by simpa using h : (notStar e && es.all notStar) = true)
    rw [star_of h1]
    show (!false && (backTo pos (starEach es env)).all (fun x => !x.1)) = true
    rw [plain_all h2]
    rfl
theorem chA_plain : ∀ {r : E} {es : List Expr}, chA ck r es = true → es.all notStar = true ∧ r.cnt = es.length
  | .nil, es, h => by
    cases es with
    | nil => exact ⟨rfl, rfl⟩
    | cons _ _ => cases h
  | .cons a r, es, h => by
    cases es with
    | nil => cases h
    | cons e es =>
      obtain ⟨h1, h3⟩ := band (show (notStar e && chE ck a e && chA ck r es) = true from h)
      obtain ⟨h1, h2⟩ := band h1
      obtain ⟨p, q⟩ := chA_plain h3
      refine ⟨by simpa [h1] using p, congrArg Nat.succ q⟩
  | .v _, _, h | .c _, _, h | .g _, _, h | .bin _ _ _, _, h | .cmp _ _ _, _, h | .ix _ _, _, h | .neg _, _, h | .not _, _, h | .ite _ _ _, _, h | .andv _, _, h | .orv _, _, h | .one _, _, h | .val _, _, h | .tup _, _, h | .frz _, _, h | .alc _, _, h
  | .disp _, _, h | .lis _, _, h | .comp _ _ _ _ _, _, h | .blt _ _, _, h | .call _ _, _, h | .meth _ _ _, _, h | .sl _ _ _, _, h | .non_, _, h | .some_ _, _, h | .isi _ _, _, h | .isi2 _ _ _, _, h | .rng _, _, h | .dsp _ _ _, _, h | .newd _, _, h | .enu _, _, h => by cases h
theorem evA_len {tb : Tb} : ∀ {r : E} {sl : Sl} {st st' : Sto} {xs : List D}, evA tb call r sl st = some (.ok xs, st') → xs.length = r.cnt
  | .nil, sl, st, st', xs, h => by cases h; rfl
  | .cons a r, sl, st, st', xs, h => by
    have h : De.cons (evE tb call a) (evA tb call r) sl st = _ := h
    unfold De.cons De.bnd at h
    split at h
    · next x st1 e1 =>
      dsimp only at h
      split at h
      · next ys st2 e2 =>
        cases h
        exact congrArg Nat.succ (evA_len e2)
      · cases h
      · cases h
    · cases h
    · cases h
  | .v _, _, _, _, _, h | .c _, _, _, _, _, h | .g _, _, _, _, _, h | .bin _ _ _, _, _, _, _, h | .cmp _ _ _, _, _, _, _, h | .ix _ _, _, _, _, _, h | .neg _, _, _, _, _, h | .not _, _, _, _, _, h | .ite _ _ _, _, _, _, _, h | .andv _, _, _, _, _, h | .orv _, _, _, _, _, h | .one _, _, _, _, _, h | .val _, _, _, _, _, h | .tup _, _, _, _, _, h | .frz _, _, _, _, _, h | .alc _, _, _, _, _, h
  | .disp _, _, _, _, _, h | .lis _, _, _, _, _, h | .comp _ _ _ _ _, _, _, _, _, h | .blt _ _, _, _, _, _, h | .call _ _, _, _, _, _, h | .meth _ _ _, _, _, _, _, h | .sl _ _ _, _, _, _, _, h | .non_, _, _, _, _, h | .some_ _, _, _, _, _, h | .isi _ _, _, _, _, _, h | .isi2 _ _ _, _, _, _, _, h | .rng _, _, _, _, _, h | .dsp _ _ _, _, _, _, _, h | .newd _, _, _, _, _, h | .enu _, _, _, _, _, h => by cases h
theorem plainT_ok {a : Expr} {env : Env} (h : plainT a = true) : ∀ whole, isTrue a env whole = (do let v ← whole; standAt a.pos; holding [v] (truthy v)) := by
  intro whole
  cases a <;> first | rfl | cases h | (rename_i op _ _; cases op <;> first | rfl | cases h)
theorem plainIx_of {b : Expr} (h : notSlice b = true) : PlainIx b := by
  intro o i
  cases b <;> first | rfl | cases h
theorem folded_of {e : Expr} {env : Env} (h : notSet e = true) : ∀ x, foldedSetIterable e env x = pure x := by
  intro x
  cases e <;> first | rfl | cases h
theorem base_of {o : Expr} {m : Str} {env : Env} (h : baseB o = true) : attributeBase o m env (eval o env) = eval o env := by
  cases o <;> first | rfl | cases h
theorem asCall_ok {e : Expr} {x : Str} {es : List Expr} (h : asCall e = some (x, es)) : ∃ p pos, e = .Call (.Name x p) es [] pos := by
  unfold asCall at h
  split at h
  · cases h; exact ⟨_, _, rfl⟩
  · cases h
theorem asMeth_ok {e o : Expr} {m : Str} {p q : Pos} {es : List Expr} (h : asMeth e = some (o, m, p, es, q)) : e = .Call (.Attribute o m p) es [] q := by
  unfold asMeth at h
  split at h
  · cases h; rfl
  · cases h
theorem asComp_ok {e elt tg iter : Expr} {ifs : List Expr} {ia : Int} {scope : Scope} (h : asComp e = some (elt, tg, iter, ifs, ia, scope)) : ∃ pos, e = .ListComp elt [⟨tg, iter, ifs, ia⟩] scope pos := by
  unfold asComp at h
  split at h
  · cases h; exact ⟨_, rfl⟩
  · cases h
theorem asCmp_ok {e a b : Expr} {op : CmpOp} (h : asCmp e = some (a, op, b)) : ∃ pos, e = .Compare a [op] [b] pos := by
  unfold asCmp at h
  split at h
  · cases h; exact ⟨_, rfl⟩
  · cases h
theorem asSl_ok {e a : Expr} {lo hi : Option Expr} (h : asSl e = some (a, lo, hi)) : ∃ p pos, e = .Subscript a (.Slice lo hi none p) pos := by
  unfold asSl at h
  split at h
  · cases h; exact ⟨_, _, rfl⟩
  · cases h
theorem asNm_ok {e : Expr} {x : Str} (h : asNm e = some x) : ∃ pos, e = .Name x pos := by
  unfold asNm at h
  split at h
  · cases h; exact ⟨_, rfl⟩
  · cases h
theorem asTup2_ok {e : Expr} {x y : Str} (h : asTup2 e = some (x, y)) : ∃ p q k pos, e = .Tuple [.Name x p, .Name y q] k pos := by
  unfold asTup2 at h
  split at h
  · cases h; exact ⟨_, _, _, _, rfl⟩
  · cases h
theorem cst_ok {k : Const} {d : D} (h : cst k d = true) : ∃ v : V, (∀ (j : Nat) (p : Pos), PE X (.Constant k j p) (tC v)) ∧ ∀ ω ρ H, Rp X.K ω ρ H v d := by
  unfold cst at h
  split at h
  · obtain ⟨v, h1, h2, _⟩ := CstE.pe (X := X) (CstE.non (k := 0) (p := ⟨0, 0, 0, 0⟩))
    exact ⟨.non, fun j p => by
      obtain ⟨v, h1, h2, _⟩ := CstE.pe (X := X) (CstE.non (k := j) (p := p))
      cases h1; exact h2, fun _ _ _ => .non⟩
  · cases eq_of_beq h
    exact ⟨.bl _, fun j p => by
      obtain ⟨v, h1, h2, _⟩ := CstE.pe (X := X) (CstE.bl (k := j) (p := p))
      cases h1; exact h2, fun _ _ _ => .bl _⟩
  · cases of_decide_eq_true h
    exact ⟨.int _, fun j p => by
      obtain ⟨v, h1, h2, _⟩ := CstE.pe (X := X) (CstE.int (k := j) (p := p))
      cases h1; exact h2, fun _ _ _ => .int _⟩
  · cases of_decide_eq_true h
    exact ⟨.str _, fun j p => by
      obtain ⟨v, h1, h2, _⟩ := CstE.pe (X := X) (CstE.str (k := j) (p := p))
      cases h1; exact h2, fun _ _ _ => .str _⟩
  · cases h
theorem chGs_ok (F : Fx G n call ck X W) : ∀ {is : List Nat} {es : List Expr}, chGs ck is es = true → ∃ t, GNs X es is t
  | [], [], _ => ⟨_, .nil⟩
  | i :: is, e :: es, h => by
    cases e with
    | Name x p =>
      obtain ⟨h1, h2⟩ := band (show (tgB ck x i && chGs ck is es) = true from h)
      obtain ⟨t, r⟩ := chGs_ok F h2
      obtain ⟨a, b, c⟩ := F.tg h1
      exact ⟨_, .cons a b c r⟩
    | _ => cases h
  | [], _ :: _, h => by cases h
  | _ :: _, [], h => by cases h
theorem chG_ok (F : Fx G n call ck X W) {t : Tg} {e : Expr} (h : chG ck t e = true) : PG X e (gT X.K t) := by
  cases t with
  | nm i =>
    cases e with
    | Name x p =>
      obtain ⟨a, b, c⟩ := F.tg (show tgB ck x i = true from h)
      exact g_nm F.nd a b c
    | _ => cases h
  | tp is =>
    cases e with
    | Tuple es k p =>
      obtain ⟨t, r⟩ := chGs_ok F (show chGs ck is es = true from h)
      exact g_tp F.calm F.nd r
    | _ => cases h
theorem Fx.blk (F : Fx G n call ck X W) {s : Shared} {H : Hp} {scope : Scope} {C : Addr} {cl : List (Str × Addr)} {fp : List Addr} :
    Fx G n call (ck.blk scope) (X.blk s H scope (compEnvC scope cl C X.env) fp) WF where
  gb := F.gb
  N := F.N
  nd := F.nd
  sc := by
    show relabel scope X.env = relab ck.sc scope
    rw [← F.sc]
    rfl
  calm := F.calm
  fn x hx := by
    show (scope.names.lookup x == some .cell) = true
    obtain ⟨p, hp, rfl⟩ := List.mem_map.mp (show x ∈ (scope.names.filter fun p => scope.names.lookup p.1 == some .cell).map (·.1) from hx)
    exact (List.mem_filter.mp hp).2
  tk := fun u s' h => by
    obtain ⟨_, _, _, _, _, _, _, _, _, _, _, _, _, _, _, _, w⟩ := h
    exact w.elim
  rm := F.rm
theorem own_map (ck : Ck) (vs : List Nat) : (ck.own vs).map (·.2) = vs := by
  unfold Ck.own
  rw [List.map_map]
  exact List.map_id vs
theorem ty_ok (F : Fx G n call ck X W) {t : TN} {x : Str} {p : Pos} (h : tyB ck t x = true) : PE X (.Name x p) (tC (.ty t.name)) := by
  obtain ⟨h, h4⟩ := band h
  obtain ⟨h, h3⟩ := band h
  obtain ⟨h1, h2⟩ := band h
  obtain ⟨g, hd⟩ := F.gl h1
  have hm := F.gb.nb x (of_decide_eq_true h2)
  cases of_decide_eq_true h3
  cases t with
  | non => cases h4
  | bl => exact pe_bltn g hm PyProof.Rows.boot_bool rfl
  | int => exact pe_bltn g hm PyProof.Rows.boot_int rfl
  | str => exact pe_bltn g hm PyProof.Rows.boot_str rfl
  | tup => exact pe_bltn g hm PyProof.Rows.boot_tuple rfl
  | lst => exact pe_bltn g hm PyProof.Rows.boot_list rfl
  | dic => exact pe_bltn g hm PyProof.Rows.boot_dict rfl
theorem boot_len' : bootBuiltins "len" = some (.builtin "len") := by decide +kernel
theorem d_bi (F : Fx G n call ck X W) {b : Bi} {e : Expr} {es : List Expr} {p pos : Pos} {r : De (List D)} (hn : nbB ck b.name = true) (ha : PA X (e :: es) (tAs X.K G W r)) (hp : (e :: es).all notStar = true) :
    PE X (.Call (.Name b.name p) (e :: es) [] pos) (tD X.K G W (r.bnd fun xs => De.of (b.f xs))) := by
  obtain ⟨g, hm⟩ := F.nbs hn
  have hs : starEach (e :: es) X.env = (false, eval e X.env) :: starEach es X.env := star_of (band (by simpa using hp : (notStar e && es.all notStar) = true)).1
  have hl := plain_any (pos := pos) (env := X.env) (band (by simpa using hp : (notStar e && es.all notStar) = true)).2
  cases b with
  | len => exact d_blt b_len g hm boot_len' ha (by decide) (by decide) hs hl
  | int => exact d_ty b_int g hm PyProof.Rows.boot_int ha (by decide) (by decide) hs hl
  | min => exact d_blt (b_min2 F.calm) g hm PyProof.Rows.boot_min ha (by decide) (by decide) hs hl
  | max => exact d_blt (b_max2 F.calm) g hm PyProof.Rows.boot_max ha (by decide) (by decide) hs hl
  | sum => exact d_blt (b_sum F.calm) g hm PyProof.Rows.boot_sum ha (by decide) (by decide) hs hl
  | all => exact d_blt (b_all F.calm) g hm PyProof.Rows.boot_all ha (by decide) (by decide) hs hl
  | any => exact d_blt (b_any F.calm) g hm PyProof.Rows.boot_any ha (by decide) (by decide) hs hl
  | tuple => exact d_ty b_tuple g hm PyProof.Rows.boot_tuple ha (by decide) (by decide) hs hl
theorem d_g (F : Fx G n call ck X W) {x : Str} {p : Pos} {i : Nat} (hg : glB ck x = true) (h : (match ck.tb.gc[i]? with
      | some p => decide (p.1 = x)
      | none => false) = true) : PE X (.Name x p) (tD X.K G W (evE ck.tb call (.g i))) := by
  split at h
  · next q e =>
    cases of_decide_eq_true h
    obtain ⟨v, u, h1, h2, h3⟩ := F.gb.gc q (List.mem_of_getElem? e)
    obtain ⟨g, hd⟩ := F.gl hg
    have := d_const (G := G) (W := W) (pe_glob (pos := p) g h1 h2 hd) h3
    show PE X _ (tD X.K G W (match ck.tb.gc[i]? with
      | some p => De.ret p.2
      | none => No))
    rw [e]
    exact this
  · cases h
end
end Hb

set_option Elab.async false
set_option linter.all false
set_option maxRecDepth 100000
set_option maxHeartbeats 8000000
/-! Part N: expressions: what the check lets pass computes as the data say. -/
namespace Hb
open PySem PySem.Spec L2
section
variable {G : Gd} {n : Nat} {call : Nat → Cl}
theorem ts_nil {X : Cx} {W : WX} : PTs X [] (tT X.K G W (De.ret true)) := ⟨fun pins s σ H Q I h => pts_nil.run pins s σ H Q I (by
  obtain ⟨ω, ρ, sl, st, a, h⟩ := h
  exact PostG.ret a h true rfl)⟩
theorem pt_v {X : Cx} {W : WX} {e : Expr} {d : De D} (hp : plainT e = true) (h : PE X e (tD X.K G W d)) : PT X e (tT X.K G W (d.bnd fun x => De.of (tru x))) := t_val h (plainT_ok hp)
theorem keyC_ok {X : Cx} {c : Const} {k : Key} {j : Nat} {p : Pos} (h : keyC c k = true) : PE X (.Constant c j p) (tC (kV k)) := by
  unfold keyC at h
  split at h
  · cases of_decide_eq_true h
    obtain ⟨v, h1, h2, _⟩ := CstE.pe (X := X) (CstE.int (k := j) (p := p))
    cases h1
    exact h2
  · cases of_decide_eq_true h
    obtain ⟨v, h1, h2, _⟩ := CstE.pe (X := X) (CstE.str (k := j) (p := p))
    cases h1
    exact h2
  · cases h
mutual
theorem sE {ck : Ck} {X : Cx} {W : WX} (F : Fx G n call ck X W) : ∀ (a : E) (e : Expr), chE ck a e = true → PE X e (tD X.K G W (evE ck.tb call a))
  | .v i, e, h => by
    cases e with
    | Name x p =>
      obtain ⟨a, b, c, d⟩ := F.vis (show visB ck x i = true from h)
      exact d_var a b c d
    | _ => cases h
  | .c d, e, h => by
    cases e with
    | Constant k j p =>
      obtain ⟨v, h1, h2⟩ := cst_ok (X := X) (show cst k d = true from h)
      exact d_const (h1 j p) h2
    | _ => cases h
  | .g i, e, h => by
    cases e with
    | Name x p =>
      obtain ⟨h1, h2⟩ := band h
      exact d_g F h1 h2
    | _ => cases h
  | .bin o a b, e, h => by
    cases e with
    | BinOp l op r p =>
      obtain ⟨h, h3⟩ := band h
      obtain ⟨h1, h2⟩ := band h
      cases of_decide_eq_true h1
      exact d_bin o.ok (sE F a l h2) (sE F b r h3)
    | _ => cases h
  | .cmp o a b, e, h => by
    have h : (match asCmp e with
      | some (l, op, r) => decide (op = o.op) && !(behindInMarks op r) && chE ck a l && chE ck b r
      | _ => false) = true := h
    split at h
    · next l op r e1 =>
      obtain ⟨p, rfl⟩ := asCmp_ok e1
      obtain ⟨h, h4⟩ := band h
      obtain ⟨h, h3⟩ := band h
      obtain ⟨h1, h2⟩ := band h
      cases of_decide_eq_true h1
      exact d_cmp (o.ok F.hu) (sE F a l h3) (sE F b r h4) (by simpa using h2)
    · cases h
  | .ix a b, e, h => by
    cases e with
    | Subscript l r p =>
      obtain ⟨h, h3⟩ := band h
      obtain ⟨h1, h2⟩ := band h
      exact d_ix (o_ixD (by have := F.hu; omega)) (sE F a l h2) (sE F b r h3) (plainIx_of h1)
    | _ => cases h
  | .neg a, e, h => by
    cases e with
    | UnaryOp op l p =>
      obtain ⟨h1, h2⟩ := band h
      cases of_decide_eq_true h1
      exact d_un o_neg (sE F a l h2)
    | _ => cases h
  | .not a, e, h => by
    cases e with
    | UnaryOp op l p =>
      obtain ⟨h1, h2⟩ := band h
      cases of_decide_eq_true h1
      exact d_not (sE F a l h2)
    | _ => cases h
  | .ite c a b, e, h => by
    cases e with
    | IfExp t l r p =>
      obtain ⟨h, h3⟩ := band h
      obtain ⟨h1, h2⟩ := band h
      exact d_ite (sT F c t h1) (sE F a l h2) (sE F b r h3)
    | _ => cases h
  | .andv r, e, h => by
    cases e with
    | BoolOp op es p =>
      obtain ⟨h1, h2⟩ := band h
      cases of_decide_eq_true h1
      exact sAnd F r es p h2
    | _ => cases h
  | .orv r, e, h => by
    cases e with
    | BoolOp op es p =>
      obtain ⟨h1, h2⟩ := band h
      cases of_decide_eq_true h1
      exact sOr F r es p h2
    | _ => cases h
  | .tup r, e, h => by
    cases e with
    | Tuple es k p =>
      obtain ⟨h1, h2⟩ := band h
      exact d_tup (sA F r es h2) fun sl st xs st' hx => by rw [evA_len hx]; exact of_decide_eq_true h1
    | _ => cases h
  | .frz m, e, h => PE.imp (sN F m e h) fun _ _ _ => frz_imp
  | .alc m, e, h => PE.imp (sN F m e h) fun _ _ _ => alc_imp
  | .blt b r, e, h => by
    have h : (match asCall e with
      | some (x, es) => decide (x = b.name) && nbB ck x && !es.isEmpty && chA ck r es
      | none => false) = true := h
    split at h
    · next x es e1 =>
      obtain ⟨p, pos, rfl⟩ := asCall_ok e1
      obtain ⟨h, h4⟩ := band h
      obtain ⟨h, h3⟩ := band h
      obtain ⟨h1, h2⟩ := band h
      cases of_decide_eq_true h1
      cases es with
      | nil => cases h3
      | cons e' es => exact d_bi F h2 (sA F r _ h4) (chA_plain h4).1
    · cases h
  | .call k r, e, h => by
    have h : (match asCall e with
      | some (x, es) => decide (ck.tb.fns[k]? = some x) && glB ck x && chA ck r es
      | none => false) = true := h
    split at h
    · next x es e1 =>
      obtain ⟨p, pos, rfl⟩ := asCall_ok e1
      obtain ⟨h, h3⟩ := band h
      obtain ⟨h1, h2⟩ := band h
      obtain ⟨f, fd, ps, hF, hm, hk, hb⟩ := F.gb.fs k x (of_decide_eq_true h1)
      obtain ⟨g, hd⟩ := F.gl h2
      have hA := sA F r es h3
      have pl := (chA_plain h3).1
      cases es with
      | nil =>
        cases r with
        | nil => exact d_call0 hF F.rm g hm hk hb F.tk hd
        | _ => cases h3
      | cons e' es =>
        obtain ⟨p1, p2⟩ := band (by simpa using pl : (notStar e' && es.all notStar) = true)
        exact d_call hF F.rm g hm hk hb F.tk hA hd (star_of p1) (plain_any p2)
    · cases h
  | .meth m o r, e, h => by
    have h : (match asMeth e with
      | some (l, nm, apos, es, cpos) => decide (nm = m.name) && baseB l && decide (es.length < 25) && (apos.endLine == cpos.line) && chE ck o l && chA ck r es
      | none => false) = true := h
    split at h
    · next l nm apos es cpos e1 =>
      cases asMeth_ok e1
      obtain ⟨h, h6⟩ := band h
      obtain ⟨h, h5⟩ := band h
      obtain ⟨h, h4⟩ := band h
      obtain ⟨h, h3⟩ := band h
      obtain ⟨h1, h2⟩ := band h
      cases of_decide_eq_true h1
      have pl := (chA_plain h6).1
      have h3 := of_decide_eq_true h3
      refine d_meth (m_ok m) (sE F o l h5) (sA F r es h6) (base_of h2) ?_ h4 (fun e' es' he => ?_) (plain_any pl) (fun he => ?_)
      · rw [plain_all pl]
        show (true && true && decide (es.length + 0 + 0 < 30)) = true
        rw [decide_eq_true (by omega)]
        rfl
      · subst he
        exact star_of (band (by simpa using pl : (notStar e' && es'.all notStar) = true)).1
      · subst he
        cases r with
        | nil => rfl
        | _ => cases h6
    · cases h
  | .dsp al ks r, e, h => by
    cases e with
    | Dict keys vals p =>
      obtain ⟨h, h5⟩ := band h
      obtain ⟨h, h4⟩ := band h
      obtain ⟨h, h3⟩ := band h
      obtain ⟨h, h2⟩ := band h
      obtain ⟨h1, h0⟩ := band h
      obtain ⟨kes, rfl, hl, q⟩ := sP F r ks keys vals (of_decide_eq_true h0) h4 h5
      refine d_dsp q (fun z => ?_) (by rw [hl]; exact of_decide_eq_true h2) (of_decide_eq_true h3)
      subst z
      cases ks with
      | nil => cases h1
      | cons _ _ => cases hl
    | _ => cases h
  | .newd al, e, h => by
    cases e with
    | Dict keys vals p =>
      obtain ⟨h1, h2⟩ := band h
      cases keys with
      | cons _ _ => cases h1
      | nil =>
        cases vals with
        | cons _ _ => cases h2
        | nil => exact d_newD
    | _ => cases h
  | .sl x lo hi, e, h => by
    have h : (match asSl e with
      | some (l, a, b) => chE ck x l && chO ck lo a && chO ck hi b
      | none => false) = true := h
    split at h
    · next l a b e1 =>
      obtain ⟨p, pos, rfl⟩ := asSl_ok e1
      obtain ⟨h, h3⟩ := band h
      obtain ⟨h1, h2⟩ := band h
      exact d_slice o_sl (sE F x l h1) (sO F lo a h2) (sO F hi b h3)
    · cases h
  | .isi a t, e, h => by
    have h : (match asCall e with
      | some (x, [l, r]) => decide (x = ("isinstance" : Str)) && nbB ck x && notStar l && chE ck a l && (match asNm r with
        | some y => tyB ck t y
        | none => false)
      | _ => false) = true := h
    split at h
    · next x l r e1 =>
      obtain ⟨p, pos, rfl⟩ := asCall_ok e1
      obtain ⟨h, h5⟩ := band h
      obtain ⟨h, h4⟩ := band h
      obtain ⟨h, h3⟩ := band h
      obtain ⟨h1, h2⟩ := band h
      cases of_decide_eq_true h1
      obtain ⟨g, hm⟩ := F.nbs h2
      split at h5
      · next y e2 =>
        obtain ⟨q, rfl⟩ := asNm_ok e2
        exact d_isi (sE F a l h4) (ty_ok F h5) g hm (star_of h3)
      · cases h5
    · cases h
  | .isi2 a t u, e, h => by
    have h : (match asCall e with
      | some (x, [l, r]) => decide (x = ("isinstance" : Str)) && nbB ck x && notStar l && chE ck a l && (match asTup2 r with
        | some (y, z) => tyB ck t y && tyB ck u z
        | none => false)
      | _ => false) = true := h
    split at h
    · next x l r e1 =>
      obtain ⟨p, pos, rfl⟩ := asCall_ok e1
      obtain ⟨h, h5⟩ := band h
      obtain ⟨h, h4⟩ := band h
      obtain ⟨h, h3⟩ := band h
      obtain ⟨h1, h2⟩ := band h
      cases of_decide_eq_true h1
      obtain ⟨g, hm⟩ := F.nbs h2
      split at h5
      · next y z e2 =>
        obtain ⟨q1, q2, k, q3, rfl⟩ := asTup2_ok e2
        obtain ⟨h6, h7⟩ := band h5
        exact d_isi2 (sE F a l h4) (ty_ok F h6) (ty_ok F h7) g hm (star_of h3)
      · cases h5
    · cases h
  | .nil, _, h | .cons _ _, _, h | .one _, _, h | .val _, _, h | .disp _, _, h | .lis _, _, h | .comp _ _ _ _ _, _, h | .non_, _, h | .some_ _, _, h | .rng _, _, h | .enu _, _, h => by cases h
theorem sAnd {ck : Ck} {X : Cx} {W : WX} (F : Fx G n call ck X W) : ∀ (a : E) (es : List Expr) (p : Pos), chAnd ck a es = true → PE X (.BoolOp .And es p) (tD X.K G W (evAnd ck.tb call a))
  | .one a, es, p, h => by
    match es, h with
    | [e], h => exact pe_one (sE F a e h)
    | [], h => cases h
    | _ :: _ :: _, h => cases h
  | .cons a r, es, p, h => by
    match es, h with
    | e :: b :: rest, h =>
      obtain ⟨h1, h2⟩ := band (show (true && chE ck a e && chAnd ck r (b :: rest)) = true from h)
      exact d_and (sE F a e h1) (sAnd F r (b :: rest) p h2)
    | [], h => cases h
    | [e], h => exact absurd h (by simp [chAnd])
  | .v _, _, _, h | .c _, _, _, h | .g _, _, _, h | .bin _ _ _, _, _, h | .cmp _ _ _, _, _, h | .ix _ _, _, _, h | .neg _, _, _, h | .not _, _, _, h | .ite _ _ _, _, _, h | .andv _, _, _, h | .orv _, _, _, h | .nil, _, _, h | .val _, _, _, h | .tup _, _, _, h | .frz _, _, _, h | .alc _, _, _, h | .disp _, _, _, h | .lis _, _, _, h | .comp _ _ _ _ _, _, _, h | .blt _ _, _, _, h | .call _ _, _, _, h | .meth _ _ _, _, _, h | .sl _ _ _, _, _, h | .non_, _, _, h | .some_ _, _, _, h | .isi _ _, _, _, h | .isi2 _ _ _, _, _, h | .rng _, _, _, h | .dsp _ _ _, _, _, h | .newd _, _, _, h | .enu _, _, _, h => by cases h
theorem sOr {ck : Ck} {X : Cx} {W : WX} (F : Fx G n call ck X W) : ∀ (a : E) (es : List Expr) (p : Pos), chAnd ck a es = true → PE X (.BoolOp .Or es p) (tD X.K G W (evOr ck.tb call a))
  | .one a, es, p, h => by
    match es, h with
    | [e], h => exact pe_one (sE F a e h)
    | [], h => cases h
    | _ :: _ :: _, h => cases h
  | .cons a r, es, p, h => by
    match es, h with
    | e :: b :: rest, h =>
      obtain ⟨h1, h2⟩ := band (show (true && chE ck a e && chAnd ck r (b :: rest)) = true from h)
      exact d_or (sE F a e h1) (sOr F r (b :: rest) p h2)
    | [], h => cases h
    | [e], h => exact absurd h (by simp [chAnd])
  | .v _, _, _, h | .c _, _, _, h | .g _, _, _, h | .bin _ _ _, _, _, h | .cmp _ _ _, _, _, h | .ix _ _, _, _, h | .neg _, _, _, h | .not _, _, _, h | .ite _ _ _, _, _, h | .andv _, _, _, h | .orv _, _, _, h | .nil, _, _, h | .val _, _, _, h | .tup _, _, _, h | .frz _, _, _, h | .alc _, _, _, h | .disp _, _, _, h | .lis _, _, _, h | .comp _ _ _ _ _, _, _, h | .blt _ _, _, _, h | .call _ _, _, _, h | .meth _ _ _, _, _, h | .sl _ _ _, _, _, h | .non_, _, _, h | .some_ _, _, _, h | .isi _ _, _, _, h | .isi2 _ _ _, _, _, h | .rng _, _, _, h | .dsp _ _ _, _, _, h | .newd _, _, _, h | .enu _, _, _, h => by cases h
theorem sT {ck : Ck} {X : Cx} {W : WX} (F : Fx G n call ck X W) : ∀ (a : E) (e : Expr), chT ck a e = true → PT X e (tT X.K G W (evT ck.tb call a))
  | .val a, e, h => by
    obtain ⟨h1, h2⟩ := band h
    exact pt_v h1 (sE F a e h2)
  | .cmp o a b, e, h => by
    have h : (match asCmp e with
      | some (l, op, r) => decide (op = o.op) && !(behindInMarks op r) && chE ck a l && chE ck b r
      | _ => false) = true := h
    split at h
    · next l op r e1 =>
      obtain ⟨p, rfl⟩ := asCmp_ok e1
      obtain ⟨h, h4⟩ := band h
      obtain ⟨h, h3⟩ := band h
      obtain ⟨h1, h2⟩ := band h
      cases of_decide_eq_true h1
      exact t_cmp (o.ok F.hu) (sE F a l h3) (sE F b r h4) (by simpa using h2)
    · cases h
  | .not a, e, h => by
    cases e with
    | UnaryOp op l p =>
      obtain ⟨h1, h2⟩ := band h
      cases of_decide_eq_true h1
      exact t_not (sT F a l h2)
    | _ => cases h
  | .andv r, e, h => by
    cases e with
    | BoolOp op es p =>
      obtain ⟨h1, h2⟩ := band h
      cases of_decide_eq_true h1
      exact (sTAnd F r es p h2).pt
    | _ => cases h
  | .orv r, e, h => by
    cases e with
    | BoolOp op es p =>
      obtain ⟨h1, h2⟩ := band h
      cases of_decide_eq_true h1
      exact (sTOr F r es p h2).pt
    | _ => cases h
  | .v _, _, h | .c _, _, h | .g _, _, h | .bin _ _ _, _, h | .ix _ _, _, h | .neg _, _, h | .ite _ _ _, _, h | .nil, _, h | .cons _ _, _, h | .one _, _, h | .tup _, _, h | .frz _, _, h | .alc _, _, h | .disp _, _, h | .lis _, _, h | .comp _ _ _ _ _, _, h | .blt _ _, _, h | .call _ _, _, h | .meth _ _ _, _, h | .sl _ _ _, _, h | .non_, _, h | .some_ _, _, h | .isi _ _, _, h | .isi2 _ _ _, _, h | .rng _, _, h | .dsp _ _ _, _, h | .newd _, _, h | .enu _, _, h => by cases h
theorem sTAnd {ck : Ck} {X : Cx} {W : WX} (F : Fx G n call ck X W) : ∀ (a : E) (es : List Expr) (p : Pos), chTs ck a es = true → PW X (.BoolOp .And es p) (tT X.K G W (evTAnd ck.tb call a))
  | .one a, es, p, h => by
    match es, h with
    | [e], h => exact pw_and1 (sT F a e h)
    | [], h => cases h
    | _ :: _ :: _, h => cases h
  | .cons a r, es, p, h => by
    match es, h with
    | e :: b :: rest, h =>
      obtain ⟨h1, h2⟩ := band (show (true && chT ck a e && chTs ck r (b :: rest)) = true from h)
      exact t_and (sT F a e h1) (sTAnd F r (b :: rest) p h2)
    | [], h => cases h
    | [e], h => exact absurd h (by simp [chTs])
  | .v _, _, _, h | .c _, _, _, h | .g _, _, _, h | .bin _ _ _, _, _, h | .cmp _ _ _, _, _, h | .ix _ _, _, _, h | .neg _, _, _, h | .not _, _, _, h | .ite _ _ _, _, _, h | .andv _, _, _, h | .orv _, _, _, h | .nil, _, _, h | .val _, _, _, h | .tup _, _, _, h | .frz _, _, _, h | .alc _, _, _, h | .disp _, _, _, h | .lis _, _, _, h | .comp _ _ _ _ _, _, _, h | .blt _ _, _, _, h | .call _ _, _, _, h | .meth _ _ _, _, _, h | .sl _ _ _, _, _, h | .non_, _, _, h | .some_ _, _, _, h | .isi _ _, _, _, h | .isi2 _ _ _, _, _, h | .rng _, _, _, h | .dsp _ _ _, _, _, h | .newd _, _, _, h | .enu _, _, _, h => by cases h
theorem sTOr {ck : Ck} {X : Cx} {W : WX} (F : Fx G n call ck X W) : ∀ (a : E) (es : List Expr) (p : Pos), chTs ck a es = true → PW X (.BoolOp .Or es p) (tT X.K G W (evTOr ck.tb call a))
  | .one a, es, p, h => by
    match es, h with
    | [e], h => exact pw_or1 (sT F a e h)
    | [], h => cases h
    | _ :: _ :: _, h => cases h
  | .cons a r, es, p, h => by
    match es, h with
    | e :: b :: rest, h =>
      obtain ⟨h1, h2⟩ := band (show (true && chT ck a e && chTs ck r (b :: rest)) = true from h)
      exact t_or (sT F a e h1) (sTOr F r (b :: rest) p h2)
    | [], h => cases h
    | [e], h => exact absurd h (by simp [chTs])
  | .v _, _, _, h | .c _, _, _, h | .g _, _, _, h | .bin _ _ _, _, _, h | .cmp _ _ _, _, _, h | .ix _ _, _, _, h | .neg _, _, _, h | .not _, _, _, h | .ite _ _ _, _, _, h | .andv _, _, _, h | .orv _, _, _, h | .nil, _, _, h | .val _, _, _, h | .tup _, _, _, h | .frz _, _, _, h | .alc _, _, _, h | .disp _, _, _, h | .lis _, _, _, h | .comp _ _ _ _ _, _, _, h | .blt _ _, _, _, h | .call _ _, _, _, h | .meth _ _ _, _, _, h | .sl _ _ _, _, _, h | .non_, _, _, h | .some_ _, _, _, h | .isi _ _, _, _, h | .isi2 _ _ _, _, _, h | .rng _, _, _, h | .dsp _ _ _, _, _, h | .newd _, _, _, h | .enu _, _, _, h => by cases h
theorem sA {ck : Ck} {X : Cx} {W : WX} (F : Fx G n call ck X W) : ∀ (a : E) (es : List Expr), chA ck a es = true → PA X es (tAs X.K G W (evA ck.tb call a))
  | .nil, es, h => by
    cases es with
    | nil => exact as_nil
    | cons _ _ => cases h
  | .cons a r, es, h => by
    cases es with
    | nil => cases h
    | cons e es =>
      obtain ⟨h, h3⟩ := band (show (notStar e && chE ck a e && chA ck r es) = true from h)
      obtain ⟨h1, h2⟩ := band h
      exact as_cons (sE F a e h2) (sA F r es h3) (star_of h1)
  | .v _, _, h | .c _, _, h | .g _, _, h | .bin _ _ _, _, h | .cmp _ _ _, _, h | .ix _ _, _, h | .neg _, _, h | .not _, _, h | .ite _ _ _, _, h | .andv _, _, h | .orv _, _, h | .one _, _, h | .val _, _, h | .tup _, _, h | .frz _, _, h | .alc _, _, h | .disp _, _, h | .lis _, _, h | .comp _ _ _ _ _, _, h | .blt _ _, _, h | .call _ _, _, h | .meth _ _ _, _, h | .sl _ _ _, _, h | .non_, _, h | .some_ _, _, h | .isi _ _, _, h | .isi2 _ _ _, _, h | .rng _, _, h | .dsp _ _ _, _, h | .newd _, _, h | .enu _, _, h => by cases h
theorem sP {ck : Ck} {X : Cx} {W : WX} (F : Fx G n call ck X W) : ∀ (a : E) (ks : List Key) (keys : List (Option Expr)) (es : List Expr), ks.length = a.cnt → keysB ks keys = true → chA ck a es = true → ∃ kes, keys = kes.map some ∧ kes.length = ks.length ∧ Prs X G W kes es ks (evA ck.tb call a)
  | .nil, ks, keys, es, hl, hk, h => by
    cases es with
    | cons _ _ => cases h
    | nil =>
      cases ks with
      | cons _ _ => cases hl
      | nil =>
        cases keys with
        | nil => exact ⟨[], rfl, rfl, .nil⟩
        | cons _ _ => cases hk
  | .cons a r, ks, keys, es, hl, hk, h => by
    cases es with
    | nil => cases h
    | cons e es =>
      obtain ⟨h, h3⟩ := band (show (notStar e && chE ck a e && chA ck r es) = true from h)
      obtain ⟨h1, h2⟩ := band h
      cases ks with
      | nil => cases hl
      | cons k ks =>
        unfold keysB at hk
        split at hk
        · next e => cases e
        · next k' ks' c j p keys' e1 =>
          cases e1
          obtain ⟨k1, k2⟩ := band hk
          obtain ⟨kes, e1, e2, q⟩ := sP F r ks keys' es (Nat.succ.inj hl) k2 h3
          refine ⟨.Constant c j p :: kes, by rw [e1]; rfl, by simp [e2], .cons ?_ (sE F a e h2) q⟩
          exact keyC_ok k1
        · cases hk
  | .v _, _, _, _, _, _, h | .c _, _, _, _, _, _, h | .g _, _, _, _, _, _, h | .bin _ _ _, _, _, _, _, _, h | .cmp _ _ _, _, _, _, _, _, h | .ix _ _, _, _, _, _, _, h | .neg _, _, _, _, _, _, h | .not _, _, _, _, _, _, h | .ite _ _ _, _, _, _, _, _, h | .andv _, _, _, _, _, _, h | .orv _, _, _, _, _, _, h | .one _, _, _, _, _, _, h | .val _, _, _, _, _, _, h | .tup _, _, _, _, _, _, h | .frz _, _, _, _, _, _, h | .alc _, _, _, _, _, _, h | .disp _, _, _, _, _, _, h | .lis _, _, _, _, _, _, h | .comp _ _ _ _ _, _, _, _, _, _, h | .blt _ _, _, _, _, _, _, h | .call _ _, _, _, _, _, _, h | .meth _ _ _, _, _, _, _, _, h | .sl _ _ _, _, _, _, _, _, h | .non_, _, _, _, _, _, h | .some_ _, _, _, _, _, _, h | .isi _ _, _, _, _, _, _, h | .isi2 _ _ _, _, _, _, _, _, h | .rng _, _, _, _, _, _, h | .dsp _ _ _, _, _, _, _, _, h | .newd _, _, _, _, _, _, h | .enu _, _, _, _, _, _, h => by cases h
theorem sN {ck : Ck} {X : Cx} {W : WX} (F : Fx G n call ck X W) : ∀ (a : E) (e : Expr), chN ck a e = true → PE X e (tN X.K G W (evN ck.tb call a))
  | .disp r, e, h => by
    cases e with
    | List es p =>
      obtain ⟨h1, h2⟩ := band h
      exact n_disp (sA F r es h2) fun sl st xs st' hx => by rw [evA_len hx]; exact of_decide_eq_true h1
    | _ => cases h
  | .lis r, e, h => by
    have h : (match asCall e with
      | some (x, es) => decide (x = ("list" : Str)) && nbB ck x && !es.isEmpty && chA ck r es
      | none => false) = true := h
    split at h
    · next x es e1 =>
      obtain ⟨p, pos, rfl⟩ := asCall_ok e1
      obtain ⟨h, h4⟩ := band h
      obtain ⟨h, h3⟩ := band h
      obtain ⟨h1, h2⟩ := band h
      cases of_decide_eq_true h1
      cases es with
      | nil => cases h3
      | cons e' es =>
        obtain ⟨g, hm⟩ := F.nbs h2
        obtain ⟨p1, p2⟩ := band (by simpa using (chA_plain h4).1 : (notStar e' && es.all notStar) = true)
        exact n_ty b_list g hm PyProof.Rows.boot_list (sA F r _ h4) (by decide) (by decide) (star_of p1) (plain_any p2)
    · cases h
  | .comp vs t it ifs x, e, h => by
    have h : (match asComp e with
      | some (elt, tg, iter, tests, ia, scope) => decide (ia = 0) && notSet iter && blkC ck.N ck.sc scope (ck.own vs) && decide (∀ i ∈ t.sl, i ∈ vs) &&
          chI ck it tg iter && chG (ck.blk scope) t tg && chIf (ck.blk scope) ifs tests && chE (ck.blk scope) x elt
      | none => false) = true := h
    split at h
    · next elt tg iter tests ia scope e1 =>
      obtain ⟨pos, rfl⟩ := asComp_ok e1
      obtain ⟨h, h8⟩ := band h
      obtain ⟨h, h7⟩ := band h
      obtain ⟨h, h6⟩ := band h
      obtain ⟨h, h5⟩ := band h
      obtain ⟨h, h4⟩ := band h
      obtain ⟨h, h3⟩ := band h
      obtain ⟨h1, h2⟩ := band h
      cases of_decide_eq_true h1
      have bo : BlkOk X.N X.env.scope scope (ck.own vs) := by rw [F.N, F.sc]; exact blkOk_by h3
      have q := n_comp (G := G) (W := W) (pos := pos) F.calm F.nd (sI F it tg iter h5) bo (by rw [own_map]; exact of_decide_eq_true h4) (fun s H C cl fp => chG_ok F.blk h6) (fun s H C cl fp => sIf F.blk ifs tests h7) (fun s H C cl fp => sE F.blk x elt h8) (folded_of h2)
      rw [own_map] at q
      exact q
    · cases h
  | .v _, _, h | .c _, _, h | .g _, _, h | .bin _ _ _, _, h | .cmp _ _ _, _, h | .ix _ _, _, h | .neg _, _, h | .not _, _, h | .ite _ _ _, _, h | .andv _, _, h | .orv _, _, h | .nil, _, h | .cons _ _, _, h | .one _, _, h | .val _, _, h | .tup _, _, h | .frz _, _, h | .alc _, _, h | .blt _ _, _, h | .call _ _, _, h | .meth _ _ _, _, h | .sl _ _ _, _, h | .non_, _, h | .some_ _, _, h | .isi _ _, _, h | .isi2 _ _ _, _, h | .rng _, _, h | .dsp _ _ _, _, h | .newd _, _, h | .enu _, _, h => by cases h
theorem sIf {ck : Ck} {X : Cx} {W : WX} (F : Fx G n call ck X W) : ∀ (a : E) (es : List Expr), chIf ck a es = true → PTs X es (tT X.K G W (evIf ck.tb call a))
  | .nil, es, h => by
    cases es with
    | nil => exact ts_nil
    | cons _ _ => cases h
  | .one a, es, h => by
    match es, h with
    | [e], h => exact pts_one (sT F a e h)
    | [], h => cases h
    | _ :: _ :: _, h => cases h
  | .v _, _, h | .c _, _, h | .g _, _, h | .bin _ _ _, _, h | .cmp _ _ _, _, h | .ix _ _, _, h | .neg _, _, h | .not _, _, h | .ite _ _ _, _, h | .andv _, _, h | .orv _, _, h | .cons _ _, _, h | .val _, _, h | .tup _, _, h | .frz _, _, h | .alc _, _, h | .disp _, _, h | .lis _, _, h | .comp _ _ _ _ _, _, h | .blt _ _, _, h | .call _ _, _, h | .meth _ _ _, _, h | .sl _ _ _, _, h | .non_, _, h | .some_ _, _, h | .isi _ _, _, h | .isi2 _ _ _, _, h | .rng _, _, h | .dsp _ _ _, _, h | .newd _, _, h | .enu _, _, h => by cases h
theorem sI {ck : Ck} {X : Cx} {W : WX} (F : Fx G n call ck X W) : ∀ (a : E) (tg e : Expr), chI ck a tg e = true → PI X tg e (tI X.K G W (evI ck.tb call a))
  | .rng r, tg, e, h => by
    have h : (match asCall e with
      | some (x, es) => decide (x = ("range" : Str)) && nbB ck x && decide (r.cnt = es.length) && (es.length == 1 || es.length == 2) && chA ck r es
      | none => false) = true := h
    split at h
    · next x es e1 =>
      obtain ⟨p, pos, rfl⟩ := asCall_ok e1
      obtain ⟨h, h5⟩ := band h
      obtain ⟨h, h4⟩ := band h
      obtain ⟨h, h3⟩ := band h
      obtain ⟨h1, h2⟩ := band h
      cases of_decide_eq_true h1
      obtain ⟨g, hm⟩ := F.nbs h2
      have h3 := of_decide_eq_true h3
      have hA := sA F r es h5
      match es, h3, h4, h5, hA with
      | [a], h3, h4, h5, hA =>
        obtain ⟨p1, p2⟩ := band (by simpa using (chA_plain h5).1 : (notStar a && [].all notStar) = true)
        exact i_rng1 g hm hA (star_of p1) fun sl st xs st' hx => (evA_len hx).trans h3
      | [a, b], h3, h4, h5, hA =>
        obtain ⟨p1, p2⟩ := band (show (notStar a && [b].all notStar) = true from (chA_plain h5).1)
        obtain ⟨p2, p3⟩ := band (show (notStar b && [].all notStar) = true from p2)
        exact i_rng2 g hm hA ((star_of p1).trans (by rw [star_of p2]; rfl)) (star_of p2) fun sl st xs st' hx => (evA_len hx).trans h3
      | [], _, h4, _, _ => cases h4
      | _ :: _ :: _ :: _, _, h4, _, _ => exact absurd h4 (by simp)
    · cases h
  | .enu r, tg, e, h => by
    have h : (match asCall e with
      | some (x, es) => decide (x = ("enumerate" : Str)) && nbB ck x && isTup tg && decide (es.length = 1) && chA ck r es
      | none => false) = true := h
    split at h
    · next x es e1 =>
      obtain ⟨p, pos, rfl⟩ := asCall_ok e1
      obtain ⟨h, h5⟩ := band h
      obtain ⟨h, h4⟩ := band h
      obtain ⟨h, h3⟩ := band h
      obtain ⟨h1, h2⟩ := band h
      cases of_decide_eq_true h1
      obtain ⟨g, hm⟩ := F.nbs h2
      have h4 := of_decide_eq_true h4
      have hA := sA F r es h5
      match es, h4, h5, hA with
      | [a], h4, h5, hA =>
        obtain ⟨p1, p2⟩ := band (by simpa using (chA_plain h5).1 : (notStar a && [].all notStar) = true)
        cases tg with
        | Tuple ts k q => exact i_enu g hm hA (star_of p1)
        | _ => cases h3
      | [], h4, _, _ => cases h4
      | _ :: _ :: _, h4, _, _ => exact absurd h4 (by simp)
    · cases h
  | .one a, tg, e, h => i_ex (sE F a e h)
  | .v _, _, _, h | .c _, _, _, h | .g _, _, _, h | .bin _ _ _, _, _, h | .cmp _ _ _, _, _, h | .ix _ _, _, _, h | .neg _, _, _, h | .not _, _, _, h | .ite _ _ _, _, _, h | .andv _, _, _, h | .orv _, _, _, h | .nil, _, _, h | .cons _ _, _, _, h | .val _, _, _, h | .tup _, _, _, h | .frz _, _, _, h | .alc _, _, _, h | .disp _, _, _, h | .lis _, _, _, h | .comp _ _ _ _ _, _, _, h | .blt _ _, _, _, h | .call _ _, _, _, h | .meth _ _ _, _, _, h | .sl _ _ _, _, _, h | .non_, _, _, h | .some_ _, _, _, h | .isi _ _, _, _, h | .isi2 _ _ _, _, _, h | .dsp _ _ _, _, _, h | .newd _, _, _, h => by cases h
theorem sO {ck : Ck} {X : Cx} {W : WX} (F : Fx G n call ck X W) : ∀ (a : E) (o : Option Expr), chO ck a o = true → PO X o (tOp1 X.K G W (evO ck.tb call a))
  | .non_, o, h => by
    cases o with
    | none => exact o_none
    | some _ => cases h
  | .some_ a, o, h => by
    cases o with
    | none => cases h
    | some e => exact o_some (sE F a e h)
  | .v _, _, h | .c _, _, h | .g _, _, h | .bin _ _ _, _, h | .cmp _ _ _, _, h | .ix _ _, _, h | .neg _, _, h | .not _, _, h | .ite _ _ _, _, h | .andv _, _, h | .orv _, _, h | .nil, _, h | .cons _ _, _, h | .one _, _, h | .val _, _, h | .tup _, _, h | .frz _, _, h | .alc _, _, h | .disp _, _, h | .lis _, _, h | .comp _ _ _ _ _, _, h | .blt _ _, _, h | .call _ _, _, h | .meth _ _ _, _, h | .sl _ _ _, _, h | .isi _ _, _, h | .isi2 _ _ _, _, h | .rng _, _, h | .dsp _ _ _, _, h | .newd _, _, h | .enu _, _, h => by cases h
end
end
end Hb

set_option Elab.async false
set_option linter.all false
set_option maxRecDepth 100000
set_option maxHeartbeats 8000000
/-! Part O: statements as data, what they compute, the check, its soundness. -/
namespace Hb
open PySem PySem.Spec L2
section
variable {X : Cx} {G : Gd} {W : WX} {pos : Pos}
theorem gName_of {K : PySem.W.Frag} {i : Nat} {v : V} {σ : L2.St} {H : Hp} {Q : L2.St → Hp → Prop} (h : gT K (.nm i) v σ H Q) : gName i v σ H Q := by
  obtain ⟨ω, ρ, sl, st, d, sl1, a, rv, e, q⟩ := h
  cases e
  exact q _ (a.slo.set rv) fun vs hv => wipe_set vs σ (hv i (by simp [Tg.sl]))
/-- name = [.. for ..] -/
theorem s_setc {i : Nat} {y : Str} {py : Pos} {elt tg iter : Expr} {ifs : List Expr} {scope : Scope} {own : List (Str × Nat)} {spos : Pos} {t : Tg} {di : De Hb.Its} {dt : De Bool} {de : De D} {f : De (List D) → De D} (hf : ∀ {K : PySem.W.Frag} {d : De (List D)} {σ : L2.St} {H : Hp} {Q : VK}, tD K G W (f d) σ H Q → tN K G W d σ H Q) (hc : X.calm = true) (hN : X.N.Nodup) (hy : X.N[i]? = some y) (hyl : X.env.scope.names.lookup y = some .local)
    (hsw : swapsWith (.ListComp elt [⟨tg, iter, ifs, 0⟩] scope pos) (some (.Name y py)) spos.line X.env = pure true) (hi : PI X tg iter (tI X.K G W di)) (ok : BlkOk X.N X.env.scope scope own)
    (hv : ∀ i ∈ t.sl, i ∈ own.map (·.2))
    (hg : ∀ (s : Shared) (H : Hp) (C : Addr) (cl : List (Str × Addr)) (fp : List Addr), PG (X.blk s H scope (compEnvC scope cl C X.env) fp) tg (gT X.K t))
    (ht : ∀ (s : Shared) (H : Hp) (C : Addr) (cl : List (Str × Addr)) (fp : List Addr), PTs (X.blk s H scope (compEnvC scope cl C X.env) fp) ifs (tT X.K G WF dt))
    (he : ∀ (s : Shared) (H : Hp) (C : Addr) (cl : List (Str × Addr)) (fp : List Addr), PE (X.blk s H scope (compEnvC scope cl C X.env) fp) elt (tD X.K G WF de)) (hs : ∀ x, foldedSetIterable iter X.env x = pure x) :
    PS X (.Assign [.Name y py] (.ListComp elt [⟨tg, iter, ifs, 0⟩] scope pos) spos) (tS X.K G W (Ds.set (.nm i) (f (dComp (own.map (·.2)) di t dt de)))) :=
  PS.imp (ps_setLc hc hN hy hyl hsw hi ok hg ht he hs) fun D σ H h => by
    have h1 : tAsg (tD X.K G W (f (dComp (own.map (·.2)) di t dt de))) (gT X.K (.nm i)) D σ H := set_imp h
    have h2 : tD X.K G W (f (dComp (own.map (·.2)) di t dt de)) σ H (fun x H1 => gName i x σ H1 D.nx) := tG.mono h1 fun b H' q => gName_of q
    exact comp_imp hv σ H _ (hf h2)
/-- names = values, each its own -/
def Ds.par (is : List Nat) (d : De (List D)) : Ds := Ds.of d fun xs sl st => if is.length = xs.length then some (.nx, setAll is xs sl, st) else none
theorem s_par2 {i j : Nat} {x y : Str} {a b : Expr} {d : De (List D)} {px py pt : Pos} {kt k2 pt2} (hc : X.calm = true) (hN : X.N.Nodup) (hi : X.N[i]? = some x) (hj : X.N[j]? = some y) (hij : i ≠ j)
    (hx : X.env.scope.names.lookup x = some .local) (hy : X.env.scope.names.lookup y = some .local) (ha : PA X [a, b] (tAs X.K G W d))
    (hw : swappedStores [.Tuple [.Name x px, .Name y py] kt pt] (.Tuple [a, b] k2 pt2) X.env = pure (some [x, y])) :
    PS X (.Assign [.Tuple [.Name x px, .Name y py] kt pt] (.Tuple [a, b] k2 pt2) pos) (tS X.K G W (Ds.par [i, j] d)) :=
  PS.imp (ps_par hc hN hi hj hij hx hy ha hw) fun D σ H h => by
    obtain ⟨ω, ρ, sl, st, a, h⟩ := h
    refine tG.mono (splitS a h) fun xs' H1 ⟨xs, ρ1, st1, E1, e1, a1, r1, h1⟩ => ?_
    split at h1
    · next hl =>
      cases r1 with
      | nil => cases hl
      | cons p q =>
        cases q with
        | nil => cases hl
        | cons p' q' =>
          cases q' with
          | cons _ _ => simp at hl
          | nil => exact ⟨_, _, rfl, h1 _ H1 ρ1 .refl ⟨a1.sto, (a1.slo.set p).set p'⟩⟩
    · exact h1.elim
theorem s_par3 {i j l : Nat} {x y z : Str} {a b c : Expr} {d : De (List D)} {px py pz pt : Pos} {kt k2 pt2} (hc : X.calm = true) (hN : X.N.Nodup) (hi : X.N[i]? = some x) (hj : X.N[j]? = some y) (hl : X.N[l]? = some z) (hij : i ≠ j) (hil : i ≠ l) (hjl : j ≠ l)
    (hx : X.env.scope.names.lookup x = some .local) (hy : X.env.scope.names.lookup y = some .local) (hz : X.env.scope.names.lookup z = some .local) (ha : PA X [a, b, c] (tAs X.K G W d))
    (hw : swappedStores [.Tuple [.Name x px, .Name y py, .Name z pz] kt pt] (.Tuple [a, b, c] k2 pt2) X.env = pure (some [x, y, z])) :
    PS X (.Assign [.Tuple [.Name x px, .Name y py, .Name z pz] kt pt] (.Tuple [a, b, c] k2 pt2) pos) (tS X.K G W (Ds.par [i, j, l] d)) :=
  PS.imp (ps_par3 hc hN hi hj hl hij hil hjl hx hy hz ha hw) fun D σ H h => by
    obtain ⟨ω, ρ, sl, st, a, h⟩ := h
    refine tG.mono (splitS a h) fun xs' H1 ⟨xs, ρ1, st1, E1, e1, a1, r1, h1⟩ => ?_
    split at h1
    · next hl =>
      cases r1 with
      | nil => cases hl
      | cons p q =>
        cases q with
        | nil => simp at hl
        | cons p' q' =>
          cases q' with
          | nil => simp at hl
          | cons p'' q'' =>
            cases q'' with
            | cons _ _ => simp at hl
            | nil => exact ⟨_, _, _, rfl, h1 _ H1 ρ1 .refl ⟨a1.sto, ((a1.slo.set p).set p').set p''⟩⟩
    · exact h1.elim
end
/-- statements -/
inductive S where
  | nop | brk | cnt | exp (e : E) | ret (e : E) | retn | ite (c : E) (a b : S) | set (t : Tg) (e : E) | setc (i : Nat) (al : Bool) (e : E) | par (is : List Nat) (r : E) | put (e o i : E)
  | raise (c : Nat) (e : E) | for_ (t : Tg) (it : E) (b : S) | while_ (n : Nat) (c : E) (b : S) | try_ (b : S) (hs : List Hd) | nil | seq (a r : S)
section
variable (tb : Tb) (cfl : Nat → Str) (call : Nat → Cl)
def evS : S → Ds
  | .nop => Ds.nx
  | .nil => Ds.nx
  | .brk => fun sl st => some (.bk, sl, st)
  | .cnt => fun sl st => some (.ct, sl, st)
  | .exp e => Ds.of (evE tb call e) fun _ => Ds.nx
  | .ret e => Ds.of (evE tb call e) fun v sl st => some (.rt v, sl, st)
  | .retn => fun sl st => some (.rt .non, sl, st)
  | .ite c a b => Ds.ife (evT tb call c) (evS a) (evS b)
  | .set t e => Ds.set t (evE tb call e)
  | .setc i al e => Ds.set (.nm i) (cond al (De.alc (evN tb call e)) (De.frz (evN tb call e)))
  | .par is r => Ds.par is (evA tb call r)
  | .put e o i => Ds.putD (evE tb call e) (evE tb call o) (evE tb call i)
  | .raise c e => Ds.of (evE tb call e) fun x sl st => some (.ex c x, sl, st)
  | .for_ t it b => Ds.for_ t (evI tb call it) (evS b)
  | .while_ n c b => whileL (evT tb call c) (evS b) n
  | .try_ b hs => Ds.try_ tb.sub cfl (evS b) hs
  | .seq a r => Ds.seq (evS a) (evS r)
end
/-! ### the check -/
def notComp : Expr → Bool
  | .ListComp _ _ _ _ => false
  | .SetComp _ _ _ _ => false
  | .DictComp _ _ _ _ _ => false
  | _ => true
/-- a, b = .. whose value is no display, or one of constants -/
def tupVal : Expr → Bool
  | .Tuple vs _ _ => vs.all (foldedForSure 8)
  | .ListComp _ _ _ _ => false
  | .SetComp _ _ _ _ => false
  | .DictComp _ _ _ _ _ => false
  | _ => true
def cellTg (ck : Ck) (ts : List Expr) : Bool := ts.any fun
  | .Name x _ => decide (ck.lk x = some .cell)
  | _ => false
def setB (ck : Ck) : Expr → Expr → Bool
  | .Name x _, e => notComp e || decide (ck.lk x = some .cell)
  | .Tuple ts _ _, e => tupVal e || (notComp e && cellTg ck ts)
  | _, _ => false
def locB (ck : Ck) (x : Str) (i : Nat) : Bool := decide (ck.N[i]? = some x) && decide (ck.lk x = some .local)
def asSet1 : Stmt → Option (Expr × Expr)
  | .Assign [t] e _ => some (t, e)
  | _ => none
def asRaise : Stmt → Option (Str × Expr)
  | .Raise (some (.Call (.Name x _) [e] [] _)) none _ => some (x, e)
  | _ => none
def asTry : Stmt → Option (List Stmt × List ExceptHandler)
  | .Try body (h :: hs) [] [] _ => some (body, h :: hs)
  | _ => none
/-- what swappedStores asks of a, b = x, y -/
def parB (ck : Ck) (ps : List (Str × Pos)) (vs : List Expr) : Bool :=
  vs.all notStar && !(vs.all (foldedForSure 8)) && !(vs.all (constantsAlone 8)) && (ps.all fun p => p.2.line == ((ps.map (·.2.line)).head?).getD 0)
def asPar2 : Stmt → Option ((Str × Pos) × (Str × Pos) × Expr × Expr)
  | .Assign [.Tuple [.Name x px, .Name y py] _ _] (.Tuple [a, b] _ _) _ => some ((x, px), (y, py), a, b)
  | _ => none
def asPar3 : Stmt → Option ((Str × Pos) × (Str × Pos) × (Str × Pos) × Expr × Expr × Expr)
  | .Assign [.Tuple [.Name x px, .Name y py, .Name z pz] _ _] (.Tuple [a, b, c] _ _) _ => some ((x, px), (y, py), (z, pz), a, b, c)
  | _ => none
def asPut : Stmt → Option (Expr × Expr × Expr)
  | .Assign [.Subscript o i _] e _ => some (o, i, e)
  | _ => none
def asSetc : Stmt → Option (Str × Pos × Expr × Scope × Pos)
  | .Assign [.Name y py] (.ListComp elt gs scope pos) _ => some (y, py, .ListComp elt gs scope pos, scope, pos)
  | _ => none
def cstB : Expr → D → Bool
  | .Constant k _ _, d => cst k d
  | _, _ => false
def ptB (n : Option Str) : Expr → Pt → Bool
  | e, .c d => cstB e d
  | .Attribute (.Name x _) fl _, .f g => decide (n = some x) && decide (fl = g)
  | _, _ => false
def ptsB (n : Option Str) : List Expr → List Pt → Bool
  | [], [] => true
  | e :: es, p :: ps => ptB n e p && ptsB n es ps
  | _, _ => false
def asHd : ExceptHandler → Option (Str × Option Str × Str × Expr)
  | .ExceptHandler (some (.Name x _)) n [.Assign [.Name tx _] e _] _ => some (x, n, tx, e)
  | _ => none
def chH (ck : Ck) (h : Hd) (eh : ExceptHandler) : Bool := match asHd eh with
  | some (x, n, tx, e) => decide (ck.tb.cls[h.c]? = some x) && glB ck x && locB ck tx h.t && h.fine && (match n, h.nm with
    | some y, some i => locB ck y i && okName y
    | none, none => true
    | _, _ => false) && (match e, h.one, h.ps with
    | .Tuple es _ _, false, ps => ptsB n es ps
    | e, true, [p] => ptB n e p
    | _, _, _ => false)
  | none => false
def chHs (ck : Ck) : List Hd → List ExceptHandler → Bool
  | [], [] => true
  | h :: hs, e :: es => chH ck h e && chHs ck hs es
  | _, _ => false
mutual
def chS (ck : Ck) : S → Stmt → Bool
  | .nop, s => (match s with
    | .Pass _ => true
    | .Expr (.Constant (.str _) _ _) _ => true
    | _ => false)
  | .brk, s => (match s with
    | .Break _ => true
    | _ => false)
  | .cnt, s => (match s with
    | .Continue _ => true
    | _ => false)
  | .exp e, s => (match s with
    | .Expr x _ => notComp x && chE ck e x
    | _ => false)
  | .ret e, s => (match s with
    | .Return (some x) _ => chE ck e x
    | _ => false)
  | .retn, s => (match s with
    | .Return none _ => true
    | _ => false)
  | .ite c a b, s => (match s with
    | .If t x y _ => chT ck c t && chSs ck a x && chSs ck b y
    | _ => false)
  | .set t e, s => (match asSet1 s with
    | some (tg, x) => chG ck t tg && setB ck tg x && chE ck e x
    | none => false)
  | .setc i _ e, s => (match asSetc s with
    | some (y, py, x, scope, pos) => locB ck y i && (py.line == pos.line) && !(scope.names.any fun (n, k) => n == y && (k == .local || k == .cell)) && chN ck e x
    | none => false)
  | .par is r, s => (match is with
    | [i, j] => (match asPar2 s with
      | some (x, y, a, b) => decide (i ≠ j) && locB ck x.1 i && locB ck y.1 j && parB ck [x, y] [a, b] && chA ck r [a, b]
      | none => false)
    | [i, j, l] => (match asPar3 s with
      | some (x, y, z, a, b, c) => decide (i ≠ j) && decide (i ≠ l) && decide (j ≠ l) && locB ck x.1 i && locB ck y.1 j && locB ck z.1 l && parB ck [x, y, z] [a, b, c] && chA ck r [a, b, c]
      | none => false)
    | _ => false)
  | .put e o i, s => (match asPut s with
    | some (x, y, z) => notComp z && notSlice y && chE ck o x && chE ck i y && chE ck e z
    | none => false)
  | .raise c e, s => (match asRaise s with
    | some (x, y) => decide (ck.tb.cls[c]? = some x) && decide (c ∈ ck.tb.xcs) && glB ck x && notStar y && chE ck e y
    | none => false)
  | .for_ t it b, s => (match s with
    | .For tg iter body els _ => els.isEmpty && notSet iter && chI ck it tg iter && chG ck t tg && chSs ck b body
    | _ => false)
  | .while_ _ c b, s => (match s with
    | .While t body els _ => els.isEmpty && chT ck c t && chSs ck b body
    | _ => false)
  | .try_ b hs, s => (match asTry s with
    | some (body, ehs) => chHs ck hs ehs && chSs ck b body
    | none => false)
  | _, _ => false
def chSs (ck : Ck) : S → List Stmt → Bool
  | .nil, ss => ss.isEmpty
  | .seq a r, ss => (match ss with
    | s :: ss => chS ck a s && chSs ck r ss
    | [] => false)
  | _, _ => false
end
end Hb

set_option Elab.async false
set_option linter.all false
set_option maxRecDepth 100000
set_option maxHeartbeats 8000000
/-! Part P: statements: what the check lets pass computes as the data say. -/
namespace Hb
open PySem PySem.Spec L2
structure Fs (G : Gd) (n : Nat) (call : Nat → Cl) (ck : Ck) (X : Cx) (W : WX) : Prop extends Fx G n call ck X W where
  own : PassesOwn (model X.prog X.w) X.A X.env X.xe
  stk : X.stack = X.env :: X.outer
  frm : X.env.frame = some X.env.locals
  kind : ck.sc.kind = .function
  two : 2 ≤ n
section
variable {G : Gd} {n : Nat} {call : Nat → Cl} {ck : Ck} {X : Cx} {W : WX}
theorem Fs.tr (F : Fs G n call ck X W) {pn : List (Addr × Obj)} {xe : Value → Shared → Prop} {W' : WX} (tk : Takes (X.tr pn xe) W') (po : PassesOwn (model X.prog X.w) X.A X.env xe) : Fs G n call ck (X.tr pn xe) W' where
  gb := F.gb
  N := F.N
  nd := F.nd
  sc := F.sc
  calm := F.calm
  fn := F.fn
  tk := tk
  rm := F.rm
  own := po
  stk := F.stk
  frm := F.frm
  kind := F.kind
  two := F.two
theorem asSet1_ok {s : Stmt} {t e : Expr} (h : asSet1 s = some (t, e)) : ∃ p, s = .Assign [t] e p := by
  unfold asSet1 at h; split at h
  · cases h; exact ⟨_, rfl⟩
  · cases h
theorem asRaise_ok {s : Stmt} {x : Str} {e : Expr} (h : asRaise s = some (x, e)) : ∃ p q r, s = .Raise (some (.Call (.Name x p) [e] [] q)) none r := by
  unfold asRaise at h; split at h
  · cases h; exact ⟨_, _, _, rfl⟩
  · cases h
theorem asTry_ok {s : Stmt} {b : List Stmt} {hs : List ExceptHandler} (h : asTry s = some (b, hs)) : ∃ p e es, hs = e :: es ∧ s = .Try b (e :: es) [] [] p := by
  unfold asTry at h; split at h
  · cases h; exact ⟨_, _, _, rfl, rfl⟩
  · cases h
theorem asPar2_ok {s : Stmt} {x y : Str × Pos} {a b : Expr} (h : asPar2 s = some (x, y, a, b)) : ∃ kt pt k2 pt2 p, s = .Assign [.Tuple [.Name x.1 x.2, .Name y.1 y.2] kt pt] (.Tuple [a, b] k2 pt2) p := by
  unfold asPar2 at h; split at h
  · cases h; exact ⟨_, _, _, _, _, rfl⟩
  · cases h
theorem asPar3_ok {s : Stmt} {x y z : Str × Pos} {a b c : Expr} (h : asPar3 s = some (x, y, z, a, b, c)) : ∃ kt pt k2 pt2 p, s = .Assign [.Tuple [.Name x.1 x.2, .Name y.1 y.2, .Name z.1 z.2] kt pt] (.Tuple [a, b, c] k2 pt2) p := by
  unfold asPar3 at h; split at h
  · cases h; exact ⟨_, _, _, _, _, rfl⟩
  · cases h
theorem asPut_ok {s : Stmt} {o i e : Expr} (h : asPut s = some (o, i, e)) : ∃ p q, s = .Assign [.Subscript o i p] e q := by
  unfold asPut at h; split at h
  · cases h; exact ⟨_, _, rfl⟩
  · cases h
theorem asSetc_ok {s : Stmt} {y : Str} {py pos : Pos} {x : Expr} {scope : Scope} (h : asSetc s = some (y, py, x, scope, pos)) : ∃ elt gs p, x = .ListComp elt gs scope pos ∧ s = .Assign [.Name y py] x p := by
  unfold asSetc at h; split at h
  · cases h; exact ⟨_, _, _, rfl, rfl⟩
  · cases h
theorem asHd_ok {e : ExceptHandler} {x tx : Str} {nm : Option Str} {v : Expr} (h : asHd e = some (x, nm, tx, v)) : ∃ p q r s, e = .ExceptHandler (some (.Name x p)) nm [.Assign [.Name tx q] v r] s := by
  unfold asHd at h; split at h
  · cases h; exact ⟨_, _, _, _, rfl⟩
  · cases h
theorem swaps_no {e : Expr} {t : Option Expr} {l : Nat} {env : Env} (h : notComp e = true) : swapsWith e t l env = pure false := by
  cases e <;> first | rfl | cases h
theorem swaps_tup {e : Expr} {es : List Expr} {k : Nat} {p : Pos} {l : Nat} {env : Env} (h : tupVal e = true) : swapsWith e (some (.Tuple es k p)) l env = pure false := by
  cases e <;> first | rfl | cases h
theorem stores_tup {e : Expr} {ts : List Expr} {k : Nat} {p : Pos} {env : Env} (h : tupVal e = true) : swappedStores [.Tuple ts k p] e env = pure none := by
  cases e with
  | Tuple vs k2 p2 =>
    have h : vs.all (foldedForSure 8) = true := h
    unfold swappedStores
    dsimp only
    split
    · rfl
    split
    · rfl
    split
    · rfl
    · first
        | rfl
        | (rw [if_pos h]; rfl)
  | _ => rfl
theorem Fs.loc (F : Fs G n call ck X W) {x : Str} {i : Nat} (h : locB ck x i = true) : X.N[i]? = some x ∧ X.env.scope.names.lookup x = some .local := by
  obtain ⟨h1, h2⟩ := band h
  exact ⟨by rw [F.N]; exact of_decide_eq_true h1, by rw [F.lk]; exact of_decide_eq_true h2⟩
theorem bor {a b : Bool} (h : (a || b) = true) : a = true ∨ b = true := by simpa using h
theorem swaps_nm (F : Fs G n call ck X W) {x : Expr} {y : Str} {q : Pos} {l : Nat} (h : setB ck (.Name y q) x = true) : swapsWithSole [.Name y q] x l X.env = pure false := by
  show swapsWith x (some (.Name y q)) l X.env = pure false
  rcases bor (show (notComp x || decide (ck.lk y = some .cell)) = true from h) with h | h
  · exact swaps_no h
  · have hk : X.env.kindOf y = some .cell := by
      show X.env.scope.names.lookup y = _
      rw [F.lk]
      exact of_decide_eq_true h
    unfold swapsWith
    have hn : (NameKind.cell == NameKind.local) = false := rfl
    cases x <;> simp [hk, hn] <;> rfl
theorem names_cell {env : Env} {line : Nat} (g : Expr → Option Str) (hg : ∀ e x, g e = some x → ∃ p, e = .Name x p ∧ env.kindOf x = some .local) : ∀ {ts : List Expr}, (∃ x p, (Expr.Name x p) ∈ ts ∧ env.kindOf x = some .cell) → (ts.filterMap g).length < ts.length
  | [], ⟨_, _, h, _⟩ => by cases h
  | t :: ts, ⟨x, p, h, k⟩ => by
    have le := List.length_filterMap_le g ts
    rw [List.filterMap_cons]
    cases e : g t with
    | none => show (ts.filterMap g).length < ts.length + 1; omega
    | some y =>
      rcases List.mem_cons.mp h with z | z
      · subst z
        obtain ⟨p', e1, e2⟩ := hg _ _ e
        cases e1
        rw [k] at e2; cases e2
      · have := names_cell g hg (line := line) ⟨x, p, z, k⟩
        show (ts.filterMap g).length + 1 < ts.length + 1
        omega
theorem set_tp (F : Fs G n call ck X W) {x : Expr} {ts : List Expr} {k : Nat} {q : Pos} {l : Nat} (h : setB ck (.Tuple ts k q) x = true) : swapsWithSole [.Tuple ts k q] x l X.env = pure false ∧ swappedStores [.Tuple ts k q] x X.env = pure none := by
  rcases bor (show (tupVal x || (notComp x && cellTg ck ts)) = true from h) with h | h
  · exact ⟨swaps_tup (es := ts) (k := k) (p := q) (l := l) (env := X.env) h, stores_tup h⟩
  · obtain ⟨h1, h2⟩ := band h
    refine ⟨swaps_no (e := x) (t := some (.Tuple ts k q)) (l := l) (env := X.env) h1, ?_⟩
    obtain ⟨t, ht, hc⟩ := List.any_eq_true.mp h2
    have hx : ∃ y p, (Expr.Name y p) ∈ ts ∧ X.env.kindOf y = some .cell := by
      cases t with
      | Name y p =>
        refine ⟨y, p, ht, ?_⟩
        show X.env.scope.names.lookup y = _
        rw [F.lk]
        exact of_decide_eq_true hc
      | _ => cases hc
    cases x with
    | Tuple vs k2 p2 =>
      unfold swappedStores
      dsimp only
      split
      · rfl
      split
      · rfl
      split
      · rfl
      · next hn =>
        exfalso
        apply hn
        have := names_cell (env := X.env) (line := 0) (fun
          | .Name id pos => if (X.env.kindOf id == some .local && pos.line == (ts.head?.map (·.pos.line)).getD 0) = true then some id else none
          | _ => none) (fun e y he => by
            cases e with
            | Name id pos =>
              dsimp only at he
              split at he
              · next hc =>
                cases he
                exact ⟨pos, rfl, by simpa using (band hc).1⟩
              · cases he
            | _ => cases he) hx
        rw [Bool.or_eq_true]
        left
        simp only [bne_iff_ne, ne_eq]
        exact Nat.ne_of_lt this
    | _ => rfl
theorem stores_par2 (F : Fs G n call ck X W) {x y : Str × Pos} {a b : Expr} {kt k2 : Nat} {pt pt2 : Pos} (hx : X.env.scope.names.lookup x.1 = some .local) (hy : X.env.scope.names.lookup y.1 = some .local) (hne : x.1 ≠ y.1) (h : parB ck [x, y] [a, b] = true) :
    swappedStores [.Tuple [.Name x.1 x.2, .Name y.1 y.2] kt pt] (.Tuple [a, b] k2 pt2) X.env = pure (some [x.1, y.1]) := by
  obtain ⟨h, h4⟩ := band h
  obtain ⟨h, h3⟩ := band h
  obtain ⟨h1, h2⟩ := band h
  have ky : X.env.kindOf y.1 = some .local := hy
  have kx : X.env.kindOf x.1 = some .local := hx
  have kd : X.env.scope.kind = .function := by rw [F.sc]; exact F.kind
  have hb : X.env.blockKind = .function := by unfold Env.blockKind; rw [kd]; rfl
  have hs : notStar a = true ∧ notStar b = true := by simpa using h1
  have hl : y.2.line = x.2.line := by
    simp only [List.all_cons, List.all_nil, Bool.and_true, Bool.and_eq_true, List.map_cons, List.head?_cons, Option.getD_some, beq_iff_eq] at h4
    exact h4.2
  have f1 : [a, b].all (foldedForSure 8) = false := by rw [Bool.not_eq_true'] at h2; exact h2
  have f2 : [a, b].all (constantsAlone 8) = false := by rw [Bool.not_eq_true'] at h3; exact h3
  unfold swappedStores
  simp only [hb, f1, f2, kx, ky, hl, List.length_cons, List.length_nil, List.head?_cons, Option.map_some, Option.getD_some, Expr.pos, List.filterMap_cons, List.filterMap_nil, beq_self_eq_true, Bool.and_self, if_true, Bool.false_eq_true, if_false]
  have hd : [x.1, y.1].eraseDups = [x.1, y.1] := by
    simp [List.eraseDups_cons, Ne.symm hne]
  simp [hd]
  rintro (h0 | h0)
  · exfalso
    have := hs.1
    revert this h0; cases a <;> simp [notStar]
  · exfalso
    have := hs.2
    revert this h0; cases b <;> simp [notStar]
theorem stores_par3 (F : Fs G n call ck X W) {x y z : Str × Pos} {a b c : Expr} {kt k2 : Nat} {pt pt2 : Pos} (hx : X.env.scope.names.lookup x.1 = some .local) (hy : X.env.scope.names.lookup y.1 = some .local) (hz : X.env.scope.names.lookup z.1 = some .local) (hxy : x.1 ≠ y.1) (hxz : x.1 ≠ z.1) (hyz : y.1 ≠ z.1) (h : parB ck [x, y, z] [a, b, c] = true) :
    swappedStores [.Tuple [.Name x.1 x.2, .Name y.1 y.2, .Name z.1 z.2] kt pt] (.Tuple [a, b, c] k2 pt2) X.env = pure (some [x.1, y.1, z.1]) := by
  obtain ⟨h, h4⟩ := band h
  obtain ⟨h, h3⟩ := band h
  obtain ⟨h1, h2⟩ := band h
  have ky : X.env.kindOf y.1 = some .local := hy
  have kx : X.env.kindOf x.1 = some .local := hx
  have kz : X.env.kindOf z.1 = some .local := hz
  have kd : X.env.scope.kind = .function := by rw [F.sc]; exact F.kind
  have hb : X.env.blockKind = .function := by unfold Env.blockKind; rw [kd]; rfl
  have hs : notStar a = true ∧ notStar b = true ∧ notStar c = true := by simpa using h1
  have hl : y.2.line = x.2.line ∧ z.2.line = x.2.line := by
    simp only [List.all_cons, List.all_nil, Bool.and_true, Bool.and_eq_true, List.map_cons, List.head?_cons, Option.getD_some, beq_iff_eq] at h4
    exact h4.2
  have f1 : [a, b, c].all (foldedForSure 8) = false := by rw [Bool.not_eq_true'] at h2; exact h2
  have f2 : [a, b, c].all (constantsAlone 8) = false := by rw [Bool.not_eq_true'] at h3; exact h3
  unfold swappedStores
  simp only [hb, f1, f2, kx, ky, kz, hl.1, hl.2, List.length_cons, List.length_nil, List.head?_cons, Option.map_some, Option.getD_some, Expr.pos, List.filterMap_cons, List.filterMap_nil, beq_self_eq_true, Bool.and_self, if_true, Bool.false_eq_true, if_false]
  have hd : [x.1, y.1, z.1].eraseDups = [x.1, y.1, z.1] := by
    simp [List.eraseDups_cons, Ne.symm hxy, Ne.symm hxz, Ne.symm hyz]
  simp [hd]
  rintro (h0 | h0 | h0)
  · exfalso
    have := hs.1
    revert this h0; cases a <;> simp [notStar]
  · exfalso
    have := hs.2.1
    revert this h0; cases b <;> simp [notStar]
  · exfalso
    have := hs.2.2
    revert this h0; cases c <;> simp [notStar]
theorem nodup_ne {α : Type} [DecidableEq α] {N : List α} {i j : Nat} {x y : α} (hN : N.Nodup) (hi : N[i]? = some x) (hj : N[j]? = some y) (h : i ≠ j) : x ≠ y := by
  rintro rfl
  obtain ⟨h1, e1⟩ := List.getElem?_eq_some_iff.mp hi
  obtain ⟨h2, e2⟩ := List.getElem?_eq_some_iff.mp hj
  have q := List.pairwise_iff_getElem.mp hN
  rcases Nat.lt_or_gt_of_ne h with z | z
  · exact q i j h1 h2 z (e1.trans e2.symm)
  · exact q j i h2 h1 z (e2.trans e1.symm)
theorem cstB_ok {e : Expr} {d : D} (h : cstB e d = true) : CstE e d := by
  cases e with
  | Constant k j p =>
    have h : cst k d = true := h
    unfold cst at h
    split at h
    · exact .non
    · cases eq_of_beq h; exact .bl
    · cases of_decide_eq_true h; exact .int
    · cases of_decide_eq_true h; exact .str
    · cases h
  | _ => cases h
theorem ptB_ok {nm : Option Str} {e : Expr} {p : Pt} (h : ptB nm e p = true) : PtE nm e p := by
  unfold ptB at h
  split at h
  · exact .c (cstB_ok h)
  · obtain ⟨h1, h2⟩ := band h
    cases of_decide_eq_true h2
    exact .f (of_decide_eq_true h1)
  · cases h
theorem ptsB_ok {nm : Option Str} : ∀ {es : List Expr} {ps : List Pt}, ptsB nm es ps = true → PtEs nm es ps
  | [], [], _ => .nil
  | e :: es, p :: ps, h => by
    obtain ⟨h1, h2⟩ := band (show (ptB nm e p && ptsB nm es ps) = true from h)
    exact .cons (ptB_ok h1) (ptsB_ok h2)
  | [], _ :: _, h => by cases h
  | _ :: _, [], h => by cases h
theorem chH_ok (F : Fs G n call ck X W) {h : Hd} {eh : ExceptHandler} (c : chH ck h eh = true) : HdE X G eh h ∧ h.fine = true ∧ h.c < ck.tb.cls.length := by
  unfold chH at c
  split at c
  · next x nm tx e e1 =>
    obtain ⟨p, q, r, s, rfl⟩ := asHd_ok e1
    obtain ⟨c, c6⟩ := band c
    obtain ⟨c, c5⟩ := band c
    obtain ⟨c, c4⟩ := band c
    obtain ⟨c, c3⟩ := band c
    obtain ⟨c1, c2⟩ := band c
    have c1 := of_decide_eq_true c1
    obtain ⟨g, hd⟩ := F.gl c2
    have hc : Names X x (.ref (G.cad h.c)) := ⟨g, hd, .inl (F.gb.cl h.c x c1)⟩
    obtain ⟨t1, t2⟩ := F.loc c3
    refine ⟨?_, c4, (List.getElem?_eq_some_iff.mp c1).1⟩
    have hnm : ∀ y, nm = some y → ∃ i, h.nm = some i ∧ X.N[i]? = some y ∧ X.env.kindOf y = some .local ∧ (y == ("__debug__" : Str)) = false ∧ (y == ("__classdict__" : Str)) = false := by
      rintro y rfl
      split at c5
      · next y' i e2 e3 =>
        cases e2
        obtain ⟨a, b⟩ := band c5
        obtain ⟨l1, l2⟩ := F.loc a
        exact ⟨i, e3, l1, l2, okName_ok b⟩
      · next e2 _ => cases e2
      · cases c5
    have hnm0 : nm = none → h.nm = none := by
      rintro rfl
      split at c5
      · next e2 _ => cases e2
      · assumption
      · cases c5
    split at c6
    · next es k p' ps e2 e3 => exact .many hc hnm hnm0 t1 t2 (ptsB_ok c6) (by assumption)
    · next e' pt e2 e3 => exact .one hc hnm hnm0 t1 t2 (ptB_ok c6) (by assumption) (by assumption)
    · cases c6
  · cases c
theorem chHs_ok (F : Fs G n call ck X W) : ∀ {hs : List Hd} {es : List ExceptHandler}, chHs ck hs es = true → HdEs X G es hs ∧ ∀ h ∈ hs, h.fine = true ∧ h.c < ck.tb.cls.length
  | [], [], _ => ⟨.nil, fun h hh => by cases hh⟩
  | h :: hs, e :: es, c => by
    obtain ⟨c1, c2⟩ := band (show (chH ck h e && chHs ck hs es) = true from c)
    obtain ⟨a, b⟩ := chH_ok F c1
    obtain ⟨r, f⟩ := chHs_ok F c2
    exact ⟨.cons a r, fun h' hh => by
      rcases List.mem_cons.mp hh with z | z
      · subst z; exact b
      · exact f h' z⟩
  | [], _ :: _, h => by cases h
  | _ :: _, [], h => by cases h
theorem locs (F : Fs G n call ck X W) {x y : Str} {i j : Nat} (hi : X.N[i]? = some x) (hj : X.N[j]? = some y) (h : i ≠ j) : x ≠ y := nodup_ne F.nd hi hj h
mutual
theorem sS {ck : Ck} {X : Cx} {W : WX} (F : Fs G n call ck X W) : ∀ (a : S) (s : Stmt), chS ck a s = true → PS X s (tS X.K G W (evS ck.tb G.cfl call a))
  | .nop, s, h => by
    have h : (match (generalizing := false) s with
      | .Pass _ => true
      | .Expr (.Constant (.str _) _ _) _ => true
      | _ => false) = true := h
    split at h
    · exact s_pass
    · exact s_doc
    · cases h
  | .brk, s, h => by
    cases s with
    | Break p => exact s_brk
    | _ => cases h
  | .cnt, s, h => by
    cases s with
    | Continue p => exact s_cnt
    | _ => cases h
  | .exp e, s, h => by
    cases s with
    | Expr x p =>
      obtain ⟨h1, h2⟩ := band h
      exact s_expr (sE F.toFx e x h2) (swaps_no h1)
    | _ => cases h
  | .ret e, s, h => by
    cases s with
    | Return o p =>
      cases o with
      | none => cases h
      | some x => exact s_ret (sE F.toFx e x h)
    | _ => cases h
  | .retn, s, h => by
    cases s with
    | Return o p =>
      cases o with
      | none => exact s_retN
      | some x => cases h
    | _ => cases h
  | .ite c a b, s, h => by
    cases s with
    | If t x y p =>
      obtain ⟨h, h3⟩ := band h
      obtain ⟨h1, h2⟩ := band h
      exact s_if (sT F.toFx c t h1) (sSs F a x h2) (sSs F b y h3)
    | _ => cases h
  | .set t e, s, h => by
    have h : (match asSet1 s with
      | some (tg, x) => chG ck t tg && setB ck tg x && chE ck e x
      | none => false) = true := h
    split at h
    · next tg x e1 =>
      obtain ⟨p, rfl⟩ := asSet1_ok e1
      obtain ⟨h, h3⟩ := band h
      obtain ⟨h1, h2⟩ := band h
      have g := chG_ok F.toFx h1
      cases t with
      | nm i =>
        cases tg with
        | Name y q => exact s_set (sE F.toFx e x h3) g (swaps_nm (q := q) (l := p.line) F h2) rfl rfl
        | _ => cases h1
      | tp is =>
        cases tg with
        | Tuple ts k q =>
          obtain ⟨a1, a2⟩ := set_tp (k := k) (q := q) (l := p.line) F h2
          exact s_set (sE F.toFx e x h3) g a1 a2 rfl
        | _ => cases h1
    · cases h
  | .setc i al e, s, h => by
    have h : (match asSetc s with
      | some (y, py, x, scope, pos) => locB ck y i && (py.line == pos.line) && !(scope.names.any fun (n, k) => n == y && (k == .local || k == .cell)) && chN ck e x
      | none => false) = true := h
    split at h
    · next y py x scope pos e1 =>
      obtain ⟨elt, gs, p, rfl, rfl⟩ := asSetc_ok e1
      obtain ⟨h, h4⟩ := band h
      obtain ⟨h, h3⟩ := band h
      obtain ⟨h1, h2⟩ := band h
      obtain ⟨l1, l2⟩ := F.loc h1
      cases e with
      | comp vs t it ifs x =>
        have h : (match asComp (.ListComp elt gs scope pos) with
          | some (elt, tg, iter, tests, ia, scope) => decide (ia = 0) && notSet iter && blkC ck.N ck.sc scope (ck.own vs) && decide (∀ i ∈ t.sl, i ∈ vs) &&
              chI ck it tg iter && chG (ck.blk scope) t tg && chIf (ck.blk scope) ifs tests && chE (ck.blk scope) x elt
          | none => false) = true := h4
        split at h
        · next elt' tg iter tests ia scope' e1 =>
          obtain ⟨pos', e2⟩ := asComp_ok e1
          cases e2
          obtain ⟨h, h8⟩ := band h
          obtain ⟨h, h7⟩ := band h
          obtain ⟨h, h6⟩ := band h
          obtain ⟨h, h5⟩ := band h
          obtain ⟨h, h9⟩ := band h
          obtain ⟨h, hb⟩ := band h
          obtain ⟨h0, hs⟩ := band h
          cases of_decide_eq_true h0
          have bo : BlkOk X.N X.env.scope scope (ck.own vs) := by rw [F.N, F.sc]; exact blkOk_by hb
          have kd : X.env.scope.kind = .function := by rw [F.sc]; exact F.kind
          have sw := sw_true (elt := elt) (gs := [⟨tg, iter, tests, 0⟩]) (l := p.line) kd l2 h2 (by rw [Bool.not_eq_true'] at h3; exact h3)
          cases al with
          | true =>
            have q := s_setc (G := G) (W := W) (f := De.alc) (fun h => alc_imp h) F.calm F.nd l1 l2 sw (sI F.toFx it tg iter h5) bo (by rw [own_map]; exact of_decide_eq_true h9) (fun s H C cl fp => chG_ok F.toFx.blk h6) (fun s H C cl fp => sIf F.toFx.blk ifs tests h7) (fun s H C cl fp => sE F.toFx.blk x elt h8) (folded_of hs)
            rw [own_map] at q
            exact q
          | false =>
            have q := s_setc (G := G) (W := W) (f := De.frz) (fun h => frz_imp h) F.calm F.nd l1 l2 sw (sI F.toFx it tg iter h5) bo (by rw [own_map]; exact of_decide_eq_true h9) (fun s H C cl fp => chG_ok F.toFx.blk h6) (fun s H C cl fp => sIf F.toFx.blk ifs tests h7) (fun s H C cl fp => sE F.toFx.blk x elt h8) (folded_of hs)
            rw [own_map] at q
            exact q
        · cases h
      | lis r => cases h4
      | _ => cases h4
    · cases h
  | .par is r, s, h => by
    match is, h with
    | [i, j], h =>
      have h : (match asPar2 s with
        | some (x, y, a, b) => decide (i ≠ j) && locB ck x.1 i && locB ck y.1 j && parB ck [x, y] [a, b] && chA ck r [a, b]
        | none => false) = true := h
      split at h
      · next x y a b e1 =>
        obtain ⟨kt, pt, k2, pt2, p, rfl⟩ := asPar2_ok e1
        obtain ⟨h, h5⟩ := band h
        obtain ⟨h, h4⟩ := band h
        obtain ⟨h, h3⟩ := band h
        obtain ⟨h1, h2⟩ := band h
        have h1 := of_decide_eq_true h1
        obtain ⟨x1, x2⟩ := F.loc h2
        obtain ⟨y1, y2⟩ := F.loc h3
        exact s_par2 F.calm F.nd x1 y1 h1 x2 y2 (sA F.toFx r _ h5) (stores_par2 F x2 y2 (locs F x1 y1 h1) h4)
      · cases h
    | [i, j, l], h =>
      have h : (match asPar3 s with
        | some (x, y, z, a, b, c) => decide (i ≠ j) && decide (i ≠ l) && decide (j ≠ l) && locB ck x.1 i && locB ck y.1 j && locB ck z.1 l && parB ck [x, y, z] [a, b, c] && chA ck r [a, b, c]
        | none => false) = true := h
      split at h
      · next x y z a b c e1 =>
        obtain ⟨kt, pt, k2, pt2, p, rfl⟩ := asPar3_ok e1
        obtain ⟨h, h8⟩ := band h
        obtain ⟨h, h7⟩ := band h
        obtain ⟨h, h6⟩ := band h
        obtain ⟨h, h5⟩ := band h
        obtain ⟨h, h4⟩ := band h
        obtain ⟨h, h3⟩ := band h
        obtain ⟨h1, h2⟩ := band h
        have h1 := of_decide_eq_true h1
        have h2 := of_decide_eq_true h2
        have h3 := of_decide_eq_true h3
        obtain ⟨x1, x2⟩ := F.loc h4
        obtain ⟨y1, y2⟩ := F.loc h5
        obtain ⟨z1, z2⟩ := F.loc h6
        exact s_par3 F.calm F.nd x1 y1 z1 h1 h2 h3 x2 y2 z2 (sA F.toFx r _ h8) (stores_par3 F x2 y2 z2 (locs F x1 y1 h1) (locs F x1 z1 h2) (locs F y1 z1 h3) h7)
      · cases h
    | [], h => cases h
    | [_], h => cases h
    | _ :: _ :: _ :: _ :: _, h => cases h
  | .put e o i, s, h => by
    have h : (match asPut s with
      | some (x, y, z) => notComp z && notSlice y && chE ck o x && chE ck i y && chE ck e z
      | none => false) = true := h
    split at h
    · next x y z e1 =>
      obtain ⟨p, q, rfl⟩ := asPut_ok e1
      obtain ⟨h, h5⟩ := band h
      obtain ⟨h, h4⟩ := band h
      obtain ⟨h, h3⟩ := band h
      obtain ⟨h1, h2⟩ := band h
      exact s_putD (by have := F.toFx.hu; omega) (sE F.toFx e z h5) (sE F.toFx o x h3) (sE F.toFx i y h4) (fun v => by cases y <;> first | rfl | cases h2) (swaps_no (e := z) (t := some (.Subscript x y p)) (l := q.line) (env := X.env) h1) rfl rfl
    · cases h
  | .raise c e, s, h => by
    have h : (match asRaise s with
      | some (x, y) => decide (ck.tb.cls[c]? = some x) && decide (c ∈ ck.tb.xcs) && glB ck x && notStar y && chE ck e y
      | none => false) = true := h
    split at h
    · next x y e1 =>
      obtain ⟨p, q, r, rfl⟩ := asRaise_ok e1
      obtain ⟨h, h5⟩ := band h
      obtain ⟨h, h4⟩ := band h
      obtain ⟨h, h3⟩ := band h
      obtain ⟨h1, h2⟩ := band h
      obtain ⟨g, hd⟩ := F.gl h3
      exact s_raiseX F.calm F.tk (F.gb.xc c (of_decide_eq_true h2) x (of_decide_eq_true h1)) (F.rm.mono F.two) g (sE F.toFx e y h5) (star_of h4) hd
    · cases h
  | .for_ t it b, s, h => by
    cases s with
    | For tg iter body els p =>
      obtain ⟨h, h5⟩ := band h
      obtain ⟨h, h4⟩ := band h
      obtain ⟨h, h3⟩ := band h
      obtain ⟨h1, h2⟩ := band h
      cases els with
      | cons _ _ => cases h1
      | nil => exact s_for F.own F.calm (sI F.toFx it tg iter h3) (chG_ok F.toFx h4) (sSs F b body h5) (folded_of h2)
    | _ => cases h
  | .while_ k c b, s, h => by
    cases s with
    | While t body els p =>
      obtain ⟨h, h3⟩ := band h
      obtain ⟨h1, h2⟩ := band h
      cases els with
      | cons _ _ => cases h1
      | nil => exact s_while F.own (sT F.toFx c t h2) (sSs F b body h3)
    | _ => cases h
  | .try_ b hs, s, h => by
    have h : (match asTry s with
      | some (body, ehs) => chHs ck hs ehs && chSs ck b body
      | none => false) = true := h
    split at h
    · next body ehs e1 =>
      obtain ⟨p, e, es, rfl, rfl⟩ := asTry_ok e1
      obtain ⟨h1, h2⟩ := band h
      obtain ⟨hh, fi⟩ := chHs_ok F h1
      exact s_try F.stk F.frm F.nd F.tk (fun W' pn xe tk po => sSs (F.tr tk po) b body h2) hh (fun h hh => (fi h hh).1) (fun c h hh => F.gb.sub c h.c (fi h hh).2) F.gb.xf F.gb.nf
    · cases h
  | .nil, _, h | .seq _ _, _, h => by cases h
theorem sSs {ck : Ck} {X : Cx} {W : WX} (F : Fs G n call ck X W) : ∀ (a : S) (ss : List Stmt), chSs ck a ss = true → PSs X ss (tS X.K G W (evS ck.tb G.cfl call a))
  | .nil, ss, h => by
    cases ss with
    | nil => exact ss_nil
    | cons _ _ => cases h
  | .seq a r, ss, h => by
    cases ss with
    | nil => cases h
    | cons s ss =>
      obtain ⟨h1, h2⟩ := band (show (chS ck a s && chSs ck r ss) = true from h)
      exact ss_cons (sS F a s h1) (sSs F r ss h2)
  | .nop, _, h | .brk, _, h | .cnt, _, h | .exp _, _, h | .ret _, _, h | .retn, _, h | .ite _ _ _, _, h | .set _ _, _, h | .setc _ _ _, _, h | .par _ _, _, h | .put _ _ _, _, h | .raise _ _, _, h | .for_ _ _ _, _, h | .while_ _ _ _, _, h | .try_ _ _, _, h => by cases h
end
end
end Hb

set_option Elab.async false
set_option linter.all false
set_option maxRecDepth 100000
set_option maxHeartbeats 8000000
/-! Part Q: defs: a body that runs on a store of its own, its value frozen (or handed on as one new object). -/
namespace Hb
open PySem PySem.Spec L2
section
variable {K : PySem.W.Frag} {ω ρ ρ0 τ : List Addr} {H : Hp}
theorem Rp.hide1 {a : Addr} (ha : a ∈ ρ) : ∀ {v : V} {d : D}, Rp K ω ρ H v d → Rp K (a :: ω) ρ H v d := by
  have ne : ∀ {b : Addr}, b ∉ ρ → b ∉ ω → b ∉ a :: ω := fun h1 h2 z => by
    rcases List.mem_cons.mp z with z | z
    · exact h1 (by rw [z]; exact ha)
    · exact h2 z
  intro v d r
  induction r using Rp.rec (motive_2 := fun vs ds _ => RpL K (a :: ω) ρ H vs ds) with
  | non => exact .non
  | bl b => exact .bl b
  | int i => exact .int i
  | str x => exact .str x
  | tup r h1 h2 _ t => exact .tup r h1 (ne h1 h2) t
  | tupK r _ t => exact .tupK r t
  | dic r l h1 h2 _ t => exact .dic r l h1 (ne h1 h2) t
  | lst r h1 h2 _ t => exact .lst r h1 (ne h1 h2) t
  | scr r h1 h2 _ t => exact .scr r h1 (ne h1 h2) t
  | scrK r _ t => exact .scrK r t
  | ref h => exact .ref h
  | nil => exact .nil
  | cons _ _ r t => exact .cons r t
theorem RpL.hide1 {a : Addr} (ha : a ∈ ρ) : ∀ {vs : List V} {ds : List D}, RpL K ω ρ H vs ds → RpL K (a :: ω) ρ H vs ds
  | _, _, .nil => .nil
  | _, _, .cons r t => .cons (r.hide1 ha) (RpL.hide1 ha t)
theorem Rp.bare1 {a : Addr} : ∀ {v : V} {d : D}, Rp K (a :: ω) ρ0 H v d → Rp K ω (ρ0 ++ [a]) H v d := by
  have n1 : ∀ {b : Addr}, b ∉ ρ0 → b ∉ a :: ω → b ∉ ρ0 ++ [a] := fun h1 h2 z => by
    rcases List.mem_append.mp z with z | z
    · exact h1 z
    · exact h2 (by rw [List.mem_singleton.mp z]; exact List.mem_cons_self)
  have n2 : ∀ {b : Addr}, b ∉ a :: ω → b ∉ ω := fun h z => h (List.mem_cons_of_mem _ z)
  intro v d r
  induction r using Rp.rec (motive_2 := fun vs ds _ => RpL K ω (ρ0 ++ [a]) H vs ds) with
  | non => exact .non
  | bl b => exact .bl b
  | int i => exact .int i
  | str x => exact .str x
  | tup r h1 h2 _ t => exact .tup r (n1 h1 h2) (n2 h2) t
  | dic r l h1 h2 _ t => exact .dic r l (n1 h1 h2) (n2 h2) t
  | tupK r _ t => exact .tupK r t
  | lst r h1 h2 _ t => exact .lst r (n1 h1 h2) (n2 h2) t
  | scr r h1 h2 _ t => exact .scr r (n1 h1 h2) (n2 h2) t
  | scrK r _ t => exact .scrK r t
  | ref h => exact .ref (by
    obtain ⟨hl, _⟩ := List.getElem?_eq_some_iff.mp h
    rw [List.getElem?_append_left hl]; exact h)
  | nil => exact .nil
  | cons _ _ r t => exact .cons r t
theorem RpL.bare1 {a : Addr} : ∀ {vs : List V} {ds : List D}, RpL K (a :: ω) ρ0 H vs ds → RpL K ω (ρ0 ++ [a]) H vs ds
  | _, _, .nil => .nil
  | _, _, .cons r t => .cons r.bare1 (RpL.bare1 t)
/-- freezing, the object at av aside -/
def fzA (av b : Nat) (st : Sto) : Nat → Nat → Option D
  | 0, l => if l < b then some (.ref l) else none
  | n + 1, l => if l < b then some (.ref l) else if l = av then none else match st.o[l]? with
    | some (.lst xs) => (fzD.go (fzA av b st n) xs).map .lst
    | some (.dic ks xs) => (fzD.go (fzA av b st n) xs).map (.dic ks)
    | _ => none
theorem fzA_ok {st : Sto} (s : StoR K ω (ρ0 ++ τ) H st) {b av : Nat} (hb : ρ0.length = b) {a0 : Addr} (h0 : (ρ0 ++ τ)[av]? = some a0) : ∀ (n l : Nat) (d : D) (a : Addr), fzA av b st n l = some d → (ρ0 ++ τ)[l]? = some a → Rp K (a0 :: ω) ρ0 H (.ref a) d
  | 0, l, d, a, e, h => by
    unfold fzA at e
    split at e
    · next hl =>
      cases e
      rw [List.getElem?_append_left (by omega)] at h
      exact .ref h
    · cases e
  | n + 1, l, d, a, e, h => by
    unfold fzA at e
    split at e
    · next hl =>
      cases e
      rw [List.getElem?_append_left (by omega)] at h
      exact .ref h
    · next hl =>
      split at e
      · cases e
      next hav =>
      cases q : st.o[l]? with
      | none => rw [q] at e; cases e
      | some o =>
        rw [q] at e
        cases o with
        | lst xs =>
          obtain ⟨ys, h1, rfl⟩ := Option.map_eq_some_iff.mp (show (fzD.go (fzA av b st n) xs).map D.lst = some _ from e)
          cases s.obj l _ a q h with
          | lst h2 t =>
            refine .lst h2 (fun z => ?_) (fun z => ?_) (fzL_ok (fun l d a e h => fzA_ok s hb h0 n l d a e h) (t.hide1 (List.mem_of_getElem? h0)) h1)
            · obtain ⟨i, hi, hi2⟩ := List.getElem_of_mem z
              have e1 : (ρ0 ++ τ)[i]? = some a := by rw [List.getElem?_append_left hi]; simp [hi, hi2]
              have := nodup_at s.nd h e1
              omega
            · rcases List.mem_cons.mp z with z | z
              · subst z
                exact hav (nodup_at s.nd h h0)
              · exact s.dj a (List.mem_of_getElem? h) z
        | dic ks xs =>
          obtain ⟨ys, h1, rfl⟩ := Option.map_eq_some_iff.mp (show (fzD.go (fzA av b st n) xs).map (D.dic ks) = some _ from e)
          cases s.obj l _ a q h with
          | dic h2 l' t =>
            refine .dic h2 l' (fun z => ?_) (fun z => ?_) (fzL_ok (fun l d a e h => fzA_ok s hb h0 n l d a e h) (t.hide1 (List.mem_of_getElem? h0)) h1)
            · obtain ⟨i, hi, hi2⟩ := List.getElem_of_mem z
              have e1 : (ρ0 ++ τ)[i]? = some a := by rw [List.getElem?_append_left hi]; simp [hi, hi2]
              have := nodup_at s.nd h e1
              omega
            · rcases List.mem_cons.mp z with z | z
              · subst z
                exact hav (nodup_at s.nd h h0)
              · exact s.dj a (List.mem_of_getElem? h) z
        | _ => cases e
end
/-- a def: how many parameters, how many names, its body; whether it hands on one new object -/
structure Fn where
  np : Nat
  sl : Nat
  nw : Bool
  body : S
def startS (n : Nat) (ds : List D) : Sl := ds.map some ++ List.replicate (n - ds.length) none
/-- the value of a def, at the caller's -/
def outF (nw : Bool) (st st' : Sto) : Fl → Option (Rs D × Sto)
  | .nx => some (.ok .non, st.leave st')
  | .rt v => match nw with
    | false => (fz st.o.length st' v).map fun v' => (.ok v', st.leave st')
    | true => match v with
      | .ref l => if st.o.length ≤ l then (match st'.o[l]? with
        | some (.lst xs) => (fzD.go (fzA l st.o.length st' 12) xs).map fun ys => (.ok (.ref st.o.length), (st.leave st').add (.lst ys))
        | _ => none) else none
      | _ => none
  | .ex c x => (fz st.o.length st' x).map fun x' => (.ex c x', st.leave st')
  | _ => none
def runFn (F : Fn) (ev : Ds) : Cl := fun ds st => if ds.length = F.np then (match ev (startS F.sl ds) st.enter with
  | some (fl, _, st') => if st'.bs = st.o.length :: st.bs then outF F.nw st st' fl else none
  | none => none) else none
section
variable {K : PySem.W.Frag} {ω ρ ρ0 τ : List Addr} {H : Hp}
theorem SlotR.start {vs : List V} {ds : List D} (r : RpL K ω ρ H vs ds) {N : List Str} : SlotR K ω ρ H (L2.start N vs) (startS N.length ds) := by
  have hl := r.length
  refine ⟨by simp [startS, L2.start, hl], fun i d h => ?_⟩
  unfold startS at h
  unfold L2.start
  by_cases hi : i < ds.length
  · rw [List.getElem?_append_left (by simpa using hi), List.getElem?_map] at h
    cases e : ds[i]? with
    | none => rw [e] at h; cases h
    | some d' =>
      rw [e] at h
      cases h
      obtain ⟨v, e1, rv⟩ := r.get e
      refine ⟨v, ?_, rv⟩
      rw [List.getElem?_append_left (by simpa [hl] using hi), List.getElem?_map, e1]
      rfl
  · rw [List.getElem?_append_right (by simpa using hi), List.getElem?_replicate] at h
    split at h <;> cases h
end
section
variable {K : PySem.W.Frag} {ω ρ ρ0 τ : List Addr} {H H0 : Hp} {st st' : Sto}
theorem outF_rt {nw : Bool} {v : D} {v' : V} {r : Rs D × Sto} (s0 : StoR K ω ρ0 H0 st) (e : Ext ω ρ0 H0 (ρ0 ++ τ) H) (s : StoR K ω (ρ0 ++ τ) H st') (hb : st'.bs = st.o.length :: st.bs) (rv : Rp K ω (ρ0 ++ τ) H v' v) (h : outF nw st st' (.rt v) = some r) :
    ∃ z st2 ρ2, r = (.ok z, st2) ∧ Ext ω ρ0 H0 ρ2 H ∧ StoR K ω ρ2 H st2 ∧ Rp K ω ρ2 H v' z := by
  have sl := StoR.leave s0 s hb
  have el := Ext.cut s0 e
  cases nw with
  | false =>
    obtain ⟨z, hz, rfl⟩ := Option.map_eq_some_iff.mp (show (fz st.o.length st' v).map (fun v' => ((.ok v', st.leave st') : Rs D × Sto)) = some r from h)
    exact ⟨z, _, ρ0, rfl, el, sl, fz_ok s s0.len rv hz⟩
  | true =>
    cases v with
    | ref l =>
      have h : (if st.o.length ≤ l then (match st'.o[l]? with
        | some (.lst xs) => (fzD.go (fzA l st.o.length st' 12) xs).map fun ys => ((.ok (.ref st.o.length), (st.leave st').add (.lst ys)) : Rs D × Sto)
        | _ => none) else none) = some r := h
      split at h
      case isFalse => cases h
      next hle =>
      cases ex : st'.o[l]? with
      | none => rw [ex] at h; cases h
      | some so =>
      rw [ex] at h
      cases so with
      | dic _ _ => cases h
      | ins _ _ => cases h
      | lst xs =>
      obtain ⟨ys, hy, rfl⟩ := Option.map_eq_some_iff.mp h
      cases rv with
      | @ref a _ ha =>
      have aτ : a ∈ τ := by
        rw [List.getElem?_append_right (by rw [s0.len]; exact hle)] at ha
        exact List.mem_of_getElem? ha
      have an : H0 a = none := by
        obtain ⟨τ', e1, e2⟩ := e.grow
        have : τ = τ' := List.append_cancel_left e1
        exact e2 a (this ▸ aτ)
      cases s.obj l _ a ex ha with
      | lst h2 t =>
      have t2 : RpL K ω (ρ0 ++ [a]) H _ ys := (fzL_ok (fun l d a e h => fzA_ok s s0.len ha 12 l d a e h) (t.hide1 (List.mem_of_getElem? ha)) hy).bare1
      have an0 : a ∉ ρ0 := fun z => s0.tr a (.inl z) an
      have e2 : Ext ω ρ0 H0 (ρ0 ++ [a]) H := ⟨e.keep, e.hid, e.live, [a], rfl, fun b hb => by rw [List.mem_singleton.mp hb]; exact an⟩
      refine ⟨.ref st.o.length, _, ρ0 ++ [a], rfl, e2, ?_, .ref (by rw [← s0.len, List.getElem?_append_right (Nat.le_refl _)]; simp)⟩
      have hl : ρ0.length = st.o.length := s0.len
      have tk : (st.o.take st.o.length).length = st.o.length := by rw [List.take_length]
      have so : (st.leave st').o.length = st.o.length := by rw [← sl.len, hl]
      have mem : a ∈ ρ0 ++ τ := List.mem_append_right _ aτ
      refine ⟨by show (ρ0 ++ [a]).length = ((st.leave st').o ++ [SO.lst ys]).length; rw [List.length_append, List.length_append, sl.len]; rfl, fun n hn => ⟨(sl.bas n hn).1, ?_⟩, fun n hn l' o' hl' ho => ?_, ?_, fun b hb' => ?_, fun b hb' => ?_, fun l' o' b h1 h3 => ?_⟩
      · have := (sl.bas n hn).2
        show n ≤ ((st.leave st').o ++ [SO.lst ys]).length
        rw [List.length_append]
        omega
      · have ho : ((st.leave st').o ++ [SO.lst ys])[l']? = some o' := ho
        rw [List.getElem?_append_left (Nat.lt_of_lt_of_le hl' (sl.bas n hn).2)] at ho
        exact sl.old n hn l' o' hl' ho
      · rw [List.nodup_append]
        exact ⟨sl.nd, by simp, fun x hx y hy z => an0 (by rw [List.mem_singleton.mp hy] at z; exact z ▸ hx)⟩
      · rcases List.mem_append.mp hb' with z | z
        · exact sl.dj b z
        · rw [List.mem_singleton.mp z]; exact s.dj a mem
      · rcases hb' with z | z
        · rcases List.mem_append.mp z with z | z
          · exact sl.tr b (.inl z)
          · rw [List.mem_singleton.mp z, h2]; exact fun q => by cases q
        · exact sl.tr b (.inr z)
      · have h1 : ((st.leave st').o ++ [SO.lst ys])[l']? = some o' := h1
        by_cases hlt : l' < ρ0.length
        · rw [List.getElem?_append_left (by rw [← sl.len]; exact hlt)] at h1
          rw [List.getElem?_append_left hlt] at h3
          have h1 : (st'.o.take st.o.length)[l']? = some o' := h1
          rw [List.getElem?_take_of_lt (by omega)] at h1
          have ob := s.obj l' o' b h1 (by rw [List.getElem?_append_left hlt]; exact h3)
          have hbel := s.old st.o.length (by rw [hb]; exact List.mem_cons_self) l' o' (by omega) h1
          cases ob with
          | lst h t => exact .lst h ((t.hide1 mem).cut (by rw [hl]; exact hbel)).bare1
          | dic h l t => exact .dic h l ((t.hide1 mem).cut (by rw [hl]; exact hbel)).bare1
        · have e1 : l' = ρ0.length := by
            have := (List.getElem?_eq_some_iff.mp h3).1
            rw [List.length_append] at this
            have : l' < ρ0.length + 1 := this
            omega
          subst e1
          rw [List.getElem?_append_right (by rw [so]; omega), so] at h1
          rw [List.getElem?_append_right (Nat.le_refl _)] at h3
          simp [hl] at h1 h3
          subst h1; subst h3
          exact .lst h2 t2
    | _ => cases h
theorem outF_ex {nw : Bool} {c : Nat} {x : D} {r : Rs D × Sto} (s0 : StoR K ω ρ0 H0 st) (s : StoR K ω (ρ0 ++ τ) H st') (h : outF nw st st' (.ex c x) = some r) :
    ∃ x', r = (.ex c x', st.leave st') ∧ ∀ xv, Rp K ω (ρ0 ++ τ) H xv x → Rp K ω ρ0 H xv x' := by
  obtain ⟨z, hz, rfl⟩ := Option.map_eq_some_iff.mp (show (fz st.o.length st' x).map (fun x' => ((.ex c x', st.leave st') : Rs D × Sto)) = some r from h)
  exact ⟨z, rfl, fun xv rv => fz_ok s s0.len rv hz⟩
end
section
variable {P : Program} {w : World} {K : PySem.W.Frag} {mg : Str → Option Value} {base : Heap} {G : Gd} {tb : Tb} {n : Nat} {call : Nat → Cl}
/-- the names of a def -/
def scopeB (N ps : List Str) (sc : Scope) : Bool := decide (sc.kind = .function) && !sc.isCoroutine && !sc.isGenerator && decide N.Nodup && decide (N.take ps.length = ps) &&
  (ps.all fun x => match sc.names.lookup x with
    | some .local => true
    | some .cell => true
    | _ => false) && sc.names.all fun y => decide (y.2 ≠ .free)
theorem scopeB_ok {N ps : List Str} {sc : Scope} (h : scopeB N ps sc = true) : FnScope N ps sc := by
  obtain ⟨h, h7⟩ := band h
  obtain ⟨h, h6⟩ := band h
  obtain ⟨h, h5⟩ := band h
  obtain ⟨h, h4⟩ := band h
  obtain ⟨h, h3⟩ := band h
  obtain ⟨h1, h2⟩ := band h
  refine ⟨of_decide_eq_true h1, by simpa using h2, by simpa using h3, of_decide_eq_true h4, of_decide_eq_true h5, fun x hx => ?_, fun y hy => ?_⟩
  · have := List.all_eq_true.mp h6 x hx
    split at this
    · next e => exact .inl e
    · next e => exact .inr e
    · cases this
  · exact of_decide_eq_true (List.all_eq_true.mp h7 y hy)
theorem fn_ok {F : Fn} {x qual : Str} {params : Arguments} {body : List Stmt} {scope : Scope} {f : Addr} {fd : FuncData} {N ps : List Str} (FD : FunD K x qual params body scope [] [] f fd) (S : FnScope N ps scope) (hc : chSs ⟨tb, N, scope, cells scope⟩ F.body body = true) (hp : F.np = ps.length) (hN : F.sl = N.length)
    (gb : Gb P w K mg base G tb n call) (two : 2 ≤ n) : FnOk P w K mg base (L2.CX P w) (n + 1) f fd ps (spD K G (runFn F (evS tb G.cfl call F.body))) := by
  refine FD.ok S (fun vs H Q E h => ?_) (fun cdv A outer s H vs Q E hr h => ?_)
  · obtain ⟨ω, ρ, st, ds, sr, r, h⟩ := h
    unfold runFn at h
    by_cases hl : ds.length = F.np
    · rw [r.length, hl, hp]
    · rw [if_neg hl] at h
      exact h.elim
  · have Fx0 : Fs G n call ⟨tb, N, scope, cells scope⟩ (cxOf (L2.CX P w) P w K mg base N qual scope f cdv A outer s H E) (fun cls d _ H => E cls d H) := {
      gb := gb
      N := rfl
      nd := S.nd
      sc := rfl
      calm := rfl
      fn := fun _ _ => rfl
      tk := takes_of rfl rfl rfl rfl
      rm := hr
      own := passes_of (X := cxOf (L2.CX P w) P w K mg base N qual scope f cdv A outer s H E) rfl
      stk := rfl
      frm := rfl
      kind := S.kind
      two := two }
    refine ⟨_, sSs Fx0 F.body body hc, ?_⟩
    obtain ⟨ω, ρ, st, ds, sr, r, h⟩ := h
    refine ⟨ω, ρ, startS F.sl ds, st.enter, ⟨sr.enter, by rw [hN]; exact SlotR.start r⟩, ?_⟩
    unfold runFn at h
    by_cases hl : ds.length = F.np
    case neg => rw [if_neg hl] at h; exact h.elim
    rw [if_pos hl] at h
    show PostS K G _ _ ω ρ H (evS tb G.cfl call F.body (startS F.sl ds) st.enter)
    cases ev : evS tb G.cfl call F.body (startS F.sl ds) st.enter with
    | none => rw [ev] at h; exact h.elim
    | some q =>
      obtain ⟨fl, sl', st'⟩ := q
      rw [ev] at h
      dsimp only at h
      by_cases hbs : st'.bs = st.o.length :: st.bs
      case neg => rw [if_neg hbs] at h; exact h.elim
      rw [if_pos hbs] at h
      intro σ' H' ρ' e a
      obtain ⟨τ, rfl, hτ⟩ := e.grow
      have e' : Ext ω ρ H (ρ ++ τ) H' := e
      cases fl with
      | nx => exact h .non H' ρ (Ext.cut sr e) (StoR.leave sr a.sto hbs) .non
      | bk => exact h.elim
      | ct => exact h.elim
      | rt v =>
        intro v' rv
        cases ho : outF F.nw st st' (.rt v) with
        | none => rw [ho] at h; exact h.elim
        | some r =>
          rw [ho] at h
          obtain ⟨z, st2, ρ2, rfl, h1, h2, h3⟩ := outF_rt sr e a.sto hbs rv ho
          exact h v' H' ρ2 h1 h2 h3
      | ex c x =>
        intro dd xv rx hd n1 n2
        cases ho : outF F.nw st st' (.ex c x) with
        | none => rw [ho] at h; exact h.elim
        | some r =>
          rw [ho] at h
          obtain ⟨z, rfl, h1⟩ := outF_ex sr a.sto ho
          exact h dd xv H' ρ (Ext.cut sr e) (StoR.leave sr a.sto hbs) (h1 xv rx) hd (fun z => n1 (List.mem_append_left _ z)) n2
end
end Hb

set_option Elab.async false
set_option linter.all false
set_option maxRecDepth 100000
set_option maxHeartbeats 8000000
/-! Part R: a module: its tables, its defs, its classes; what the head tells of it; every def keeps what the data say. -/
namespace Hb
open PySem PySem.Spec L2
/-- a def: its name, parameters, all its names (slots), the data -/
structure Df where
  nm : Str
  ps : List Str
  N : List Str
  F : Fn
/-- a class of exceptions: its name, the one field of its instances, its own place and its bases' among the classes, whether it is raised -/
structure Ec where
  nm : Str
  fl : Str
  sup : List Nat
  rs : Bool
structure Md where
  fns : List Df
  nb : List Str
  gs : List (Str × D)
  ec : List Ec
def Md.nrm (m : Md) (c : Nat) : Nat := if c < m.ec.length then c else 0
def Md.sub (m : Md) (c k : Nat) : Bool := match m.ec[m.nrm c]? with
  | some e => e.sup.contains k
  | none => false
def Md.cfl (m : Md) (c : Nat) : Str := match m.ec[m.nrm c]? with
  | some e => e.fl
  | none => ""
def Md.cnm (m : Md) (c : Nat) : Str := match m.ec[m.nrm c]? with
  | some e => e.nm
  | none => ""
def Md.xcs (m : Md) : List Nat := (List.range m.ec.length).filter fun k => match m.ec[k]? with
  | some e => e.rs
  | none => false
def Md.tb (m : Md) : Tb := ⟨m.fns.map (·.nm), m.nb, m.gs, m.ec.map (·.nm), m.xcs, m.sub⟩
def Md.gd (m : Md) (K : PySem.W.Frag) : Gd := ⟨fun c => He.ga K (m.cnm c), m.cfl⟩
/-- what the i-th def does to data, at most n calls deep -/
def Md.call (m : Md) : Nat → Nat → Cl
  | 0, _ => fun _ _ => none
  | n + 1, i => match m.fns[i]? with
    | some d => runFn d.F (evS m.tb m.cfl (m.call n) d.F.body)
    | none => fun _ _ => none
/-! ### the check -/
def plainArgs (a : Arguments) (ps : List Str) : Bool := a.posonlyargs.isEmpty && decide (a.args.map (·.arg) = ps) && a.vararg.isNone && a.kwonlyargs.isEmpty && a.kwarg.isNone && decide ps.Nodup
def chDf (tb : Tb) (d : Df) (s : Stmt) : Bool := match s with
  | .FunctionDef name args body _ _ _ scope _ _ _ => decide (name = d.nm) && plainArgs args d.ps && scopeB d.N d.ps scope && decide (d.F.np = d.ps.length) && decide (d.F.sl = d.N.length) && chSs ⟨tb, d.N, scope, cells scope⟩ d.F.body body
  | _ => false
def chDfs (tb : Tb) (top : Nat → Stmt) : List Df → List Nat → Bool
  | [], [] => true
  | d :: ds, i :: is => chDf tb d (top i) && chDfs tb top ds is
  | _, _ => false
def dfD (d : Df) (s : Stmt) : He.DefD := ⟨(d.nm, none), d.nm, d.nm, defArgs s, defBody s, defScope s, [], []⟩
/-- X.__init__(self, at): self.at = at -/
def initOf : Stmt → Option (Str × Str × Str × Arguments × List Stmt × Scope)
  | .ClassDef _ _ _ [.FunctionDef _ args [.Assign [.Attribute (.Name p0 q1) fl q2] (.Name p1 q3) q4] _ _ _ scope _ _ _] _ _ _ _ _ _ _ => some (p0, p1, fl, args, [.Assign [.Attribute (.Name p0 q1) fl q2] (.Name p1 q3) q4], scope)
  | _ => none
def chEc (e : Ec) (s : Stmt) : Bool := !e.rs || (match initOf s with
  | some (p0, p1, fl, args, _, scope) => decide (fl = e.fl) && plainArgs args [p0, p1] && scopeB [p0, p1] [p0, p1] scope && okName p0 && okName p1
  | none => false)
def chEcs (top : Nat → Stmt) : List Ec → List Nat → Bool
  | [], [] => true
  | d :: ds, i :: is => chEc d (top i) && chEcs top ds is
  | _, _ => false
def ecD (e : Ec) (s : Stmt) : He.DefD := match initOf s with
  | some (_, _, _, args, body, scope) => ⟨(e.nm, some "__init__"), "__init__", e.nm ++ ".__init__", args, body, scope, [], []⟩
  | none => ⟨(e.nm, some "__init__"), "__init__", e.nm ++ ".__init__", ⟨[], [], none, [], [], none, []⟩, [], ⟨.function, [], false, false, []⟩, [], []⟩
/-- the head's defs and facts -/
def Md.hdF (m : Md) (top : Nat → Stmt) (fi : List Nat) : List He.DefD := List.zipWith (fun d i => dfD d (top i)) m.fns fi
def Md.hdC (m : Md) (top : Nat → Stmt) (ci : List Nat) : List He.DefD := (List.zipWith (fun e i => (e, i)) m.ec ci).filterMap fun p => if p.1.rs then some (ecD p.1 (top p.2)) else none
def Md.hd (m : Md) (top : Nat → Stmt) (fi ci : List Nat) : List He.DefD := m.hdF top fi ++ m.hdC top ci
def Md.fa (m : Md) : List He.Fa := m.fns.map (fun d => .glo d.nm) ++ m.nb.map .free ++ m.ec.map fun e => .glo e.nm
/-- a constant of the module -/
def gcD (K : PySem.W.Frag) : D → Value → Bool
  | .int i, .int j _ => decide (i = j)
  | .str x, .str y _ => decide (x = y)
  | .bl b, .bool c => b == c
  | .non, .none => true
  | .tup ds, .ref a => (match K.lookup a with
    | some ⟨.type "tuple", _, .seq its _, _⟩ => decide (its.size ≤ sizeLine) && go ds its.toList
    | _ => false)
  | _, _ => false
where go : List D → List Value → Bool
  | [], [] => true
  | d :: ds, v :: vs => gcD K d v && go ds vs
  | _, _ => false
def gcB (K : PySem.W.Frag) (p : Str × D) : Bool := match PySem.W.nsIn K mainGlobals p.1 with
  | some (some u) => gcD K p.2 u
  | _ => false
def oexB (K : PySem.W.Frag) (C : Addr) : Bool := (match K.lookup C with
  | some ⟨.type "type", _, .cls cd, sl⟩ => (match cd.mro, sl.toList with
    | .ref C' :: bm, [_, _, _, _, some (.builtin n), _] => C' == C && n == "ValueError.__new__" && !cd.hasDel && cd.hasDict && PySem.HandSPX.refsVE bm
    | _, _ => false)
  | _ => false) && decide (PySem.W.findIn K (.ref C) "__setattr__" = some (some (.builtin "object.__setattr__"))) && decide (PySem.W.subIn K (.ref C) (.type "BaseException") = some true) && decide (PySem.W.typeIn K (.ref C) = some (.type "type")) && PySem.W.keepIn K (.ref C)
def ecB (m : Md) (K : PySem.W.Frag) (k : Nat) (e : Ec) : Bool := xfB K (He.ga K e.nm) && decide (PySem.W.findIn K (.ref (He.ga K e.nm)) e.fl = some none) &&
  ((List.range m.ec.length).all fun j => decide (PySem.W.exmOne K (.ref (He.ga K e.nm)) (.ref (He.ga K (m.cnm j))) = some (m.sub k j))) &&
  (!e.rs || (oexB K (He.ga K e.nm) && decide (PySem.W.findIn K (.ref (He.ga K e.nm)) "__init__" = some (some (.ref (He.ma K (He.ga K e.nm) "__init__")))) && decide (PySem.W.typeIn K (.ref (He.ma K (He.ga K e.nm) "__init__")) = some (.type "function"))))
def Md.ex (m : Md) (K : PySem.W.Frag) : Bool := (m.gs.all fun p => gcB K p) && !m.ec.isEmpty && (List.range m.ec.length).all fun k => match m.ec[k]? with
  | some e => ecB m K k e
  | none => false
theorem oexB_ok {K : PySem.W.Frag} {C : Addr} (h : oexB K C = true) : OexC K C := by
  obtain ⟨h, h5⟩ := band h
  obtain ⟨h, h4⟩ := band h
  obtain ⟨h, h3⟩ := band h
  obtain ⟨q, h2⟩ := band h
  refine ⟨?_, of_decide_eq_true h2, of_decide_eq_true h3, of_decide_eq_true h4, h5⟩
  split at q
  · rename_i dd cd sl ho
    split at q
    · rename_i C' bm k0 k1 k2 k3 n k5 hm hs
      simp only [Bool.and_eq_true, beq_iff_eq, Bool.not_eq_true'] at q
      obtain ⟨⟨⟨⟨rfl, rfl⟩, hdel⟩, hdict⟩, ht⟩ := q
      obtain ⟨nm, bs, mro, ns, qn, hd, sn, sub, ab, col, del⟩ := cd
      dsimp only at hm hdel hdict
      subst hm hdel hdict
      have hsl : sl = #[k0, k1, k2, k3, some (.builtin "ValueError.__new__"), k5] := by
        obtain ⟨l⟩ := sl
        simp only at hs
        rw [hs]
      subst hsl
      exact ⟨nm, qn, ns, bs, bm, sn, sub, ab, col, dd, k0, k1, k2, k3, k5, ho, ht⟩
    · cases q
  · cases q
mutual
theorem gcD_ok {K : PySem.W.Frag} : ∀ {d : D} {u : Value}, gcD K d u = true → ∃ v, RelV v u ∧ ∀ ω ρ H, Rp K ω ρ H v d
  | .tup ds, u, h => by
    cases u with
    | ref a =>
      have h : (match K.lookup a with
        | some ⟨.type "tuple", _, .seq its _, _⟩ => decide (its.size ≤ sizeLine) && gcD.go K ds its.toList
        | _ => false) = true := h
      split at h
      · next c dd its n sl e =>
        obtain ⟨h1, h2⟩ := band h
        obtain ⟨vs, r1, r2⟩ := gcL_ok h2
        exact ⟨.ref a, rfl, fun ω ρ H => .tupK (fun H' => .inr ⟨_, its, n, e, rfl, rfl, of_decide_eq_true h1, r1⟩) (r2 ω ρ H)⟩
      · cases h
    | _ => cases h
  | .int i, u, h => by
    cases u with
    | int j t => cases of_decide_eq_true h; exact ⟨.int i, ⟨_, rfl⟩, fun _ _ _ => .int _⟩
    | _ => cases h
  | .str x, u, h => by
    cases u with
    | str y t => cases of_decide_eq_true h; exact ⟨.str x, ⟨_, rfl⟩, fun _ _ _ => .str _⟩
    | _ => cases h
  | .bl b, u, h => by
    cases u with
    | bool c => cases eq_of_beq h; exact ⟨.bl b, rfl, fun _ _ _ => .bl _⟩
    | _ => cases h
  | .non, u, h => by
    cases u with
    | none => exact ⟨.non, rfl, fun _ _ _ => .non⟩
    | _ => cases h
  | .lst _, u, h | .dic _ _, u, h | .ref _, u, h | .ins _ _, u, h | .scr _, u, h => by cases u <;> cases h
theorem gcL_ok {K : PySem.W.Frag} : ∀ {ds : List D} {us : List Value}, gcD.go K ds us = true → ∃ vs, Vals vs us ∧ ∀ ω ρ H, RpL K ω ρ H vs ds
  | [], [], _ => ⟨[], .nil, fun _ _ _ => .nil⟩
  | d :: ds, u :: us, h => by
    obtain ⟨h1, h2⟩ := band (show (gcD K d u && gcD.go K ds us) = true from h)
    obtain ⟨v, a1, a2⟩ := gcD_ok h1
    obtain ⟨vs, b1, b2⟩ := gcL_ok h2
    exact ⟨v :: vs, .cons a1 b1, fun ω ρ H => .cons (a2 ω ρ H) (b2 ω ρ H)⟩
  | [], _ :: _, h => by cases h
  | _ :: _, [], h => by cases h
end
theorem plainArgs_ok {K : PySem.W.Frag} {x qual : Str} {a : Arguments} {body : List Stmt} {scope : Scope} {ps : List Str} {f : Addr} {fd : FuncData} (FD : FunD K x qual a body scope [] [] f fd) (h : plainArgs a ps = true) : Binds K fd ps [] ∧ ∀ (s : Shared) (us : List Value), us.length = ps.length → BindsTo s fd ⟨us, []⟩ (ps.zip us) := by
  obtain ⟨h, h6⟩ := band h
  obtain ⟨h, h5⟩ := band h
  obtain ⟨h, h4⟩ := band h
  obtain ⟨h, h3⟩ := band h
  obtain ⟨h1, h2⟩ := band h
  have q := bind_plain (x := x) (qual := qual) (params := a) (body := body) (scope := scope) (ps := ps) (List.isEmpty_iff.mp h1) (of_decide_eq_true h2) (Option.isNone_iff_eq_none.mp h3) (List.isEmpty_iff.mp h4) (Option.isNone_iff_eq_none.mp h5) (of_decide_eq_true h6)
  exact ⟨FD.bindsN q, fun s us hl => FD.bindsA q s us hl⟩
section
variable {P : Program} {w : World} {K : PySem.W.Frag} {mg : Str → Option Value} {base : Heap} {m : Md} {top : Nat → Stmt} {fi ci : List Nat}
/-- what the head told -/
structure Told (m : Md) (top : Nat → Stmt) (fi ci : List Nat) (K : PySem.W.Frag) (mg : Str → Option Value) : Prop where
  glo : ∀ x, (He.Fa.glo x) ∈ m.fa → mg x = some (.ref (He.ga K x))
  free : ∀ x ∈ m.nb, mg x = none
  ns : ∀ p ∈ m.gs, gcB K p = true → ∃ u, mg p.1 = some u ∧ gcD K p.2 u = true
  defs : ∀ d ∈ m.hd top fi ci, ∃ fd, FunD K d.name d.qual d.params d.body d.scope [] [] (He.fAd K d.at_) fd
  ex : m.ex K = true
  cf : chDfs m.tb top m.fns fi = true
  cc : chEcs top m.ec ci = true
theorem zip_defs {tb : Tb} : ∀ {fs : List Df} {is : List Nat} {k : Nat} {d : Df}, chDfs tb top fs is = true → fs[k]? = some d → ∃ s, chDf tb d s = true ∧ dfD d s ∈ List.zipWith (fun d i => dfD d (top i)) fs is
  | [], _, _, _, _, h => by simp at h
  | d0 :: fs, [], _, _, h, _ => by cases h
  | d0 :: fs, i :: is, 0, d, h, e => by
    obtain ⟨h1, h2⟩ := band (show (chDf tb d0 (top i) && chDfs tb top fs is) = true from h)
    simp at e; subst e
    exact ⟨top i, h1, List.mem_cons_self⟩
  | d0 :: fs, i :: is, k + 1, d, h, e => by
    obtain ⟨h1, h2⟩ := band (show (chDf tb d0 (top i) && chDfs tb top fs is) = true from h)
    obtain ⟨s, a, b⟩ := zip_defs (k := k) h2 (by simpa using e)
    exact ⟨s, a, List.mem_cons_of_mem _ b⟩
theorem zip_ecs : ∀ {es : List Ec} {is : List Nat} {k : Nat} {e : Ec}, chEcs top es is = true → es[k]? = some e → ∃ s, chEc e s = true ∧ (e.rs = true → ecD e s ∈ (List.zipWith (fun e i => (e, i)) es is).filterMap fun p => if p.1.rs then some (ecD p.1 (top p.2)) else none)
  | [], _, _, _, _, h => by simp at h
  | d0 :: fs, [], _, _, h, _ => by cases h
  | d0 :: fs, i :: is, 0, d, h, e => by
    obtain ⟨h1, h2⟩ := band (show (chEc d0 (top i) && chEcs top fs is) = true from h)
    simp at e; subst e
    refine ⟨top i, h1, fun hr => List.mem_filterMap.mpr ⟨(d0, i), List.mem_cons_self, ?_⟩⟩
    simp [hr]
  | d0 :: fs, i :: is, k + 1, d, h, e => by
    obtain ⟨h1, h2⟩ := band (show (chEc d0 (top i) && chEcs top fs is) = true from h)
    obtain ⟨s, a, b⟩ := zip_ecs (k := k) h2 (by simpa using e)
    refine ⟨s, a, fun hr => ?_⟩
    obtain ⟨p, hp, e⟩ := List.mem_filterMap.mp (b hr)
    exact List.mem_filterMap.mpr ⟨p, List.mem_cons_of_mem _ hp, e⟩
theorem Md.nrm_lt (m : Md) {c : Nat} (h : m.ec.isEmpty = false) : m.nrm c < m.ec.length := by
  unfold Md.nrm
  split
  · assumption
  · cases q : m.ec with
    | nil => rw [q] at h; cases h
    | cons _ _ => simp
theorem Told.ec (T : Told m top fi ci K mg) (c : Nat) : ∃ e, m.ec[m.nrm c]? = some e ∧ m.cnm c = e.nm ∧ m.cfl c = e.fl ∧ ecB m K (m.nrm c) e = true := by
  obtain ⟨h, h3⟩ := band T.ex
  obtain ⟨h1, h2⟩ := band h
  have lt := m.nrm_lt (c := c) (by simpa using h2)
  have q := List.all_eq_true.mp h3 (m.nrm c) (List.mem_range.mpr lt)
  have e := List.getElem?_eq_getElem lt
  rw [e] at q
  exact ⟨_, e, by unfold Md.cnm; rw [e], by unfold Md.cfl; rw [e], q⟩
theorem Md.sub_nrm (m : Md) (c k : Nat) : m.sub (m.nrm c) k = m.sub c k := by
  have : m.nrm (m.nrm c) = m.nrm c := by
    unfold Md.nrm
    by_cases h : c < m.ec.length <;> simp [h]
  unfold Md.sub
  rw [this]
theorem Md.nrm_of (m : Md) {k : Nat} (h : k < m.ec.length) : m.nrm k = k := if_pos h
theorem gb_ok (T : Told m top fi ci K mg) : ∀ n, Gb P w K mg base (m.gd K) m.tb (n + 2) (m.call n) := by
  have other : ∀ n, (∀ k x, m.tb.fns[k]? = some x → ∃ f fd ps, FnOk P w K mg base (L2.CX P w) (n + 2) f fd ps (spD K (m.gd K) (m.call n k)) ∧ mg x = some (.ref f) ∧ PySem.W.keepIn K (.ref f) = true ∧ Binds K fd ps []) → Gb P w K mg base (m.gd K) m.tb (n + 2) (m.call n) := fun n hf => {
    nb := T.free
    gc := fun p hp => by
      obtain ⟨h, h3⟩ := band T.ex
      obtain ⟨h1, h2⟩ := band h
      obtain ⟨u, a, b⟩ := T.ns p hp (List.all_eq_true.mp h1 p hp)
      obtain ⟨v, r, q⟩ := gcD_ok b
      exact ⟨v, u, a, r, q⟩
    fs := hf
    cl := fun k x hx => by
      have hx : (m.ec.map (·.nm))[k]? = some x := hx
      rw [List.getElem?_map] at hx
      obtain ⟨e, e1, rfl⟩ := Option.map_eq_some_iff.mp hx
      have lt := (List.getElem?_eq_some_iff.mp e1).1
      have : m.cnm k = e.nm := by unfold Md.cnm; rw [m.nrm_of lt, e1]
      show mg e.nm = some (.ref (He.ga K (m.cnm k)))
      rw [this]
      exact T.glo e.nm (List.mem_append_right _ (List.mem_map.mpr ⟨e, List.mem_of_getElem? e1, rfl⟩))
    xc := fun k hk x hx => by
      have hx : (m.ec.map (·.nm))[k]? = some x := hx
      rw [List.getElem?_map] at hx
      obtain ⟨e, e1, rfl⟩ := Option.map_eq_some_iff.mp hx
      have lt := (List.getElem?_eq_some_iff.mp e1).1
      obtain ⟨e', e2, n1, n2, eb⟩ := T.ec k
      rw [m.nrm_of lt, e1] at e2
      cases e2
      have hr : e.rs = true := by
        have := (List.mem_filter.mp (show k ∈ (List.range m.ec.length).filter _ from hk)).2
        rw [e1] at this
        exact this
      obtain ⟨eb, b4⟩ := band eb
      obtain ⟨eb, b3⟩ := band eb
      obtain ⟨b1, b2⟩ := band eb
      rw [hr] at b4
      obtain ⟨b4, b6⟩ := band (show (oexB K (He.ga K e.nm) && decide (PySem.W.findIn K (.ref (He.ga K e.nm)) "__init__" = some (some (.ref (He.ma K (He.ga K e.nm) "__init__")))) && decide (PySem.W.typeIn K (.ref (He.ma K (He.ga K e.nm) "__init__")) = some (.type "function"))) = true from b4)
      obtain ⟨b4, b5⟩ := band b4
      obtain ⟨s, c1, c2⟩ := zip_ecs T.cc e1
      have c2 := c2 hr
      unfold chEc at c1
      rw [hr] at c1
      have c1 : (match initOf s with
        | some (p0, p1, fl, args, _, scope) => decide (fl = e.fl) && plainArgs args [p0, p1] && scopeB [p0, p1] [p0, p1] scope && okName p0 && okName p1
        | none => false) = true := c1
      show XcC P w K mg base e.nm (He.ga K (m.cnm k)) (m.cfl k)
      rw [n1, n2]
      refine ⟨T.glo e.nm (List.mem_append_right _ (List.mem_map.mpr ⟨e, List.mem_of_getElem? e1, rfl⟩)), oexB_ok b4, of_decide_eq_true b2, ⟨_, of_decide_eq_true b5, of_decide_eq_true b6, ?_⟩, xfB_ok b1⟩
      obtain ⟨fd, FD⟩ := T.defs _ (List.mem_append_right _ c2)
      cases ei : initOf s with
      | none => rw [ei] at c1; cases c1
      | some q =>
        obtain ⟨p0, p1, fl, args, body, scope⟩ := q
        rw [ei] at c1
        obtain ⟨c1, d5⟩ := band c1
        obtain ⟨c1, d4⟩ := band c1
        obtain ⟨c1, d3⟩ := band c1
        obtain ⟨d1, d2⟩ := band c1
        cases of_decide_eq_true d1
        have eD : ecD e s = ⟨(e.nm, some "__init__"), "__init__", e.nm ++ ".__init__", args, body, scope, [], []⟩ := by unfold ecD; rw [ei]
        rw [eD] at FD
        unfold initOf at ei
        split at ei
        · cases ei
          have FD' : FunD K "__init__" (e.nm ++ ".__init__") args _ scope [] [] (He.ma K (He.ga K e.nm) "__init__") fd := FD
          exact ⟨fd, [p0, p1], ok_xinit FD' (scopeB_ok d3) (okName_ok d4) (okName_ok d5), (plainArgs_ok FD' d2).1⟩
        · cases ei
    sub := fun c k hk => by
      obtain ⟨e, e1, n1, n2, eb⟩ := T.ec c
      obtain ⟨eb, b4⟩ := band eb
      obtain ⟨eb, b3⟩ := band eb
      have := of_decide_eq_true (List.all_eq_true.mp b3 k (List.mem_range.mpr (by simpa [Md.tb] using hk)))
      show PySem.W.exmOne K (.ref (He.ga K (m.cnm c))) (.ref (He.ga K (m.cnm k))) = some (m.sub c k)
      rw [n1, this, m.sub_nrm]
    xf := fun c => by
      obtain ⟨e, e1, n1, n2, eb⟩ := T.ec c
      obtain ⟨eb, b4⟩ := band eb
      obtain ⟨eb, b3⟩ := band eb
      obtain ⟨b1, b2⟩ := band eb
      show XfC K (He.ga K (m.cnm c))
      rw [n1]
      exact xfB_ok b1
    nf := fun c => by
      obtain ⟨e, e1, n1, n2, eb⟩ := T.ec c
      obtain ⟨eb, b4⟩ := band eb
      obtain ⟨eb, b3⟩ := band eb
      obtain ⟨b1, b2⟩ := band eb
      show PySem.W.findIn K (.ref (He.ga K (m.cnm c))) (m.cfl c) = some none
      rw [n1, n2]
      exact of_decide_eq_true b2 }
  have get : ∀ {k : Nat} {x : Str}, m.tb.fns[k]? = some x → ∃ d s fd, m.fns[k]? = some d ∧ x = d.nm ∧ chDf m.tb d s = true ∧ FunD K d.nm d.nm (defArgs s) (defBody s) (defScope s) [] [] (He.ga K d.nm) fd := fun {k x} hx => by
    have hx : (m.fns.map (·.nm))[k]? = some x := hx
    rw [List.getElem?_map] at hx
    obtain ⟨d, e1, rfl⟩ := Option.map_eq_some_iff.mp hx
    obtain ⟨s, c1, c2⟩ := zip_defs T.cf e1
    obtain ⟨fd, FD⟩ := T.defs _ (List.mem_append_left _ c2)
    exact ⟨d, s, fd, e1, rfl, c1, FD⟩
  intro n
  induction n with
  | zero =>
    refine other 0 fun k x hx => ?_
    obtain ⟨d, s, fd, e1, rfl, c1, FD⟩ := get hx
    refine ⟨He.ga K d.nm, fd, d.ps, ⟨fun vs H Q E h => ?_, fun A outer s H args us vs Q E _ _ _ _ h => ?_⟩, T.glo d.nm (List.mem_append_left _ (List.mem_append_left _ (List.mem_map.mpr ⟨d, List.mem_of_getElem? e1, rfl⟩))), FD.kp, ?_⟩
    · obtain ⟨_, _, _, _, _, _, h⟩ := h
      exact h.elim
    · obtain ⟨_, _, _, _, _, _, h⟩ := h
      exact h.elim
    · unfold chDf at c1
      split at c1
      · obtain ⟨c1, _⟩ := band c1
        obtain ⟨c1, _⟩ := band c1
        obtain ⟨c1, _⟩ := band c1
        obtain ⟨c1, _⟩ := band c1
        obtain ⟨_, c1⟩ := band c1
        exact (plainArgs_ok FD c1).1
      · cases c1
  | succ n ih =>
    refine other (n + 1) fun k x hx => ?_
    obtain ⟨d, s, fd, e1, rfl, c1, FD⟩ := get hx
    unfold chDf at c1
    split at c1
    · obtain ⟨c1, d6⟩ := band c1
      obtain ⟨c1, d5⟩ := band c1
      obtain ⟨c1, d4⟩ := band c1
      obtain ⟨c1, d3⟩ := band c1
      obtain ⟨d1, d2⟩ := band c1
      have e : m.call (n + 1) k = runFn d.F (evS m.tb m.cfl (m.call n) d.F.body) := by
        show (match m.fns[k]? with
          | some d => runFn d.F (evS m.tb m.cfl (m.call n) d.F.body)
          | none => fun _ _ => none) = _
        rw [e1]
      refine ⟨He.ga K d.nm, fd, d.ps, ?_, T.glo d.nm (List.mem_append_left _ (List.mem_append_left _ (List.mem_map.mpr ⟨d, List.mem_of_getElem? e1, rfl⟩))), FD.kp, (plainArgs_ok FD d2).1⟩
      rw [e]
      exact fn_ok (G := m.gd K) FD (scopeB_ok d3) d6 (of_decide_eq_true d4) (of_decide_eq_true d5) ih (by omega)
    · cases c1
end
end Hb

set_option Elab.async false
set_option linter.all false
set_option maxRecDepth 100000
set_option maxHeartbeats 8000000
/-! Part S: a law's end. -/
namespace Hb
open PySem PySem.Spec L2
section
variable {P : Program} {w : World} {K : PySem.W.Frag} {mg : Str → Option Value} {base h : Heap} {m : Md} {top : Nat → Stmt} {fi ci : List Nat}
theorem hd_plain {d : He.DefD} (hd : d ∈ m.hd top fi ci) : d.dfl = [] ∧ d.kwd = [] := by
  rcases List.mem_append.mp hd with z | z
  · have : ∀ {fs : List Df} {is : List Nat}, d ∈ List.zipWith (fun d i => dfD d (top i)) fs is → d.dfl = [] ∧ d.kwd = [] := by
      intro fs
      induction fs with
      | nil => intro is h; simp at h
      | cons f fs ih =>
        intro is h
        cases is with
        | nil => simp at h
        | cons i is =>
          rcases List.mem_cons.mp h with z | z
          · rw [z]; exact ⟨rfl, rfl⟩
          · exact ih z
    exact this z
  · obtain ⟨p, _, e⟩ := List.mem_filterMap.mp (show d ∈ List.filterMap _ _ from z)
    split at e
    · cases e
      unfold ecD
      split <;> exact ⟨rfl, rfl⟩
    · cases e
theorem told (X : K.In h) (N : h.Ns mainGlobals mg) (c : He.SaysX m.fa (m.hd top fi ci) [] [] m.ex w h K) (cf : chDfs m.tb top m.fns fi = true) (cc : chEcs top m.ec ci = true) : Told m top fi ci K mg where
  glo x hx := He.glo_ok X N (c.t.d.facts hx)
  free x hx := He.free_ok X N (c.t.d.facts (List.mem_append_left _ (List.mem_append_right _ (List.mem_map.mpr ⟨x, hx, rfl⟩))))
  ns p hp hb := by
    unfold gcB at hb
    split at hb
    · next u e => exact ⟨u, PySem.W.mg_of X N e, hb⟩
    · cases hb
  defs d hd := by
    obtain ⟨fd, FD⟩ := c.t.d.defs hd
    obtain ⟨e1, e2⟩ := hd_plain hd
    have a1 : d.dvs K = [] := by unfold He.DefD.dvs; rw [e1]; rfl
    have a2 : d.kws K = [] := by unfold He.DefD.kws; rw [e2]; rfl
    rw [a1, a2] at FD
    exact ⟨fd, FD⟩
  ex := c.more
  cf := cf
  cc := cc
/-- the script, as the head hands it on -/
theorem scr_ok {H : Hp} {a : Addr} {ns : List Int} (hO : Only H) (hS : SqL K H a (ns.map V.int)) : Rp K [] [] H (.ref a) (.scr (ns.map D.int)) := by
  have r : RpL K [] [] H (ns.map V.int) (ns.map D.int) := by
    clear hS
    induction ns with
    | nil => exact .nil
    | cons n ns ih => exact .cons (.int n) ih
  rcases hS with (h | ⟨o, h⟩) | hk
  · rcases hO a with z | ⟨o, xs, z⟩
    · rw [h] at z; cases z
    · rw [h] at z; cases z
  · exact .scr h (by simp) (by simp) r
  · exact .scrK (fun H' => .inr hk) r
/-- nothing is let out of the law's def -/
theorem no_exc {P : Program} {w : World} {k : Nat} {f : Addr} {fd : FuncData} {ps : List Str} {sp : Sp} (F : FnOk P w K mg base (L2.CX P w) k f fd ps sp) : FnOk P w K mg base CX0 k f fd ps (fun vs H Q _ => sp vs H Q fun _ _ _ => False) :=
  ⟨fun vs H Q E h => F.len vs H Q _ h, fun A outer s H args us vs Q E hr he hb hv hs => codeAny_mono (F.run A outer s H args us vs Q _ hr he hb hv hs) fun r s' h => by
    cases r with
    | ok f => cases f <;> exact h
    | error e =>
      obtain ⟨_, _, _, _, _, _, _, _, _, _, _, _, z⟩ := h
      exact z.elim⟩
theorem law_end (T : Told m top fi ci K mg) {n i L : Nat} {d : Df} {x : Str} (hd : m.fns[i]? = some d) (hp : d.ps = [x]) {fa : Addr} (hf : mg d.nm = some (.ref fa))
    (pure_ : ∀ ns : List Int, ns.length ≤ L → ∃ st', m.call (n + 1) i [.scr (ns.map D.int)] ⟨[], []⟩ = some (.ok (.bl true), st')) :
    ∃ (fd : FuncData) (sp : Sp), (∀ (s : Shared) (u : Value), BindsTo s fd ⟨[u], []⟩ [(x, u)]) ∧
      (∀ (H : Hp) (a : Addr) (ns : List Int), ns.length ≤ L → Only H → SqL K H a (ns.map V.int) → sp [.ref a] H (fun v _ => v = .bl true) fun _ _ _ => False) ∧
        ∀ base : Heap, K.In base → base.Ns mainGlobals mg → FnOk P w K mg base CX0 (n + 3) fa fd [x] sp := by
  obtain ⟨s, c1, c2⟩ := zip_defs T.cf hd
  obtain ⟨fd, FD⟩ := T.defs _ (List.mem_append_left _ c2)
  have FD : FunD K d.nm d.nm (defArgs s) (defBody s) (defScope s) [] [] (He.ga K d.nm) fd := FD
  have hg := T.glo d.nm (List.mem_append_left _ (List.mem_append_left _ (List.mem_map.mpr ⟨d, List.mem_of_getElem? hd, rfl⟩)))
  have hfa : fa = He.ga K d.nm := by
    rw [hf] at hg
    cases hg
    rfl
  subst hfa
  have pa : plainArgs (defArgs s) d.ps = true := by
    unfold chDf at c1
    split at c1
    · obtain ⟨c1, _⟩ := band c1
      obtain ⟨c1, _⟩ := band c1
      obtain ⟨c1, _⟩ := band c1
      obtain ⟨c1, _⟩ := band c1
      obtain ⟨_, c1⟩ := band c1
      exact c1
    · cases c1
  have hb := (plainArgs_ok FD pa).2
  rw [hp] at hb
  refine ⟨fd, fun vs H Q _ => spD K (m.gd K) (m.call (n + 1) i) vs H Q fun _ _ _ => False, fun s u => hb s [u] rfl, fun H a ns hl hO hS => ?_, fun base _ _ => ?_⟩
  · obtain ⟨st', e⟩ := pure_ ns hl
    refine ⟨[], [], ⟨[], []⟩, [.scr (ns.map D.int)], ⟨rfl, fun n h => absurd h (by simp), fun n h => absurd h (by simp), List.nodup_nil, fun a h => absurd h (by simp), fun a h => by simp at h, fun l o a h => by simp at h⟩, .cons (scr_ok hO hS) .nil, ?_⟩
    rw [e]
    intro v' H' ρ' _ _ r
    exact r.blI
  · unfold chDf at c1
    split at c1
    · obtain ⟨c1, d6⟩ := band c1
      obtain ⟨c1, d5⟩ := band c1
      obtain ⟨c1, d4⟩ := band c1
      obtain ⟨c1, d3⟩ := band c1
      have e : m.call (n + 1) i = runFn d.F (evS m.tb m.cfl (m.call n) d.F.body) := by
        show (match m.fns[i]? with
          | some d => runFn d.F (evS m.tb m.cfl (m.call n) d.F.body)
          | none => fun _ _ => none) = _
        rw [hd]
      rw [e, ← hp]
      refine no_exc ?_
      exact fn_ok (G := m.gd K) FD (scopeB_ok d3) d6 (of_decide_eq_true d4) (of_decide_eq_true d5) (gb_ok T n) (by omega)
    · cases c1
end
end Hb

set_option Elab.async false
set_option linter.all false
set_option maxRecDepth 100000
set_option maxHeartbeats 1000000
/-! Part V: what the evaluator does, told as predicates (for simp). -/
namespace Hb
open PySem PySem.Spec
def wE {α : Type} (d : De α) (sl : Sl) (st : Sto) (Q : Rs α → Sto → Prop) : Prop := ∃ r st', d sl st = some (r, st') ∧ Q r st'
def wC (o : Option (Rs D × Sto)) (Q : Rs D → Sto → Prop) : Prop := ∃ r st', o = some (r, st') ∧ Q r st'
def wS (d : Ds) (sl : Sl) (st : Sto) (Q : Fl → Sl → Sto → Prop) : Prop := ∃ f sl' st', d sl st = some (f, sl', st') ∧ Q f sl' st'
/-- go on with a value -/
def onok {α β : Type} (k : α → Sto → Prop) (Q : Rs β → Sto → Prop) : Rs α → Sto → Prop
  | .ok a, st => k a st
  | .ex c x, st => Q (.ex c x) st
def onokS {α : Type} (k : α → Sto → Prop) (sl : Sl) (Q : Fl → Sl → Sto → Prop) : Rs α → Sto → Prop
  | .ok a, st => k a st
  | .ex c x, st => Q (.ex c x) sl st
def onnx (k : Sl → Sto → Prop) (Q : Fl → Sl → Sto → Prop) : Fl → Sl → Sto → Prop
  | .nx, sl, st => k sl st
  | f, sl, st => Q f sl st
section
variable {α β : Type} {sl : Sl} {st : Sto} {Q : Rs α → Sto → Prop}
theorem onok_ok {k : β → Sto → Prop} {a : β} : onok k Q (.ok a) st = k a st := rfl
theorem onok_ex {k : β → Sto → Prop} {c : Nat} {x : D} : onok k Q (.ex c x) st = Q (.ex c x) st := rfl
theorem onokS_ok {k : β → Sto → Prop} {a : β} {Q : Fl → Sl → Sto → Prop} : onokS k sl Q (.ok a) st = k a st := rfl
theorem onokS_ex {k : β → Sto → Prop} {c : Nat} {x : D} {Q : Fl → Sl → Sto → Prop} : onokS k sl Q (.ex c x) st = Q (.ex c x) sl st := rfl
theorem onnx_nx {k : Sl → Sto → Prop} {Q : Fl → Sl → Sto → Prop} : onnx k Q .nx sl st = k sl st := rfl
theorem onnx_rt {k : Sl → Sto → Prop} {Q : Fl → Sl → Sto → Prop} {v : D} : onnx k Q (.rt v) sl st = Q (.rt v) sl st := rfl
theorem onnx_bk {k : Sl → Sto → Prop} {Q : Fl → Sl → Sto → Prop} : onnx k Q .bk sl st = Q .bk sl st := rfl
theorem onnx_ct {k : Sl → Sto → Prop} {Q : Fl → Sl → Sto → Prop} : onnx k Q .ct sl st = Q .ct sl st := rfl
theorem onnx_ex {k : Sl → Sto → Prop} {Q : Fl → Sl → Sto → Prop} {c : Nat} {x : D} : onnx k Q (.ex c x) sl st = Q (.ex c x) sl st := rfl
theorem w_ret {a : α} : wE (De.ret a) sl st Q = Q (.ok a) st := propext ⟨fun ⟨_, _, e, h⟩ => by cases e; exact h, fun h => ⟨_, _, rfl, h⟩⟩
theorem w_bnd {m : De β} {k : β → De α} : wE (m.bnd k) sl st Q = wE m sl st (onok (fun a st1 => wE (k a) sl st1 Q) Q) := by
  apply propext
  constructor
  · rintro ⟨r, st', e, h⟩
    unfold De.bnd at e
    split at e
    · next a st1 e1 => exact ⟨_, _, e1, ⟨_, _, e, h⟩⟩
    · next c x st1 e1 => cases e; exact ⟨_, _, e1, h⟩
    · cases e
  · rintro ⟨r, st1, e, h⟩
    cases r with
    | ok a =>
      obtain ⟨r', st', e2, h⟩ := h
      exact ⟨r', st', by unfold De.bnd; rw [e]; exact e2, h⟩
    | ex c x => exact ⟨_, _, by unfold De.bnd; rw [e], h⟩
theorem w_of {f : Sto → Option α} : wE (De.of f) sl st Q = ∃ a, f st = some a ∧ Q (.ok a) st := propext ⟨fun ⟨r, st', e, h⟩ => by
  obtain ⟨a, e1, e2⟩ := Option.map_eq_some_iff.mp (show (f st).map (fun a => ((Rs.ok a, st) : Rs α × Sto)) = some (r, st') from e)
  cases e2
  exact ⟨a, e1, h⟩, fun ⟨a, e, h⟩ => ⟨_, _, by show (f st).map _ = _; rw [e]; rfl, h⟩⟩
theorem w_upd {f : Sto → Option (α × Sto)} : wE (De.upd f) sl st Q = ∃ a st', f st = some (a, st') ∧ Q (.ok a) st' := propext ⟨fun ⟨r, st', e, h⟩ => by
  obtain ⟨⟨a, s⟩, e1, e2⟩ := Option.map_eq_some_iff.mp (show (f st).map (fun p => ((Rs.ok p.1, p.2) : Rs α × Sto)) = some (r, st') from e)
  cases e2
  exact ⟨a, s, e1, h⟩, fun ⟨a, s, e, h⟩ => ⟨_, _, by show (f st).map _ = _; rw [e]; rfl, h⟩⟩
theorem w_no : wE (No : De α) sl st Q = False := by
  apply propext
  constructor
  · rintro ⟨_, _, e, _⟩
    cases e
  · exact False.elim
theorem ex_map {γ δ : Type} {o : Option γ} {g : γ → δ} {P : δ → Prop} : (∃ z, o.map g = some z ∧ P z) = ∃ u, o = some u ∧ P (g u) := by
  apply propext
  constructor
  · rintro ⟨z, e, h⟩
    obtain ⟨u, e1, rfl⟩ := Option.map_eq_some_iff.mp e
    exact ⟨u, e1, h⟩
  · rintro ⟨u, e, h⟩
    exact ⟨_, by rw [e]; rfl, h⟩
theorem w_if {c : De Bool} {a b : De α} : wE (dIf c a b) sl st Q = wE c sl st (onok (fun k st1 => (k = true → wE a sl st1 Q) ∧ (k = false → wE b sl st1 Q)) Q) := by
  unfold dIf
  rw [w_bnd]
  congr 1
  funext r st1
  cases r with
  | ok k => cases k <;> simp [onok]
  | ex c x => rfl
theorem wc_ok {r : Rs D} {st' : Sto} {Q : Rs D → Sto → Prop} : wC (some (r, st')) Q = Q r st' := propext ⟨fun ⟨_, _, e, h⟩ => by cases e; exact h, fun h => ⟨_, _, rfl, h⟩⟩
end
section
variable {tb : Tb} {call : Nat → Cl} {sl : Sl} {st : Sto} {Q : Rs D → Sto → Prop} {QB : Rs Bool → Sto → Prop} {QL : Rs (List D) → Sto → Prop} {QI : Rs Its → Sto → Prop} {QO : Rs (Option Int) → Sto → Prop} {a b c r o e lo hi : E}
theorem we_v {i : Nat} : wE (evE tb call (.v i)) sl st Q = ∃ d, sl[i]? = some (some d) ∧ Q (.ok d) st := by
  apply propext
  constructor
  · rintro ⟨r, st', e, h⟩
    have e : dVar i sl st = some (r, st') := e
    unfold dVar at e
    split at e
    · next d e1 => cases e; exact ⟨d, e1, h⟩
    · cases e
  · rintro ⟨d, e, h⟩
    exact ⟨.ok d, st, by show dVar i sl st = _; unfold dVar; rw [e], h⟩
theorem we_c {d : D} : wE (evE tb call (.c d)) sl st Q = Q (.ok d) st := w_ret
theorem we_g {n : Nat} : wE (evE tb call (.g n)) sl st Q = ∃ p, tb.gc[n]? = some p ∧ Q (.ok p.2) st := by
  show wE (dGc tb n) sl st Q = _
  unfold dGc
  cases tb.gc[n]? with
  | none => show wE (No : De D) sl st Q = _; rw [w_no]; simp
  | some p => show wE (De.ret p.2) sl st Q = _; rw [w_ret]; simp
theorem we_bin {p : Op2} : wE (evE tb call (.bin p a b)) sl st Q = wE (evE tb call a) sl st (onok (fun x s1 => wE (evE tb call b) sl s1 (onok (fun y s2 => ∃ z, p.f x y s2 = some z ∧ Q (.ok z) s2) Q)) Q) := by
  show wE (dBnd2 _ _ _) sl st Q = _
  unfold dBnd2
  simp only [w_bnd, w_of]
theorem we_cmp {p : Cp2} : wE (evE tb call (.cmp p a b)) sl st Q = wE (evE tb call a) sl st (onok (fun x s1 => wE (evE tb call b) sl s1 (onok (fun y s2 => ∃ z, p.f x y s2 = some z ∧ Q (.ok z) s2) Q)) Q) := by
  show wE (dBnd2 _ _ _) sl st Q = _
  unfold dBnd2
  simp only [w_bnd, w_of]
theorem we_ix : wE (evE tb call (.ix a b)) sl st Q = wE (evE tb call a) sl st (onok (fun x s1 => wE (evE tb call b) sl s1 (onok (fun y s2 => ∃ z, fIxD x y s2 = some z ∧ Q (.ok z) s2) Q)) Q) := by
  show wE (dBnd2 _ _ _) sl st Q = _
  unfold dBnd2
  simp only [w_bnd, w_of]
theorem we_neg : wE (evE tb call (.neg a)) sl st Q = wE (evE tb call a) sl st (onok (fun x s1 => ∃ z, fNeg x s1 = some z ∧ Q (.ok z) s1) Q) := by
  show wE (dBnd1 _ _) sl st Q = _
  unfold dBnd1
  simp only [w_bnd, w_of]
theorem we_not : wE (evE tb call (.not a)) sl st Q = wE (evE tb call a) sl st (onok (fun x s1 => ∃ k, tru x s1 = some k ∧ Q (.ok (.bl (!k))) s1) Q) := by
  show wE (De.bnd _ _) sl st Q = _
  simp only [w_bnd, w_of, ex_map]
theorem we_ite : wE (evE tb call (.ite c a b)) sl st Q = wE (evT tb call c) sl st (onok (fun k st1 => (k = true → wE (evE tb call a) sl st1 Q) ∧ (k = false → wE (evE tb call b) sl st1 Q)) Q) := w_if
theorem we_andv : wE (evE tb call (.andv r)) sl st Q = wE (evAnd tb call r) sl st Q := rfl
theorem we_orv : wE (evE tb call (.orv r)) sl st Q = wE (evOr tb call r) sl st Q := rfl
theorem we_and1 : wE (evAnd tb call (.one a)) sl st Q = wE (evE tb call a) sl st Q := rfl
theorem we_or1 : wE (evOr tb call (.one a)) sl st Q = wE (evE tb call a) sl st Q := rfl
theorem we_and : wE (evAnd tb call (.cons a r)) sl st Q = wE (evE tb call a) sl st (onok (fun x s1 => ∃ k, tru x s1 = some k ∧ (k = true → wE (evAnd tb call r) sl s1 Q) ∧ (k = false → Q (.ok x) s1)) Q) := by
  show wE (dAnd _ _) sl st Q = _
  unfold dAnd
  simp only [w_bnd, w_of, onok]
  congr 1; funext r s1
  cases r with
  | ok x =>
    simp only [onok]
    apply propext; constructor
    · rintro ⟨k, e, h⟩; refine ⟨k, e, ?_⟩; cases k <;> simpa [w_ret] using h
    · rintro ⟨k, e, h⟩; refine ⟨k, e, ?_⟩; cases k <;> simpa [w_ret] using h
  | ex c x => rfl
theorem we_or : wE (evOr tb call (.cons a r)) sl st Q = wE (evE tb call a) sl st (onok (fun x s1 => ∃ k, tru x s1 = some k ∧ (k = true → Q (.ok x) s1) ∧ (k = false → wE (evOr tb call r) sl s1 Q)) Q) := by
  show wE (dOr _ _) sl st Q = _
  unfold dOr
  simp only [w_bnd, w_of, onok]
  congr 1; funext r s1
  cases r with
  | ok x =>
    simp only [onok]
    apply propext; constructor
    · rintro ⟨k, e, h⟩; refine ⟨k, e, ?_⟩; cases k <;> simpa [w_ret] using h
    · rintro ⟨k, e, h⟩; refine ⟨k, e, ?_⟩; cases k <;> simpa [w_ret] using h
  | ex c x => rfl
theorem we_tup : wE (evE tb call (.tup r)) sl st Q = wE (evA tb call r) sl st (onok (fun xs s1 => Q (.ok (.tup xs)) s1) Q) := by
  show wE (De.bnd _ _) sl st Q = _
  simp only [w_bnd, w_ret]
theorem we_frz : wE (evE tb call (.frz r)) sl st Q = wE (evN tb call r) sl st (onok (fun xs s1 => Q (.ok (.lst xs)) s1) Q) := by
  show wE (De.frz _) sl st Q = _
  unfold De.frz
  simp only [w_bnd, w_ret]
theorem we_alc : wE (evE tb call (.alc r)) sl st Q = wE (evN tb call r) sl st (onok (fun xs s1 => Q (.ok (.ref s1.o.length)) (s1.add (.lst xs))) Q) := by
  show wE (De.alc _) sl st Q = _
  unfold De.alc
  rw [w_bnd]
  congr 1; funext r s1
  cases r with
  | ok x => exact propext ⟨fun ⟨_, _, e, h⟩ => by cases e; exact h, fun h => ⟨_, _, rfl, h⟩⟩
  | ex c x => rfl
theorem we_blt {x : Bi} : wE (evE tb call (.blt x r)) sl st Q = wE (evA tb call r) sl st (onok (fun xs s1 => ∃ z, x.f xs s1 = some z ∧ Q (.ok z) s1) Q) := by
  show wE (De.bnd _ _) sl st Q = _
  simp only [w_bnd, w_of]
theorem we_call {k : Nat} : wE (evE tb call (.call k r)) sl st Q = wE (evA tb call r) sl st (onok (fun xs s1 => wC (call k xs s1) Q) Q) := by
  show wE (De.bnd _ _) sl st Q = _
  simp only [w_bnd]
  rfl
theorem we_meth {m : Mn} : wE (evE tb call (.meth m o r)) sl st Q = wE (evE tb call o) sl st (onok (fun x s1 => ∃ k, m.mk x s1 = some k ∧ wE (evA tb call r) sl s1 (onok (fun xs s2 => ∃ v s3, m.g k x xs s2 = some (v, s3) ∧ Q (.ok v) s3) Q)) Q) := by
  show wE (dMeth _ _ _ _) sl st Q = _
  unfold dMeth
  simp only [w_bnd, w_of, w_upd, onok]
theorem we_sl : wE (evE tb call (.sl e lo hi)) sl st Q = wE (evE tb call e) sl st (onok (fun x s1 => wE (evO tb call lo) sl s1 (onok (fun l s2 => wE (evO tb call hi) sl s2 (onok (fun u s3 => ∃ z, fSl x l u s3 = some z ∧ Q (.ok z) s3) Q)) Q)) Q) := by
  show wE (De.bnd _ _) sl st Q = _
  simp only [w_bnd, w_of]
theorem we_isi {t : TN} : wE (evE tb call (.isi a t)) sl st Q = wE (evE tb call a) sl st (onok (fun x s1 => ∃ u, tyOf x s1 = some u ∧ Q (.ok (.bl (u.isa t))) s1) Q) := by
  show wE (dBnd1 _ _) sl st Q = _
  unfold dBnd1 fIsi
  simp only [w_bnd, w_of, ex_map]
theorem we_isi2 {t v : TN} : wE (evE tb call (.isi2 a t v)) sl st Q = wE (evE tb call a) sl st (onok (fun x s1 => ∃ u, tyOf x s1 = some u ∧ Q (.ok (.bl (u.isa t || u.isa v))) s1) Q) := by
  show wE (dBnd1 _ _) sl st Q = _
  unfold dBnd1 fIsi2
  simp only [w_bnd, w_of, ex_map]
theorem we_dsp {al : Bool} {ks : List L2.Key} : wE (evE tb call (.dsp al ks r)) sl st Q = ∃ xs s1, evA tb call r sl st = some (.ok xs, s1) ∧ xs.length = ks.length ∧ (al = true → Q (.ok (.ref s1.o.length)) (s1.add (.dic ks xs))) ∧ (al = false → Q (.ok (.dic ks xs)) s1) := by
  show wE (dDsp _ _ _) sl st Q = _
  apply propext; constructor
  · rintro ⟨r', s', e, h⟩
    unfold dDsp at e
    split at e
    · next xs s1 e1 =>
      split at e
      · next hl => refine ⟨xs, s1, e1, hl, ?_⟩; cases al <;> cases e <;> simp [h]
      · cases e
    · cases e
  · rintro ⟨xs, s1, e1, hl, h1, h2⟩
    unfold wE dDsp
    rw [e1]
    simp only [hl, if_true]
    cases al with
    | true => exact ⟨_, _, rfl, h1 rfl⟩
    | false => exact ⟨_, _, rfl, h2 rfl⟩
theorem we_newd {al : Bool} : wE (evE tb call (.newd al)) sl st Q = ((al = true → Q (.ok (.ref st.o.length)) (st.add (.dic [] []))) ∧ (al = false → Q (.ok (.dic [] [])) st)) := by
  show wE (dNewD al) sl st Q = _
  cases al <;> exact propext ⟨fun ⟨_, _, e, h⟩ => by cases e; simp [h], fun h => ⟨_, _, rfl, by simpa using h⟩⟩
-- truth
theorem wt_val : wE (evT tb call (.val a)) sl st QB = wE (evE tb call a) sl st (onok (fun x s1 => ∃ k, tru x s1 = some k ∧ QB (.ok k) s1) QB) := by
  show wE (De.bnd _ _) sl st QB = _
  simp only [w_bnd, w_of]
theorem wt_cmp {p : Cp2} : wE (evT tb call (.cmp p a b)) sl st QB = wE (evE tb call a) sl st (onok (fun x s1 => wE (evE tb call b) sl s1 (onok (fun y s2 => ∃ k, (p.f x y s2).bind asB = some k ∧ QB (.ok k) s2) QB)) QB) := by
  show wE (De.bnd _ _) sl st QB = _
  simp only [w_bnd, w_of]
theorem wt_not : wE (evT tb call (.not a)) sl st QB = wE (evT tb call a) sl st (onok (fun k s1 => QB (.ok (!k)) s1) QB) := by
  show wE (De.bnd _ _) sl st QB = _
  simp only [w_bnd, w_ret]
theorem wt_andv : wE (evT tb call (.andv r)) sl st QB = wE (evTAnd tb call r) sl st QB := rfl
theorem wt_orv : wE (evT tb call (.orv r)) sl st QB = wE (evTOr tb call r) sl st QB := rfl
theorem wt_and1 : wE (evTAnd tb call (.one a)) sl st QB = wE (evT tb call a) sl st QB := rfl
theorem wt_or1 : wE (evTOr tb call (.one a)) sl st QB = wE (evT tb call a) sl st QB := rfl
theorem wt_and : wE (evTAnd tb call (.cons a r)) sl st QB = wE (evT tb call a) sl st (onok (fun k s1 => (k = true → wE (evTAnd tb call r) sl s1 QB) ∧ (k = false → QB (.ok false) s1)) QB) := by
  show wE (dIf _ _ _) sl st QB = _
  simp only [w_if, w_ret]
theorem wt_or : wE (evTOr tb call (.cons a r)) sl st QB = wE (evT tb call a) sl st (onok (fun k s1 => (k = true → QB (.ok true) s1) ∧ (k = false → wE (evTOr tb call r) sl s1 QB)) QB) := by
  show wE (dIf _ _ _) sl st QB = _
  simp only [w_if, w_ret]
-- arguments
theorem wa_nil : wE (evA tb call .nil) sl st QL = QL (.ok []) st := w_ret
theorem wa_cons : wE (evA tb call (.cons a r)) sl st QL = wE (evE tb call a) sl st (onok (fun x s1 => wE (evA tb call r) sl s1 (onok (fun xs s2 => QL (.ok (x :: xs)) s2) QL)) QL) := by
  show wE (De.cons _ _) sl st QL = _
  unfold De.cons
  simp only [w_bnd, w_ret]
-- makers
theorem wn_disp : wE (evN tb call (.disp r)) sl st QL = wE (evA tb call r) sl st QL := rfl
theorem wn_lis : wE (evN tb call (.lis r)) sl st QL = wE (evA tb call r) sl st (onok (fun xs s1 => ∃ z, fList xs s1 = some z ∧ QL (.ok z) s1) QL) := by
  show wE (De.bnd _ _) sl st QL = _
  simp only [w_bnd, w_of]
theorem wn_comp {vs : List Nat} {t : Tg} {it ifs x : E} : wE (evN tb call (.comp vs t it ifs x)) sl st QL = wE (evI tb call it) sl st (onok (fun xg s1 => ∃ ys s2, compL t xg.2 (evIf tb call ifs) (evE tb call x) (wipeS sl vs) xg.1 s1 = some (ys, s2) ∧ ys.length ≤ sizeLine ∧ QL (.ok ys) s2) QL) := by
  show wE (dComp _ _ _ _ _) sl st QL = _
  unfold dComp
  rw [w_bnd]
  congr 1; funext r s1
  cases r with
  | ok xg =>
    apply propext; constructor
    · rintro ⟨r', s', e, h⟩
      dsimp only at e
      split at e
      · next ys s3 e1 =>
        split at e
        · next hl => cases e; exact ⟨_, _, e1, hl, h⟩
        · cases e
      · cases e
    · rintro ⟨ys, s2, e1, hl, h⟩
      exact ⟨_, _, by dsimp only; rw [e1]; dsimp only; rw [if_pos hl], h⟩
  | ex c x => rfl
-- iterables, slices
theorem wi_rng : wE (evI tb call (.rng r)) sl st QI = wE (evA tb call r) sl st (onok (fun xs s1 => ∃ z, rngOf xs s1 = some z ∧ QI (.ok z) s1) QI) := by
  show wE (De.bnd _ _) sl st QI = _
  simp only [w_bnd, w_of]
theorem wi_enu : wE (evI tb call (.enu r)) sl st QI = wE (evA tb call r) sl st (onok (fun xs s1 => ∃ z, enuOf xs s1 = some z ∧ QI (.ok z) s1) QI) := by
  show wE (De.bnd _ _) sl st QI = _
  simp only [w_bnd, w_of]
theorem wi_one : wE (evI tb call (.one a)) sl st QI = wE (evE tb call a) sl st (onok (fun x s1 => ∃ z, itemsOf x s1 = some z ∧ QI (.ok z) s1) QI) := by
  show wE (De.bnd _ _) sl st QI = _
  simp only [w_bnd, w_of]
theorem wo_non : wE (evO tb call .non_) sl st QO = QO (.ok none) st := w_ret
theorem wo_some : wE (evO tb call (.some_ a)) sl st QO = wE (evE tb call a) sl st (onok (fun x s1 => ∃ i, asI x = some i ∧ QO (.ok (some i)) s1) QO) := by
  show wE (De.bnd _ _) sl st QO = _
  simp only [w_bnd, w_of, ex_map]
end
section
variable {tb : Tb} {cfl : Nat → Str} {call : Nat → Cl} {sl : Sl} {st : Sto} {Q : Fl → Sl → Sto → Prop} {a b r : S} {c e : E}
theorem ws_now {d : Ds} {f : Fl} {sl' : Sl} {st' : Sto} (e : d sl st = some (f, sl', st')) : wS d sl st Q = Q f sl' st' := propext ⟨fun ⟨_, _, _, h, q⟩ => by rw [e] at h; cases h; exact q, fun q => ⟨_, _, _, e, q⟩⟩
theorem ws_of {α : Type} {m : De α} {k : α → Ds} : wS (Ds.of m k) sl st Q = wE m sl st (onokS (fun x s1 => wS (k x) sl s1 Q) sl Q) := by
  apply propext
  constructor
  · rintro ⟨f, sl', st', e, h⟩
    unfold Ds.of at e
    split at e
    · next x s1 e1 => exact ⟨_, _, e1, ⟨_, _, _, e, h⟩⟩
    · next c x s1 e1 => cases e; exact ⟨_, _, e1, h⟩
    · cases e
  · rintro ⟨r, s1, e, h⟩
    cases r with
    | ok x =>
      obtain ⟨f, sl', st', e2, h⟩ := h
      exact ⟨f, sl', st', by unfold Ds.of; rw [e]; exact e2, h⟩
    | ex c x => exact ⟨_, _, _, by unfold Ds.of; rw [e], h⟩
theorem ws_nop : wS (evS tb cfl call .nop) sl st Q = Q .nx sl st := ws_now rfl
theorem ws_nil : wS (evS tb cfl call .nil) sl st Q = Q .nx sl st := ws_now rfl
theorem ws_brk : wS (evS tb cfl call .brk) sl st Q = Q .bk sl st := ws_now rfl
theorem ws_cnt : wS (evS tb cfl call .cnt) sl st Q = Q .ct sl st := ws_now rfl
theorem ws_retn : wS (evS tb cfl call .retn) sl st Q = Q (.rt .non) sl st := ws_now rfl
theorem ws_exp : wS (evS tb cfl call (.exp e)) sl st Q = wE (evE tb call e) sl st (onokS (fun _ s1 => Q .nx sl s1) sl Q) := by
  show wS (Ds.of _ _) sl st Q = _
  rw [ws_of]
  congr 1; funext r s1
  cases r with
  | ok x => show wS Ds.nx sl s1 Q = Q .nx sl s1; exact ws_now rfl
  | ex c x => rfl
theorem ws_ret : wS (evS tb cfl call (.ret e)) sl st Q = wE (evE tb call e) sl st (onokS (fun v s1 => Q (.rt v) sl s1) sl Q) := by
  show wS (Ds.of _ _) sl st Q = _
  rw [ws_of]
  congr 1; funext r s1
  cases r with
  | ok x => show wS (fun sl st => some (.rt x, sl, st)) sl s1 Q = Q (.rt x) sl s1; exact ws_now rfl
  | ex c x => rfl
theorem ws_raise {k : Nat} : wS (evS tb cfl call (.raise k e)) sl st Q = wE (evE tb call e) sl st (onokS (fun v s1 => Q (.ex k v) sl s1) sl Q) := by
  show wS (Ds.of _ _) sl st Q = _
  rw [ws_of]
  congr 1; funext r s1
  cases r with
  | ok x => show wS (fun sl st => some (.ex k x, sl, st)) sl s1 Q = Q (.ex k x) sl s1; exact ws_now rfl
  | ex c x => rfl
theorem ws_ite : wS (evS tb cfl call (.ite c a b)) sl st Q = wE (evT tb call c) sl st (onokS (fun k s1 => (k = true → wS (evS tb cfl call a) sl s1 Q) ∧ (k = false → wS (evS tb cfl call b) sl s1 Q)) sl Q) := by
  show wS (Ds.ife _ _ _) sl st Q = _
  unfold Ds.ife
  rw [ws_of]
  congr 1; funext r s1
  cases r with
  | ok k => cases k <;> simp [onokS]
  | ex c x => rfl
theorem ws_set' {t : Tg} {d : De D} : wS (Ds.set t d) sl st Q = wE d sl st (onokS (fun v s1 => ∃ sl1, setT t v sl = some sl1 ∧ Q .nx sl1 s1) sl Q) := by
  unfold Ds.set
  rw [ws_of]
  congr 1; funext r s1
  cases r with
  | ok v =>
    apply propext; constructor
    · rintro ⟨f, sl', st', e, h⟩
      obtain ⟨sl1, e1, e2⟩ := Option.map_eq_some_iff.mp (show (setT t v sl).map (fun sl' => ((.nx, sl', s1) : Fl × Sl × Sto)) = some (f, sl', st') from e)
      cases e2
      exact ⟨_, e1, h⟩
    · rintro ⟨sl1, e, h⟩
      exact ⟨.nx, sl1, s1, by dsimp only; rw [e]; rfl, h⟩
  | ex c x => rfl
theorem ws_set {t : Tg} : wS (evS tb cfl call (.set t e)) sl st Q = wE (evE tb call e) sl st (onokS (fun v s1 => ∃ sl1, setT t v sl = some sl1 ∧ Q .nx sl1 s1) sl Q) := ws_set'
theorem ws_setcF {i : Nat} : wS (evS tb cfl call (.setc i false e)) sl st Q = wE (evE tb call (.frz e)) sl st (onokS (fun v s1 => Q .nx (sl.set i (some v)) s1) sl Q) := by
  show wS (Ds.set (.nm i) (De.frz _)) sl st Q = _
  rw [ws_set']
  congr 1; funext r s1
  cases r with
  | ok v => exact propext ⟨fun ⟨_, e, h⟩ => by cases e; exact h, fun h => ⟨_, rfl, h⟩⟩
  | ex c x => rfl
theorem ws_setcT {i : Nat} : wS (evS tb cfl call (.setc i true e)) sl st Q = wE (evE tb call (.alc e)) sl st (onokS (fun v s1 => Q .nx (sl.set i (some v)) s1) sl Q) := by
  show wS (Ds.set (.nm i) (De.alc _)) sl st Q = _
  rw [ws_set']
  congr 1; funext r s1
  cases r with
  | ok v => exact propext ⟨fun ⟨_, e, h⟩ => by cases e; exact h, fun h => ⟨_, rfl, h⟩⟩
  | ex c x => rfl
theorem ws_par {is : List Nat} : wS (evS tb cfl call (.par is e)) sl st Q = wE (evA tb call e) sl st (onokS (fun xs s1 => is.length = xs.length ∧ Q .nx (setAll is xs sl) s1) sl Q) := by
  show wS (Ds.par _ _) sl st Q = _
  unfold Ds.par
  rw [ws_of]
  congr 1; funext r s1
  cases r with
  | ok xs =>
    apply propext; constructor
    · rintro ⟨f, sl', st', e, h⟩
      dsimp only at e
      split at e
      · next hl => cases e; exact ⟨hl, h⟩
      · cases e
    · rintro ⟨hl, h⟩
      exact ⟨_, _, _, by dsimp only; rw [if_pos hl], h⟩
  | ex c x => rfl
theorem ws_put {o i : E} : wS (evS tb cfl call (.put e o i)) sl st Q = wE (evE tb call e) sl st (onokS (fun v s1 => wE (evE tb call o) sl s1 (onokS (fun x s2 => wE (evE tb call i) sl s2 (onokS (fun y s3 => ∃ s4, putD x y v s3 = some s4 ∧ Q .nx sl s4) sl Q)) sl Q)) sl Q) := by
  show wS (Ds.putD _ _ _) sl st Q = _
  unfold Ds.putD
  simp only [ws_of]
  congr 1; funext r s1
  cases r with
  | ok v =>
    simp only [onokS]
    congr 1; funext r s1
    cases r with
    | ok x =>
      simp only [onokS]
      congr 1; funext r s1
      cases r with
      | ok y =>
        apply propext; constructor
        · rintro ⟨f, sl', st', e, h⟩
          obtain ⟨s4, e1, e2⟩ := Option.map_eq_some_iff.mp (show (putD x y v s1).map (fun st' => ((.nx, sl, st') : Fl × Sl × Sto)) = some (f, sl', st') from e)
          cases e2
          exact ⟨_, e1, h⟩
        · rintro ⟨s4, e, h⟩
          exact ⟨.nx, sl, s4, by dsimp only; rw [e]; rfl, h⟩
      | ex c x => rfl
    | ex c x => rfl
  | ex c x => rfl
theorem ws_seq : wS (evS tb cfl call (.seq a r)) sl st Q = wS (evS tb cfl call a) sl st (onnx (fun sl1 s1 => wS (evS tb cfl call r) sl1 s1 Q) Q) := by
  show wS (Ds.seq _ _) sl st Q = _
  apply propext; constructor
  · rintro ⟨f, sl', st', e, h⟩
    unfold Ds.seq at e
    split at e
    · next sl1 s1 e1 => exact ⟨.nx, sl1, s1, e1, ⟨_, _, _, e, h⟩⟩
    · next hne =>
      refine ⟨f, sl', st', e, ?_⟩
      cases f with
      | nx => exact (hne sl' st' e).elim
      | _ => exact h
  · rintro ⟨f, sl1, s1, e, h⟩
    cases f with
    | nx =>
      obtain ⟨f, sl', st', e2, h⟩ := h
      exact ⟨f, sl', st', by unfold Ds.seq; rw [e]; exact e2, h⟩
    | _ => exact ⟨_, _, _, by unfold Ds.seq; rw [e], h⟩
theorem ws_for {t : Tg} {it : E} : wS (evS tb cfl call (.for_ t it a)) sl st Q = wE (evI tb call it) sl st (onokS (fun xg s1 => wS (forL t xg.2 (evS tb cfl call a) xg.1) sl s1 Q) sl Q) := by
  show wS (Ds.for_ _ _ _) sl st Q = _
  unfold Ds.for_
  rw [ws_of]
theorem ws_while {n : Nat} : wS (evS tb cfl call (.while_ n c a)) sl st Q = wS (whileL (evT tb call c) (evS tb cfl call a) n) sl st Q := rfl
theorem ws_try {hs : List Hd} : wS (evS tb cfl call (.try_ a hs)) sl st Q = wS (evS tb cfl call a) sl st (fun f sl1 s1 => match f with
  | .ex c x => (match pick tb.sub c hs with
    | none => Q (.ex c x) sl1 s1
    | some h => h.okL sl1 = true ∧ ∃ v, h.val (cfl c) x = some v ∧ Q .nx (h.sl v sl1) s1)
  | f => Q f sl1 s1) := by
  show wS (Ds.try_ _ _ _ _) sl st Q = _
  apply propext; constructor
  · rintro ⟨f, sl', st', e, h⟩
    unfold Ds.try_ at e
    split at e
    · next c x sl1 s1 e1 =>
      refine ⟨_, _, _, e1, ?_⟩
      dsimp only
      split at e
      · next ep => cases e; first | exact h | (rw [ep]; exact h)
      · next hd ep =>
        split at e
        · next hl =>
          obtain ⟨v, ev, e2⟩ := Option.map_eq_some_iff.mp e
          cases e2
          first
            | exact ⟨hl, v, ev, h⟩
            | (rw [ep]; exact ⟨hl, v, ev, h⟩)
        · cases e
    · next hne =>
      refine ⟨f, sl', st', e, ?_⟩
      cases f with
      | ex c x => exact (hne c x sl' st' e).elim
      | _ => exact h
  · rintro ⟨f, sl1, s1, e, h⟩
    cases f with
    | ex c x =>
      dsimp only at h
      split at h
      · next ep => exact ⟨_, _, _, by unfold Ds.try_; rw [e]; dsimp only; rw [ep], h⟩
      · next hd ep =>
        obtain ⟨hl, v, ev, h⟩ := h
        exact ⟨.nx, _, _, by unfold Ds.try_; rw [e]; dsimp only; rw [ep]; dsimp only; rw [if_pos hl, ev]; rfl, h⟩
    | _ => exact ⟨_, _, _, by unfold Ds.try_; rw [e], h⟩
end
/-- a def runs -/
theorem wc_run {F : Fn} {ev : Ds} {ds : List D} {st : Sto} {Q : Rs D → Sto → Prop} (hl : ds.length = F.np) (h : wS ev (startS F.sl ds) st.enter fun f _ s1 => s1.bs = st.o.length :: st.bs ∧ ∃ r s2, outF F.nw st s1 f = some (r, s2) ∧ Q r s2) : wC (runFn F ev ds st) Q := by
  obtain ⟨f, sl', s1, e, hb, r, s2, eo, q⟩ := h
  refine ⟨r, s2, ?_, q⟩
  unfold runFn
  rw [if_pos hl, e]
  dsimp only
  rw [if_pos hb, eo]
theorem wc_eq {o : Option (Rs D × Sto)} {r : Rs D} {st : Sto} (h : wC o fun r' s' => r' = r ∧ s' = st) : o = some (r, st) := by
  obtain ⟨r', s', e, rfl, rfl⟩ := h
  exact e
theorem leave_enter (st : Sto) : st.leave st.enter = st := by cases st; simp [Sto.leave, Sto.enter]
theorem enter_bs (st : Sto) : st.enter.bs = st.o.length :: st.bs := rfl
mutual
theorem fzD_bel {b : Nat} {j : Nat → Option D} (hj : ∀ l, l < b → j l = some (.ref l)) : ∀ d : D, d.bel b = true → fzD j d = some d
  | .ref l, h => hj l (of_decide_eq_true (show decide (l < b) = true from h))
  | .tup xs, h => by show (fzD.go j xs).map D.tup = _; rw [fzL_bel hj xs h]; rfl
  | .lst xs, h => by show (fzD.go j xs).map D.lst = _; rw [fzL_bel hj xs h]; rfl
  | .scr xs, h => by show (fzD.go j xs).map D.scr = _; rw [fzL_bel hj xs h]; rfl
  | .dic ks xs, h => by show (fzD.go j xs).map (D.dic ks) = _; rw [fzL_bel hj xs h]; rfl
  | .non, _ => rfl
  | .bl _, _ => rfl
  | .int _, _ => rfl
  | .str _, _ => rfl
  | .ins _ _, h => by cases h
theorem fzL_bel {b : Nat} {j : Nat → Option D} (hj : ∀ l, l < b → j l = some (.ref l)) : ∀ ds : List D, D.bels b ds = true → fzD.go j ds = some ds
  | [], _ => rfl
  | d :: ds, h => by
    obtain ⟨h1, h2⟩ := Bool.and_eq_true_iff.mp (show (D.bel b d && D.bels b ds) = true from h)
    show (match fzD j d, fzD.go j ds with
      | some y, some s => some (y :: s)
      | _, _ => none) = _
    rw [fzD_bel hj d h1, fzL_bel hj ds h2]
end
theorem fz_bel {b : Nat} {st : Sto} {d : D} (h : d.bel b = true) : fz b st d = some d := fzD_bel (fun l hl => by show (if l < b then some (D.ref l) else _) = _; rw [if_pos hl]) d h
/-- a value without places leaves a def that made nothing -/
theorem out_rt {st : Sto} {v : D} (h : v.bel 0 = true) : outF false st st.enter (.rt v) = some (.ok v, st) := by
  show (fz st.o.length st.enter v).map _ = _
  rw [fz_bel (D.bel_mono (Nat.zero_le _) _ h), Option.map_some, leave_enter]
theorem out_ex {nw : Bool} {st : Sto} {c : Nat} {v : D} (h : v.bel 0 = true) : outF nw st st.enter (.ex c v) = some (.ex c v, st) := by
  show (fz st.o.length st.enter v).map _ = _
  rw [fz_bel (D.bel_mono (Nat.zero_le _) _ h), Option.map_some, leave_enter]
end Hb

set_option Elab.async false
set_option linter.all false
set_option maxRecDepth 100000
set_option maxHeartbeats 1000000
/-! Part W: what operations answer, as equations (for simp). -/
namespace Hb
open PySem PySem.Spec
section
variable {i j : Int} {st : Sto} {x y : D} {a b : Bool}
theorem o_add_i : Op2.add.f (.int i) (.int j) st = some (.int (i + j)) := rfl
theorem o_add_s {x y : Str} : Op2.add.f (.str x) (.str y) st = if x.length + y.length ≤ sizeLine then some (.str (x ++ y)) else none := rfl
theorem o_add_t {x y : List D} : Op2.add.f (.tup x) (.tup y) st = if x.length + y.length ≤ sizeLine then some (.tup (x ++ y)) else none := rfl
theorem o_add_l {x y : List D} : Op2.add.f (.lst x) (.lst y) st = if x.length + y.length ≤ sizeLine then some (.lst (x ++ y)) else none := rfl
theorem o_sub_i : Op2.sub.f (.int i) (.int j) st = some (.int (i - j)) := rfl
theorem o_mul_i : Op2.mul.f (.int i) (.int j) st = if cMul i j = true then some (.int (i * j)) else none := rfl
theorem o_fdv_i : Op2.fdv.f (.int i) (.int j) st = if (decide (0 < j) && decide (j < 1073741824)) = true then some (.int (i / j)) else none := rfl
theorem o_mod_i : Op2.mod.f (.int i) (.int j) st = if decide (0 < j) = true then some (.int (i % j)) else none := rfl
theorem o_pow_i : Op2.pow.f (.int i) (.int j) st = if (decide (0 ≤ j) && decide (j ≤ 1000000) && decide (i.natAbs < 2 ^ 64)) = true then some (.int (i ^ j.toNat)) else none := rfl
theorem o_neg_i : fNeg (.int i) st = some (.int (-i)) := rfl
theorem o_lt_i : Cp2.lt.f (.int i) (.int j) st = some (.bl (decide (i < j))) := rfl
theorem o_le_i : Cp2.le.f (.int i) (.int j) st = some (.bl (decide (i ≤ j))) := rfl
theorem o_gt_i : Cp2.gt.f (.int i) (.int j) st = some (.bl (decide (j < i))) := rfl
theorem o_ge_i : Cp2.ge.f (.int i) (.int j) st = some (.bl (decide (j ≤ i))) := rfl
theorem o_is_n : Cp2.is.f x .non st = some (.bl (isNon x)) := rfl
theorem o_isn_n : Cp2.isn.f x .non st = some (.bl (!isNon x)) := rfl
theorem o_eq_d : Cp2.eq.f x y st = fEq x y st := rfl
theorem o_ne_d : Cp2.ne.f x y st = fNe x y st := rfl
theorem o_in_d : Cp2.inn.f x y st = fInD x y st := rfl
theorem o_nin_d : Cp2.nin.f x y st = fNinD x y st := rfl
theorem bx_len {xs : List D} : Bi.len.f xs st = fLen xs st := rfl
theorem bx_int {xs : List D} : Bi.int.f xs st = fInt xs st := rfl
theorem bx_min {xs : List D} : Bi.min.f xs st = fMin2 xs st := rfl
theorem bx_max {xs : List D} : Bi.max.f xs st = fMax2 xs st := rfl
theorem bx_sum {xs : List D} : Bi.sum.f xs st = fSum xs st := rfl
theorem bx_all {xs : List D} : Bi.all.f xs st = fAll xs st := rfl
theorem bx_any {xs : List D} : Bi.any.f xs st = fAny xs st := rfl
theorem bx_tuple {xs : List D} : Bi.tuple.f xs st = fTuple xs st := rfl
theorem b_min_i : fMin2 [.int i, .int j] st = some (.int (if j < i then j else i)) := rfl
theorem b_max_i : fMax2 [.int i, .int j] st = some (.int (if j > i then j else i)) := rfl
theorem b_int_i : fInt [.int i] st = some (.int i) := rfl
theorem b_int_b : fInt [.bl a] st = some (.int (if a then 1 else 0)) := rfl
theorem b_len_t {xs : List D} : fLen [.tup xs] st = some (.int (xs.length : Int)) := rfl
theorem b_len_l {xs : List D} : fLen [.lst xs] st = some (.int (xs.length : Int)) := rfl
theorem b_len_c {xs : List D} : fLen [.scr xs] st = some (.int (xs.length : Int)) := rfl
theorem b_len_s {x : Str} (h : x.length ≤ sizeLine) : fLen [.str x] st = some (.int (x.length : Int)) := by
  show (if x.length ≤ sizeLine then some x.length else none).map (fun n : Nat => D.int (n : Int)) = _
  rw [if_pos h]; rfl
theorem b_tup_t {xs : List D} : fTuple [.tup xs] st = some (.tup xs) := rfl
theorem b_tup_l {xs : List D} : fTuple [.lst xs] st = some (.tup xs) := rfl
theorem b_lis_t {xs : List D} : fList [.tup xs] st = some xs := rfl
theorem b_lis_l {xs : List D} : fList [.lst xs] st = some xs := rfl
theorem isa_tab : (TN.isa .non .non = true ∧ TN.isa .non .bl = false ∧ TN.isa .non .int = false ∧ TN.isa .non .str = false ∧ TN.isa .non .tup = false ∧ TN.isa .non .lst = false ∧ TN.isa .non .dic = false) ∧
    (TN.isa .bl .non = false ∧ TN.isa .bl .bl = true ∧ TN.isa .bl .int = true ∧ TN.isa .bl .str = false ∧ TN.isa .bl .tup = false ∧ TN.isa .bl .lst = false ∧ TN.isa .bl .dic = false) ∧
    (TN.isa .int .non = false ∧ TN.isa .int .bl = false ∧ TN.isa .int .int = true ∧ TN.isa .int .str = false ∧ TN.isa .int .tup = false ∧ TN.isa .int .lst = false ∧ TN.isa .int .dic = false) ∧
    (TN.isa .str .non = false ∧ TN.isa .str .bl = false ∧ TN.isa .str .int = false ∧ TN.isa .str .str = true ∧ TN.isa .str .tup = false ∧ TN.isa .str .lst = false ∧ TN.isa .str .dic = false) ∧
    (TN.isa .tup .non = false ∧ TN.isa .tup .bl = false ∧ TN.isa .tup .int = false ∧ TN.isa .tup .str = false ∧ TN.isa .tup .tup = true ∧ TN.isa .tup .lst = false ∧ TN.isa .tup .dic = false) ∧
    (TN.isa .lst .non = false ∧ TN.isa .lst .bl = false ∧ TN.isa .lst .int = false ∧ TN.isa .lst .str = false ∧ TN.isa .lst .tup = false ∧ TN.isa .lst .lst = true ∧ TN.isa .lst .dic = false) ∧
    TN.isa .dic .non = false ∧ TN.isa .dic .bl = false ∧ TN.isa .dic .int = false ∧ TN.isa .dic .str = false ∧ TN.isa .dic .tup = false ∧ TN.isa .dic .lst = false ∧ TN.isa .dic .dic = true := by decide
theorem ty_non : tyOf .non st = some .non := rfl
theorem ty_bl : tyOf (.bl a) st = some .bl := rfl
theorem ty_int : tyOf (.int i) st = some .int := rfl
theorem ty_str {x : Str} : tyOf (.str x) st = some .str := rfl
theorem ty_tup {xs : List D} : tyOf (.tup xs) st = some .tup := rfl
theorem ty_lst {xs : List D} : tyOf (.lst xs) st = some .lst := rfl
theorem ty_scr {xs : List D} : tyOf (.scr xs) st = some .lst := rfl
theorem ty_dic {xs : List D} {ks : List L2.Key} : tyOf (.dic ks xs) st = some .dic := rfl
theorem tr_non : tru .non st = some false := rfl
theorem tr_bl : tru (.bl a) st = some a := rfl
theorem tr_int : tru (.int i) st = some (i != 0) := rfl
theorem tr_tup {xs : List D} : tru (.tup xs) st = some (!xs.isEmpty) := rfl
theorem tr_lst {xs : List D} : tru (.lst xs) st = some (!xs.isEmpty) := rfl
theorem tr_scr {xs : List D} : tru (.scr xs) st = some (!xs.isEmpty) := rfl
theorem nm_set {k : Nat} {sl : Sl} : setT (.nm k) x sl = some (sl.set k (some x)) := rfl
theorem tp_set {is : List Nat} {sl : Sl} {xs : List D} : setT (.tp is) (.tup xs) sl = if is.length = xs.length then some (setAll is xs sl) else none := rfl
theorem ix_t {xs : List D} : fIxD (.tup xs) (.int i) st = L2.atI xs i := rfl
theorem ix_l {xs : List D} : fIxD (.lst xs) (.int i) st = L2.atI xs i := rfl
theorem ix_c {xs : List D} : fIxD (.scr xs) (.int i) st = L2.atI xs i := rfl
theorem ix_r {l : Nat} {xs : List D} (h : st.o[l]? = some (.lst xs)) : fIxD (.ref l) (.int i) st = L2.atI xs i := by
  have e : dview (.ref l) st = none := by
    show (match st.o[l]? with
      | some (.dic ks xs) => some (ks, xs)
      | _ => none) = none
    rw [h]
  unfold fIxD
  rw [e]
  show (match qview (.ref l) st with
    | some xs => L2.atI xs i
    | none => none) = _
  have : qview (.ref l) st = some xs := by
    show (match st.o[l]? with
      | some (.lst xs) => some xs
      | _ => none) = _
    rw [h]
  rw [this]
theorem at_ok {α : Type} {xs : List α} {n : Nat} (h : n < xs.length) : L2.atI xs (n : Int) = xs[n]? := by
  obtain ⟨v, e⟩ : ∃ v, xs[n]? = some v := ⟨xs[n], by simp [h]⟩
  rw [L2.atI_nat e, e]
theorem at_0 {α : Type} {x : α} {xs : List α} : L2.atI (x :: xs) 0 = some x := at_ok (n := 0) (by simp)
theorem at_1 {α : Type} {x y : α} {xs : List α} : L2.atI (x :: y :: xs) 1 = some y := at_ok (n := 1) (by simp)
theorem at_2 {α : Type} {x y z : α} {xs : List α} : L2.atI (x :: y :: z :: xs) 2 = some z := at_ok (n := 2) (by simp)
theorem at_3 {α : Type} {x y z u : α} {xs : List α} : L2.atI (x :: y :: z :: u :: xs) 3 = some u := at_ok (n := 3) (by simp)
theorem at_m {α : Type} {x : α} {xs : List α} : L2.atI (xs ++ [x]) (-1) = some x := L2.atI_last xs x
theorem at_m1 {α : Type} {x : α} : L2.atI [x] (-1) = some x := L2.atI_last [] x
theorem range1 : rngOf [.int j] st = if -(2 ^ 62) ≤ j ∧ j < 2 ^ 62 then some ((List.range j.toNat).map fun i => .int (0 + (i : Nat)), fun _ => true) else none := rfl
theorem items_t {xs : List D} : itemsOf (.tup xs) st = some (xs, fun _ => true) := rfl
theorem items_l {xs : List D} : itemsOf (.lst xs) st = some (xs, fun _ => true) := rfl
theorem items_s {x : Str} : itemsOf (.str x) st = some (x.cps.toList.map fun c => .str ⟨#[c]⟩, fun _ => true) := rfl
theorem enu_t {xs : List D} : enuOf [.tup xs] st = some (numb 0 xs, fun _ => true) := rfl
theorem enu_l {xs : List D} : enuOf [.lst xs] st = some (numb 0 xs, fun _ => true) := rfl
end
theorem bel_int {n : Nat} {i : Int} : (D.bel n (.int i) = true) = True := eq_true rfl
theorem bel_str {n : Nat} {x : Str} : (D.bel n (.str x) = true) = True := eq_true rfl
theorem bel_bl {n : Nat} {b : Bool} : (D.bel n (.bl b) = true) = True := eq_true rfl
theorem bel_non {n : Nat} : (D.bel n .non = true) = True := eq_true rfl
theorem out_bl {st : Sto} {b : Bool} : outF false st st.enter (.rt (.bl b)) = some (.ok (.bl b), st) := out_rt rfl
theorem out_int {st : Sto} {i : Int} : outF false st st.enter (.rt (.int i)) = some (.ok (.int i), st) := out_rt rfl
theorem out_str {st : Sto} {x : Str} : outF false st st.enter (.rt (.str x)) = some (.ok (.str x), st) := out_rt rfl
theorem out_non {st : Sto} : outF false st st.enter (.rt .non) = some (.ok .non, st) := out_rt rfl
theorem out_nx {nw : Bool} {st : Sto} : outF nw st st.enter .nx = some (.ok .non, st) := by
  show some (Rs.ok D.non, st.leave st.enter) = _
  rw [leave_enter]
/-! ### the store's own objects -/
section
variable {st : Sto} {l : Nat} {xs ys : List D} {x y : D}
theorem b_len_r (h : st.o[l]? = some (.lst xs)) : fLen [.ref l] st = some (.int (xs.length : Int)) := by
  have : qview (.ref l) st = some xs := by
    show (match st.o[l]? with
      | some (.lst xs) => some xs
      | _ => none) = _
    rw [h]
  show ((qview (.ref l) st).map List.length).map _ = _
  rw [this]
  rfl
theorem b_tup_r (h : st.o[l]? = some (.lst xs)) : fTuple [.ref l] st = some (.tup xs) := by
  have : qview (.ref l) st = some xs := by
    show (match st.o[l]? with
      | some (.lst xs) => some xs
      | _ => none) = _
    rw [h]
  show (qview (.ref l) st).map _ = _
  rw [this]
  rfl
theorem tr_ref (h : st.o[l]? = some (.lst xs)) : tru (.ref l) st = some (!xs.isEmpty) := by
  show (match st.o[l]? with
    | some (.lst xs) => some (!xs.isEmpty)
    | _ => none) = _
  rw [h]
theorem rk_ref (h : st.o[l]? = some (.lst xs)) : rk (.ref l) st = some .lst := by
  show (match st.o[l]? with
    | some (.lst _) => some RK.lst
    | _ => none) = _
  rw [h]
theorem mk_pop (h : st.o[l]? = some (.lst xs)) : Mn.pop.mk (.ref l) st = some .lst := by
  unfold Mn.mk
  rw [rk_ref h]
theorem mk_app (h : st.o[l]? = some (.lst xs)) : Mn.append.mk (.ref l) st = some .lst := by
  unfold Mn.mk
  rw [rk_ref h]
theorem mk_ends {z : Str} : Mn.endswith.mk (.str z) st = some .str := rfl
theorem mk_join {z : Str} : Mn.join.mk (.str z) st = some .str := rfl
theorem g_ends {z w : Str} {k : RK} : Mn.endswith.g k (.str z) [.str w] st = some (.bl (Txt.endswith z w), st) := rfl
theorem g_pop {k : RK} (h : st.o[l]? = some (.lst (xs ++ [x]))) : Mn.pop.g k (.ref l) [] st = some (x, st.put l (.lst xs)) := by
  show (match st.o[l]? with
    | some (.lst ys) => match ys[ys.length - 1]? with
      | some y => some (y, st.put l (.lst ys.dropLast))
      | none => none
    | _ => none) = _
  rw [h]
  simp
theorem g_pop1 {k : RK} (h : st.o[l]? = some (.lst [x])) : Mn.pop.g k (.ref l) [] st = some (x, st.put l (.lst [])) := g_pop (xs := []) h
theorem g_app {k : RK} (h : st.o[l]? = some (.lst xs)) (hl : xs.length < sizeLine) (ok : okPut st l y = true) : Mn.append.g k (.ref l) [y] st = some (.non, st.put l (.lst (xs ++ [y]))) := by
  show (match st.o[l]? with
    | some (.lst ys) => if ys.length < sizeLine ∧ okPut st l y = true then some (D.non, st.put l (.lst (ys ++ [y]))) else none
    | _ => none) = _
  rw [h]
  dsimp only
  rw [if_pos ⟨hl, ok⟩]
theorem out_rtA {b : List Nat} {t : List SO} (h : x.bel 0 = true) : outF false st ⟨b, st.o ++ t⟩ (.rt x) = some (.ok x, st) := by
  show (fz st.o.length _ x).map _ = _
  rw [fz_bel (D.bel_mono (Nat.zero_le _) _ h), Option.map_some]
  unfold Sto.leave
  simp
end
section
variable {α : Type} {O t : List α} {a b c x : α}
theorem gg1 : (O ++ a :: t)[O.length]? = some a := by simp
theorem gg2 : (O ++ a :: b :: t)[O.length + 1]? = some b := by rw [List.getElem?_append_right (by omega)]; simp
theorem gg3 : (O ++ a :: b :: c :: t)[O.length + 2]? = some c := by rw [List.getElem?_append_right (by omega)]; simp
theorem ss1 : (O ++ a :: t).set O.length x = O ++ x :: t := by rw [List.set_append_right _ _ (by omega)]; simp
theorem ss2 : (O ++ a :: b :: t).set (O.length + 1) x = O ++ a :: x :: t := by rw [List.set_append_right _ _ (by omega)]; simp
theorem ss3 : (O ++ a :: b :: c :: t).set (O.length + 2) x = O ++ a :: b :: x :: t := by rw [List.set_append_right _ _ (by omega)]; simp
end
theorem fEq_i {i j : Int} {st : Sto} : fEq (.int i) (.int j) st = some (.bl (decide (i = j))) := by
  show (if cmpOk (.int i) (.int j) = true then some (D.bl (PyData.eqv (.int i) (.int j))) else none) = _
  rw [if_pos (by rfl), show PyData.eqv (.int i) (.int j) = decide (i = j) from by simp only [PyData.eqv]; rw [Bool.eq_iff_iff, beq_iff_eq, decide_eq_true_eq]]
theorem fEq_b {i j : Bool} {st : Sto} : fEq (.bl i) (.bl j) st = some (.bl (decide (i = j))) := by
  show (if cmpOk (.bool i) (.bool j) = true then some (D.bl (PyData.eqv (.bool i) (.bool j))) else none) = _
  rw [if_pos (by rfl), show PyData.eqv (.bool i) (.bool j) = decide (i = j) from by simp only [PyData.eqv]; rw [Bool.eq_iff_iff, beq_iff_eq, decide_eq_true_eq]]
theorem fEq_s {x y : Str} {st : Sto} (hx : PyData.canLay0 (.str x) = true) (hy : PyData.canLay0 (.str y) = true) : fEq (.str x) (.str y) st = some (.bl (decide (x = y))) := by
  show (if cmpOk (.str x) (.str y) = true then some (D.bl (PyData.eqv (.str x) (.str y))) else none) = _
  rw [if_pos (by unfold cmpOk; rw [hx, hy]; rfl), show PyData.eqv (.str x) (.str y) = decide (x = y) from by simp only [PyData.eqv]; rw [Bool.eq_iff_iff, beq_iff_eq, decide_eq_true_eq]]
theorem fNe_of {x y : D} {b : Bool} {st : Sto} (h : fEq x y st = some (.bl b)) : fNe x y st = some (.bl (!b)) := by
  unfold fEq at h
  unfold fNe
  split at h
  · next h' => cases h; rw [if_pos h']
  · cases h
/-! ### the same, by what stands at the place -/
def rdI : Option SO → Int → Option D
  | some (.lst xs), i => L2.atI xs i
  | some (.dic ks xs), i => dget ks xs (.inl i)
  | _, _ => none
def rdS : Option SO → Str → Option D
  | some (.dic ks xs), x => dget ks xs (.inr x)
  | _, _ => none
def rdL : Option SO → Option (List D)
  | some (.lst xs) => some xs
  | _ => none
def popR (st : Sto) (l : Nat) : Option SO → Option (D × Sto)
  | some (.lst ys) => match ys[ys.length - 1]? with
    | some y => some (y, st.put l (.lst ys.dropLast))
    | none => none
  | _ => none
def appR (st : Sto) (l : Nat) (y : D) : Option SO → Option (D × Sto)
  | some (.lst ys) => if ys.length < sizeLine ∧ okPut st l y = true then some (.non, st.put l (.lst (ys ++ [y]))) else none
  | _ => none
def putR (st : Sto) (l : Nat) (i v : D) : Option SO → Option Sto
  | some (.dic ks xs) => match dkey i with
    | some k => if ks.length < sizeLine ∧ okPut st l v = true then some (st.put l (.dic (dput ks xs k v).1 (dput ks xs k v).2)) else none
    | none => none
  | some (.lst xs) => match i with
    | .int k => match L2.ixN xs.length k with
      | some j => if okPut st l v = true then some (st.put l (.lst (xs.set j v))) else none
      | none => none
    | _ => none
  | _ => none
section
variable {st : Sto} {l : Nat} {xs ys : List D} {x y v : D} {i : Int} {k : RK}
theorem rI_l : rdI (some (.lst xs)) i = L2.atI xs i := rfl
theorem rI_d {ks : List L2.Key} : rdI (some (.dic ks xs)) i = dget ks xs (.inl i) := rfl
theorem rS_d {ks : List L2.Key} {z : Str} : rdS (some (.dic ks xs)) z = dget ks xs (.inr z) := rfl
theorem rL_l : rdL (some (.lst xs)) = some xs := rfl
theorem r_pop : popR st l (some (.lst (xs ++ [x]))) = some (x, st.put l (.lst xs)) := by simp [popR]
theorem r_pop1 : popR st l (some (.lst [x])) = some (x, st.put l (.lst [])) := rfl
theorem r_app : appR st l y (some (.lst ys)) = if ys.length < sizeLine ∧ okPut st l y = true then some (.non, st.put l (.lst (ys ++ [y]))) else none := rfl
theorem rr_q : qview (.ref l) st = rdL st.o[l]? := by
  show (match st.o[l]? with
      | some (.lst xs) => some xs
      | _ => none) = _
  cases st.o[l]? with
  | none => rfl
  | some o => cases o <;> rfl
theorem rr_ix : fIxD (.ref l) (.int i) st = rdI st.o[l]? i := by
  have e : fIx (.ref l) (.int i) st = match rdL st.o[l]? with
      | some xs => L2.atI xs i
      | none => none := by
    show (match qview (.ref l) st with
      | some xs => L2.atI xs i
      | none => none) = _
    rw [rr_q]
  unfold fIxD dview
  dsimp only
  rw [e]
  cases st.o[l]? with
  | none => rfl
  | some o => cases o <;> rfl
theorem rr_ixs {z : Str} : fIxD (.ref l) (.str z) st = rdS st.o[l]? z := by
  unfold fIxD dview
  dsimp only
  cases h : st.o[l]? with
  | none => rfl
  | some o => cases o <;> rfl
theorem rr_len : fLen [.ref l] st = (rdL st.o[l]?).map fun xs => .int (xs.length : Int) := by
  show ((qview (.ref l) st).map List.length).map _ = _
  rw [rr_q, Option.map_map]
  rfl
theorem rr_tup : fTuple [.ref l] st = (rdL st.o[l]?).map .tup := by
  show (qview (.ref l) st).map _ = _
  rw [rr_q]
theorem rr_tru : tru (.ref l) st = (rdL st.o[l]?).map fun xs => !xs.isEmpty := by
  show (match st.o[l]? with
    | some (.lst xs) => some (!xs.isEmpty)
    | _ => none) = _
  cases st.o[l]? with
  | none => rfl
  | some o => cases o <;> rfl
theorem rr_mkp : Mn.pop.mk (.ref l) st = (rdL st.o[l]?).map fun _ => .lst := by
  unfold Mn.mk rk
  dsimp only
  cases st.o[l]? with
  | none => rfl
  | some o => cases o <;> rfl
theorem rr_mka : Mn.append.mk (.ref l) st = (rdL st.o[l]?).map fun _ => .lst := by
  unfold Mn.mk rk
  dsimp only
  cases st.o[l]? with
  | none => rfl
  | some o => cases o <;> rfl
theorem rr_pop : Mn.pop.g k (.ref l) [] st = popR st l st.o[l]? := by
  show gPop (.ref l) [] st = _
  unfold gPop popR
  dsimp only
  all_goals (cases st.o[l]? with
    | none => rfl
    | some o => cases o <;> rfl)
theorem rr_app : Mn.append.g k (.ref l) [y] st = appR st l y st.o[l]? := by
  show gAppend (.ref l) [y] st = _
  unfold gAppend appR
  dsimp only
  all_goals (cases st.o[l]? with
    | none => rfl
    | some o => cases o <;> rfl)
theorem rr_put : putD (.ref l) x v st = putR st l x v st.o[l]? := by
  cases h : st.o[l]? with
  | none =>
    show (match st.o[l]? with
      | some (.dic ks xs) => _
      | _ => putIx (.ref l) x v st) = none
    rw [h]
    cases x <;> (unfold putIx; dsimp only; try rw [h])
  | some o =>
    show (match st.o[l]? with
      | some (.dic ks xs) => match dkey x with
        | some k => if ks.length < sizeLine ∧ okPut st l v = true then some (st.put l (.dic (dput ks xs k v).1 (dput ks xs k v).2)) else none
        | none => none
      | _ => putIx (.ref l) x v st) = _
    rw [h]
    cases o with
    | dic ks xs => rfl
    | lst xs => cases x <;> (unfold putIx putR; dsimp only; try rw [h]) <;> rfl
    | ins c fs => cases x <;> (unfold putIx putR; dsimp only; try rw [h])
theorem ok_put {b : Nat} {bs : List Nat} {o : List SO} : okPut ⟨b :: bs, o⟩ l y = (decide (b ≤ l) || y.bel 0) := rfl
end
/-! ### loops -/
section
variable {t : Tg} {g : Sto → Bool} {body : Ds} {Q : Fl → Sl → Sto → Prop}
/-- for: an invariant over what is still to come -/
theorem for_inv (I : List D → Sl → Sto → Prop) (hg : ∀ xs sl st, I xs sl st → g st = true) (hs : ∀ x r sl st, I (x :: r) sl st → ∃ sl1, setT t x sl = some sl1 ∧ wS body sl1 st fun f sl2 st2 => match f with
    | .nx => I r sl2 st2
    | .ct => I r sl2 st2
    | .bk => Q .nx sl2 st2
    | f => Q f sl2 st2) (he : ∀ sl st, I [] sl st → Q .nx sl st) : ∀ {xs : List D} {sl : Sl} {st : Sto}, I xs sl st → wS (forL t g body xs) sl st Q
  | [], sl, st, h => ⟨.nx, sl, st, by unfold forL; rw [hg _ _ _ h], he sl st h⟩
  | x :: r, sl, st, h => by
    obtain ⟨sl1, e1, f, sl2, st2, e2, q⟩ := hs x r sl st h
    have step : forL t g body (x :: r) sl st = match body sl1 st with
        | some (.nx, sl2, st2) => forL t g body r sl2 st2
        | some (.ct, sl2, st2) => forL t g body r sl2 st2
        | some (.bk, sl2, st2) => some (.nx, sl2, st2)
        | r => r := by
      show (match g st with
        | false => none
        | true => match setT t x sl with
          | none => none
          | some sl1 => match body sl1 st with
            | some (.nx, sl2, st2) => forL t g body r sl2 st2
            | some (.ct, sl2, st2) => forL t g body r sl2 st2
            | some (.bk, sl2, st2) => some (.nx, sl2, st2)
            | r => r) = _
      rw [hg _ _ _ h, e1]
    rw [e2] at step
    cases f with
    | nx =>
      obtain ⟨f, sl', st', e, q⟩ := for_inv I hg hs he q
      exact ⟨f, sl', st', step.trans e, q⟩
    | ct =>
      obtain ⟨f, sl', st', e, q⟩ := for_inv I hg hs he q
      exact ⟨f, sl', st', step.trans e, q⟩
    | bk => exact ⟨_, _, _, step, q⟩
    | rt v => exact ⟨_, _, _, step, q⟩
    | ex c x => exact ⟨_, _, _, step, q⟩
/-- while: a measure and an invariant -/
theorem while_inv {c : De Bool} (I : Nat → Sl → Sto → Prop) (hs : ∀ m sl st, I m sl st → wE c sl st fun r st1 => match r with
    | .ok true => wS body sl st1 fun f sl2 st2 => match f with
      | .nx => ∃ k, k < m ∧ I k sl2 st2
      | .ct => ∃ k, k < m ∧ I k sl2 st2
      | .bk => Q .nx sl2 st2
      | f => Q f sl2 st2
    | .ok false => Q .nx sl st1
    | .ex k x => Q (.ex k x) sl st1) : ∀ {n m : Nat} {sl : Sl} {st : Sto}, m < n → I m sl st → wS (whileL c body n) sl st Q
  | 0, m, _, _, h, _ => by omega
  | n + 1, m, sl, st, hn, h => by
    obtain ⟨r, st1, e, q⟩ := hs m sl st h
    have step : whileL c body (n + 1) sl st = match c sl st with
      | some (.ok true, st1) => match body sl st1 with
        | some (.nx, sl2, st2) => whileL c body n sl2 st2
        | some (.ct, sl2, st2) => whileL c body n sl2 st2
        | some (.bk, sl2, st2) => some (.nx, sl2, st2)
        | r => r
      | some (.ok false, st1) => some (.nx, sl, st1)
      | some (.ex c x, st1) => some (.ex c x, sl, st1)
      | none => none := rfl
    rw [e] at step
    cases r with
    | ex k x => exact ⟨_, _, _, step, q⟩
    | ok b =>
      cases b with
      | false => exact ⟨_, _, _, step, q⟩
      | true =>
        obtain ⟨f, sl2, st2, e2, q⟩ := q
        dsimp only at step
        rw [e2] at step
        cases f with
        | nx =>
          obtain ⟨k, hk, q⟩ := q
          obtain ⟨f, sl', st', e, q⟩ := while_inv I hs (n := n) (m := k) (by omega) q
          exact ⟨f, sl', st', step.trans e, q⟩
        | ct =>
          obtain ⟨k, hk, q⟩ := q
          obtain ⟨f, sl', st', e, q⟩ := while_inv I hs (n := n) (m := k) (by omega) q
          exact ⟨f, sl', st', step.trans e, q⟩
        | bk => exact ⟨_, _, _, step, q⟩
        | rt v => exact ⟨_, _, _, step, q⟩
        | ex c x => exact ⟨_, _, _, step, q⟩
/-- a comprehension whose turns leave the store as it is -/
theorem comp_map {dt : De Bool} {de : De D} {sl : Sl} {st : Sto} (hg : g st = true) (f : D → D) : ∀ {xs : List D}, (∀ x ∈ xs, ∃ sl1, setT t x sl = some sl1 ∧ dt sl1 st = some (.ok true, st) ∧ de sl1 st = some (.ok (f x), st)) → compL t g dt de sl xs st = some (xs.map f, st)
  | [], _ => by unfold compL; rw [hg]; rfl
  | x :: r, h => by
    obtain ⟨sl1, e1, e2, e3⟩ := h x List.mem_cons_self
    have ih := comp_map hg f (dt := dt) (de := de) (xs := r) fun y hy => h y (List.mem_cons_of_mem _ hy)
    unfold compL
    rw [hg]
    dsimp only
    rw [e1]
    dsimp only
    rw [e2]
    dsimp only
    rw [e3]
    dsimp only
    rw [ih]
    rfl
/-- a comprehension without tests, by an invariant over the store: what is made, what is to come -/
theorem comp_inv {de : De D} {sl : Sl} (I : List D → List D → Sto → Prop) (hg : ∀ ys xs st, I ys xs st → g st = true) (hs : ∀ ys x r st, I ys (x :: r) st → ∃ sl1, setT t x sl = some sl1 ∧ wE de sl1 st fun z st1 => match z with
    | .ok y => I (ys ++ [y]) r st1
    | .ex _ _ => False) : ∀ {xs ys : List D} {st : Sto}, I ys xs st → ∃ zs st', compL t g (De.ret true) de sl xs st = some (zs, st') ∧ I (ys ++ zs) [] st'
  | [], ys, st, h => ⟨[], st, by unfold compL; rw [hg _ _ _ h], by simpa using h⟩
  | x :: r, ys, st, h => by
    obtain ⟨sl1, e1, z, st1, e2, q⟩ := hs ys x r st h
    cases z with
    | ex c x => exact q.elim
    | ok y =>
      obtain ⟨zs, st', e3, q⟩ := comp_inv I hg hs q
      refine ⟨y :: zs, st', ?_, by simpa using q⟩
      unfold compL
      rw [hg _ _ _ h]
      dsimp only
      rw [e1]
      show (match de sl1 st with
        | some (.ok y, st2) => match compL t g (De.ret true) de sl r st2 with
          | some (ys, st3) => some (y :: ys, st3)
          | none => none
        | _ => none) = _
      rw [e2]
      dsimp only
      rw [e3]
end
end Hb

set_option Elab.async false
set_option linter.all false
set_option maxRecDepth 100000
set_option maxHeartbeats 0
namespace K00
open Hb
/-! the program as data (printed by gen.py) -/
def b_is_int : Hb.S :=
    .seq (.ret (.andv (.cons (.isi (.v 0) .int) (.one (.not (.isi (.v 0) .bl))))))
    (.nil)
def f_is_int : Hb.Fn := ⟨1, 1, false, b_is_int⟩
def b_is_text : Hb.S :=
    .seq (.ite (.not (.val (.isi (.v 0) .str)))
   (.seq (.ret (.c (.bl false)))
    (.nil))
   (.nil))
    (.seq (.set (.nm 1) (.ite (.val (.meth .endswith (.v 0) (.cons (.c (.str ⟨#[47]⟩)) (.nil)))) (.sl (.v 0) (.non_) (.some_ (.neg (.c (.int 1))))) (.v 0)))
    (.seq (.ret (.andv (.cons (.cmp .gt (.blt .len (.cons (.v 1) (.nil))) (.c (.int 0))) (.one (.blt .all (.cons (.frz (.comp [2] (.nm 2) (.one (.v 1)) (.nil) (.cmp .inn (.v 2) (.g 0)))) (.nil)))))))
    (.nil)))
def f_is_text : Hb.Fn := ⟨1, 3, false, b_is_text⟩
def b_is_listlike : Hb.S :=
    .seq (.ret (.isi2 (.v 0) .tup .lst))
    (.nil)
def f_is_listlike : Hb.Fn := ⟨1, 1, false, b_is_listlike⟩
def b_is_hold : Hb.S :=
    .seq (.ite (.val (.isi (.v 0) .str))
   (.seq (.ret (.cmp .eq (.v 0) (.c (.str ⟨#[101, 110, 100, 108, 101, 115, 115]⟩))))
    (.nil))
   (.nil))
    (.seq (.ite (.val (.call 2 (.cons (.v 0) (.nil))))
   (.seq (.ret (.andv (.cons (.cmp .eq (.blt .len (.cons (.v 0) (.nil))) (.c (.int 2))) (.cons (.isi (.ix (.v 0) (.c (.int 0))) .str) (.cons (.cmp .eq (.ix (.v 0) (.c (.int 0))) (.c (.str ⟨#[108, 105, 110, 101]⟩))) (.cons (.call 0 (.cons (.ix (.v 0) (.c (.int 1))) (.nil))) (.one (.cmp .ge (.ix (.v 0) (.c (.int 1))) (.c (.int 1))))))))))
    (.nil))
   (.nil))
    (.seq (.ret (.andv (.cons (.call 0 (.cons (.v 0) (.nil))) (.one (.cmp .ge (.v 0) (.c (.int 1)))))))
    (.nil)))
def f_is_hold : Hb.Fn := ⟨1, 1, false, b_is_hold⟩
def b_plain_form : Hb.S :=
    .seq (.ite (.not (.val (.call 2 (.cons (.v 0) (.nil)))))
   (.seq (.ret (.v 0))
    (.nil))
   (.nil))
    (.seq (.set (.nm 1) (.alc (.disp (.cons (.frz (.lis (.cons (.v 0) (.nil)))) (.nil)))))
    (.seq (.set (.nm 2) (.alc (.disp (.cons (.alc (.disp (.nil))) (.nil)))))
    (.seq (.while_ 100000 (.val (.c (.bl true)))
   (.seq (.ite (.cmp .eq (.blt .len (.cons (.ix (.v 2) (.neg (.c (.int 1)))) (.nil))) (.blt .len (.cons (.ix (.v 1) (.neg (.c (.int 1)))) (.nil))))
   (.seq (.set (.nm 3) (.blt .tuple (.cons (.meth .pop (.v 2) (.nil)) (.nil))))
    (.seq (.exp (.meth .pop (.v 1) (.nil)))
    (.seq (.ite (.not (.val (.v 2)))
   (.seq (.ret (.v 3))
    (.nil))
   (.nil))
    (.seq (.exp (.meth .append (.ix (.v 2) (.neg (.c (.int 1)))) (.cons (.v 3) (.nil))))
    (.nil)))))
   (.seq (.set (.nm 4) (.ix (.ix (.v 1) (.neg (.c (.int 1)))) (.blt .len (.cons (.ix (.v 2) (.neg (.c (.int 1)))) (.nil)))))
    (.seq (.ite (.val (.call 2 (.cons (.v 4) (.nil))))
   (.seq (.exp (.meth .append (.v 1) (.cons (.frz (.lis (.cons (.v 4) (.nil)))) (.nil))))
    (.seq (.exp (.meth .append (.v 2) (.cons (.alc (.disp (.nil))) (.nil))))
    (.nil)))
   (.seq (.exp (.meth .append (.ix (.v 2) (.neg (.c (.int 1)))) (.cons (.v 4) (.nil))))
    (.nil)))
    (.nil))))
    (.nil)))
    (.nil))))
def f_plain_form : Hb.Fn := ⟨1, 5, false, b_plain_form⟩
def b_check_text : Hb.S :=
    .seq (.ite (.not (.val (.call 1 (.cons (.v 0) (.nil)))))
   (.seq (.raise 1 (.call 4 (.cons (.v 0) (.nil))))
    (.nil))
   (.nil))
    (.seq (.ret (.v 0))
    (.nil))
def f_check_text : Hb.Fn := ⟨1, 1, false, b_check_text⟩
def b_check_hold : Hb.S :=
    .seq (.ite (.not (.val (.call 3 (.cons (.v 0) (.nil)))))
   (.seq (.raise 3 (.call 4 (.cons (.v 0) (.nil))))
    (.nil))
   (.nil))
    (.seq (.ret (.call 4 (.cons (.v 0) (.nil))))
    (.nil))
def f_check_hold : Hb.Fn := ⟨1, 1, false, b_check_hold⟩
def b_check_texts : Hb.S :=
    .seq (.ite (.not (.val (.call 2 (.cons (.v 0) (.nil)))))
   (.seq (.raise 4 (.neg (.c (.int 1))))
    (.nil))
   (.nil))
    (.seq (.for_ (.tp [1, 2]) (.enu (.cons (.v 0) (.nil)))
   (.seq (.ite (.not (.val (.call 1 (.cons (.v 2) (.nil)))))
   (.seq (.raise 4 (.v 1))
    (.nil))
   (.nil))
    (.nil)))
    (.seq (.ret (.frz (.comp [2] (.nm 2) (.one (.v 0)) (.nil) (.tup (.cons (.blt .len (.cons (.v 2) (.nil))) (.cons (.meth .endswith (.v 2) (.cons (.c (.str ⟨#[47]⟩)) (.nil))) (.nil)))))))
    (.nil)))
def f_check_texts : Hb.Fn := ⟨1, 3, false, b_check_texts⟩
def b_text_size : Hb.S :=
    .seq (.exp (.call 5 (.cons (.v 0) (.nil))))
    (.seq (.ret (.blt .len (.cons (.v 0) (.nil))))
    (.nil))
def f_text_size : Hb.Fn := ⟨1, 1, false, b_text_size⟩
def b_ends_line : Hb.S :=
    .seq (.exp (.call 5 (.cons (.v 0) (.nil))))
    (.seq (.ret (.meth .endswith (.v 0) (.cons (.c (.str ⟨#[47]⟩)) (.nil))))
    (.nil))
def f_ends_line : Hb.Fn := ⟨1, 1, false, b_ends_line⟩
def b_hold_bound : Hb.S :=
    .seq (.ite (.val (.isi (.v 0) .str))
   (.seq (.ret (.c (.int 0)))
    (.nil))
   (.nil))
    (.seq (.ite (.val (.isi (.v 0) .tup))
   (.seq (.ret (.ix (.v 0) (.c (.int 1))))
    (.nil))
   (.nil))
    (.seq (.ret (.v 0))
    (.nil)))
def f_hold_bound : Hb.Fn := ⟨1, 1, false, b_hold_bound⟩
def b_is_line_hold : Hb.S :=
    .seq (.ret (.isi (.v 0) .tup))
    (.nil)
def f_is_line_hold : Hb.Fn := ⟨1, 1, false, b_is_line_hold⟩
def b_say_size : Hb.S :=
    .seq (.set (.nm 4) (.bin .add (.v 1) (.v 2)))
    (.seq (.ite (.val (.isi (.v 0) .str))
   (.seq (.ret (.tup (.cons (.v 4) (.cons (.c (.bl false)) (.nil)))))
    (.nil))
   (.nil))
    (.seq (.ite (.orv (.cons (.cmp .ge (.v 4) (.call 10 (.cons (.v 0) (.nil)))) (.one (.andv (.cons (.val (.v 3)) (.one (.val (.call 11 (.cons (.v 0) (.nil))))))))))
   (.seq (.ret (.tup (.cons (.c (.int 0)) (.cons (.c (.bl true)) (.nil)))))
    (.nil))
   (.nil))
    (.seq (.ret (.tup (.cons (.v 4) (.cons (.c (.bl false)) (.nil)))))
    (.nil))))
def f_say_size : Hb.Fn := ⟨4, 5, false, b_say_size⟩
def b_say_sizes : Hb.S :=
    .seq (.set (.nm 3) (.v 1))
    (.seq (.set (.nm 4) (.c (.int 0)))
    (.seq (.for_ (.tp [5, 6]) (.one (.v 2))
   (.seq (.set (.tp [3, 7]) (.call 12 (.cons (.v 0) (.cons (.v 3) (.cons (.v 5) (.cons (.v 6) (.nil)))))))
    (.seq (.ite (.val (.v 7))
   (.seq (.set (.nm 4) (.bin .add (.v 4) (.c (.int 1))))
    (.nil))
   (.nil))
    (.nil))))
    (.seq (.ret (.tup (.cons (.v 3) (.cons (.v 4) (.nil)))))
    (.nil))))
def f_say_sizes : Hb.Fn := ⟨3, 8, false, b_say_sizes⟩
def b_check_held_size : Hb.S :=
    .seq (.ite (.orv (.cons (.not (.val (.call 0 (.cons (.v 1) (.nil))))) (.one (.cmp .lt (.v 1) (.c (.int 0))))))
   (.seq (.raise 2 (.call 4 (.cons (.v 1) (.nil))))
    (.nil))
   (.nil))
    (.seq (.ite (.andv (.cons (.not (.val (.isi (.v 0) .str))) (.one (.cmp .gt (.v 1) (.bin .sub (.call 10 (.cons (.v 0) (.nil))) (.c (.int 1)))))))
   (.seq (.raise 2 (.v 1))
    (.nil))
   (.nil))
    (.seq (.ret (.v 1))
    (.nil)))
def f_check_held_size : Hb.Fn := ⟨2, 2, false, b_check_held_size⟩
def b_said : Hb.S :=
    .seq (.set (.nm 3) (.call 6 (.cons (.v 0) (.nil))))
    (.seq (.exp (.call 14 (.cons (.v 3) (.cons (.v 1) (.nil)))))
    (.seq (.exp (.call 5 (.cons (.v 2) (.nil))))
    (.seq (.ret (.call 12 (.cons (.v 3) (.cons (.v 1) (.cons (.blt .len (.cons (.v 2) (.nil))) (.cons (.meth .endswith (.v 2) (.cons (.c (.str ⟨#[47]⟩)) (.nil))) (.nil)))))))
    (.nil))))
def f_said : Hb.Fn := ⟨3, 4, false, b_said⟩
def b_said_row : Hb.S :=
    .seq (.set (.nm 3) (.call 6 (.cons (.v 0) (.nil))))
    (.seq (.exp (.call 14 (.cons (.v 3) (.cons (.v 1) (.nil)))))
    (.seq (.set (.nm 4) (.call 7 (.cons (.v 2) (.nil))))
    (.seq (.ret (.call 13 (.cons (.v 3) (.cons (.v 1) (.cons (.v 4) (.nil))))))
    (.nil))))
def f_said_row : Hb.Fn := ⟨3, 5, false, b_said_row⟩
def b__law_deck : Hb.S :=
    .seq (.set (.nm 1) (.alc (.disp (.nil))))
    (.seq (.for_ (.nm 2) (.rng (.cons (.blt .min (.cons (.blt .len (.cons (.v 0) (.nil))) (.cons (.c (.int 12)) (.nil)))) (.nil)))
   (.seq (.set (.nm 3) (.bin .mod (.blt .int (.cons (.ix (.v 0) (.v 2)) (.nil))) (.bin .pow (.c (.int 36)) (.c (.int 10)))))
    (.seq (.for_ (.nm 4) (.rng (.cons (.c (.int 10)) (.nil)))
   (.seq (.exp (.meth .append (.v 1) (.cons (.bin .mod (.v 3) (.c (.int 36))) (.nil))))
    (.seq (.set (.nm 3) (.bin .fdv (.v 3) (.c (.int 36))))
    (.seq (.ite (.cmp .eq (.v 3) (.c (.int 0)))
   (.seq (.brk)
    (.nil))
   (.nil))
    (.nil)))))
    (.nil))))
    (.seq (.ret (.alc (.disp (.cons (.c (.int 0)) (.cons (.v 1) (.nil))))))
    (.nil)))
def f__law_deck : Hb.Fn := ⟨1, 5, true, b__law_deck⟩
def b__law_draw : Hb.S :=
    .seq (.set (.nm 2) (.ix (.v 0) (.c (.int 0))))
    (.seq (.put (.bin .add (.v 2) (.c (.int 1))) (.v 0) (.c (.int 0)))
    (.seq (.ite (.cmp .ge (.v 2) (.blt .len (.cons (.ix (.v 0) (.c (.int 1))) (.nil))))
   (.seq (.ret (.c (.int 0)))
    (.nil))
   (.nil))
    (.seq (.ret (.bin .fdv (.bin .mul (.ix (.ix (.v 0) (.c (.int 1))) (.v 2)) (.v 1)) (.c (.int 36))))
    (.nil))))
def f__law_draw : Hb.Fn := ⟨2, 3, false, b__law_draw⟩
def b__law_pushes : Hb.S :=
    .seq (.ite (.cmp .eq (.v 0) (.c (.str ⟨#[101, 110, 100, 108, 101, 115, 115]⟩)))
   (.seq (.ret (.c (.bl false)))
    (.nil))
   (.nil))
    (.seq (.ite (.val (.isi (.v 0) .int))
   (.seq (.ret (.cmp .ge (.v 1) (.v 0)))
    (.nil))
   (.nil))
    (.seq (.ret (.orv (.cons (.cmp .ge (.v 1) (.ix (.v 0) (.c (.int 1)))) (.one (.cmp .eq (.sl (.v 2) (.some_ (.neg (.c (.int 1)))) (.non_)) (.c (.str ⟨#[47]⟩)))))))
    (.nil)))
def f__law_pushes : Hb.Fn := ⟨3, 3, false, b__law_pushes⟩
def b__law_kind : Hb.S :=
    .seq (.ite (.val (.isi (.v 0) .bl))
   (.seq (.ret (.c (.str ⟨#[98, 111, 111, 108]⟩)))
    (.nil))
   (.nil))
    (.seq (.ite (.val (.isi (.v 0) .int))
   (.seq (.ret (.c (.str ⟨#[105, 110, 116]⟩)))
    (.nil))
   (.nil))
    (.seq (.ite (.val (.isi (.v 0) .str))
   (.seq (.ret (.c (.str ⟨#[115, 116, 114]⟩)))
    (.nil))
   (.nil))
    (.seq (.ite (.val (.isi (.v 0) .tup))
   (.seq (.ret (.c (.str ⟨#[116, 117, 112, 108, 101]⟩)))
    (.nil))
   (.nil))
    (.seq (.ite (.cmp .is (.v 0) (.c .non))
   (.seq (.ret (.c (.str ⟨#[110, 111, 110, 101]⟩)))
    (.nil))
   (.nil))
    (.seq (.ret (.c (.str ⟨#[111, 116, 104, 101, 114]⟩)))
    (.nil))))))
def f__law_kind : Hb.Fn := ⟨1, 1, false, b__law_kind⟩
def b__law_equal : Hb.S :=
    .seq (.set (.nm 3) (.call 20 (.cons (.v 1) (.nil))))
    (.seq (.ite (.orv (.cons (.cmp .ne (.call 20 (.cons (.v 0) (.nil))) (.v 3)) (.cons (.cmp .eq (.v 3) (.c (.str ⟨#[111, 116, 104, 101, 114]⟩))) (.one (.cmp .lt (.v 2) (.c (.int 0)))))))
   (.seq (.ret (.c (.bl false)))
    (.nil))
   (.nil))
    (.seq (.ite (.cmp .ne (.v 3) (.c (.str ⟨#[116, 117, 112, 108, 101]⟩)))
   (.seq (.ret (.cmp .eq (.v 0) (.v 1)))
    (.nil))
   (.nil))
    (.seq (.ite (.cmp .ne (.blt .len (.cons (.v 0) (.nil))) (.blt .len (.cons (.v 1) (.nil))))
   (.seq (.ret (.c (.bl false)))
    (.nil))
   (.nil))
    (.seq (.for_ (.nm 4) (.rng (.cons (.blt .len (.cons (.v 1) (.nil))) (.nil)))
   (.seq (.ite (.not (.val (.call 21 (.cons (.ix (.v 0) (.v 4)) (.cons (.ix (.v 1) (.v 4)) (.cons (.bin .sub (.v 2) (.c (.int 1))) (.nil)))))))
   (.seq (.ret (.c (.bl false)))
    (.nil))
   (.nil))
    (.nil)))
    (.seq (.ret (.c (.bl true)))
    (.nil))))))
def f__law_equal : Hb.Fn := ⟨3, 5, false, b__law_equal⟩
def b__law_word : Hb.S :=
    .seq (.set (.nm 1) (.c (.str ⟨#[97, 98, 99, 100, 101, 102, 103, 104, 105, 106, 107, 108, 109, 110, 111, 112, 113, 114, 115, 116, 117, 118, 119, 120, 121, 122]⟩)))
    (.seq (.set (.nm 2) (.ix (.tup (.cons (.c (.int 1)) (.cons (.c (.int 2)) (.cons (.c (.int 3)) (.cons (.c (.int 4)) (.cons (.c (.int 6)) (.cons (.c (.int 11)) (.cons (.c (.int 12)) (.nil))))))))) (.call 18 (.cons (.v 0) (.cons (.c (.int 7)) (.nil))))))
    (.seq (.set (.tp [3, 4]) (.tup (.cons (.call 18 (.cons (.v 0) (.cons (.c (.int 26)) (.nil)))) (.cons (.call 18 (.cons (.v 0) (.cons (.c (.int 26)) (.nil)))) (.nil)))))
    (.seq (.set (.nm 5) (.meth .join (.c (.str ⟨#[]⟩)) (.cons (.frz (.comp [6] (.nm 6) (.rng (.cons (.v 2) (.nil))) (.nil) (.ix (.v 1) (.bin .mod (.bin .add (.v 3) (.bin .mul (.v 6) (.v 4))) (.c (.int 26)))))) (.nil))))
    (.seq (.ite (.cmp .eq (.call 18 (.cons (.v 0) (.cons (.c (.int 3)) (.nil)))) (.c (.int 2)))
   (.seq (.set (.nm 5) (.bin .add (.sl (.v 5) (.non_) (.some_ (.c (.int 11)))) (.c (.str ⟨#[47]⟩))))
    (.nil))
   (.nil))
    (.seq (.ret (.v 5))
    (.nil))))))
def f__law_word : Hb.Fn := ⟨1, 7, false, b__law_word⟩
def b__law_own_hold : Hb.S :=
    .seq (.set (.nm 1) (.call 18 (.cons (.v 0) (.cons (.c (.int 6)) (.nil)))))
    (.seq (.set (.nm 2) (.ix (.tup (.cons (.c (.int 5)) (.cons (.c (.int 1)) (.cons (.c (.int 2)) (.cons (.c (.int 3)) (.cons (.c (.int 4)) (.cons (.c (.int 6)) (.cons (.c (.int 7)) (.cons (.c (.int 9)) (.cons (.c (.int 12)) (.cons (.c (.int 13)) (.cons (.c (.int 60)) (.cons (.c (.int 3617)) (.cons (.c (.int 9999)) (.cons (.c (.int 10000)) (.nil)))))))))))))))) (.call 18 (.cons (.v 0) (.cons (.c (.int 14)) (.nil))))))
    (.seq (.ite (.cmp .eq (.v 1) (.c (.int 1)))
   (.seq (.ret (.tup (.cons (.c (.str ⟨#[108, 105, 110, 101]⟩)) (.cons (.v 2) (.nil)))))
    (.nil))
   (.nil))
    (.seq (.ite (.cmp .eq (.v 1) (.c (.int 2)))
   (.seq (.ret (.c (.str ⟨#[101, 110, 100, 108, 101, 115, 115]⟩)))
    (.nil))
   (.nil))
    (.seq (.ite (.cmp .eq (.v 1) (.c (.int 3)))
   (.seq (.ret (.frz (.disp (.cons (.c (.str ⟨#[108, 105, 110, 101]⟩)) (.cons (.v 2) (.nil))))))
    (.nil))
   (.nil))
    (.seq (.ret (.v 2))
    (.nil))))))
def f__law_own_hold : Hb.Fn := ⟨1, 3, false, b__law_own_hold⟩
def b__law_bound : Hb.S :=
    .seq (.ite (.cmp .eq (.v 0) (.c (.str ⟨#[101, 110, 100, 108, 101, 115, 115]⟩)))
   (.seq (.ret (.c (.int 0)))
    (.nil))
   (.nil))
    (.seq (.ite (.val (.isi (.v 0) .int))
   (.seq (.ret (.v 0))
    (.nil))
   (.nil))
    (.seq (.ret (.ix (.v 0) (.c (.int 1))))
    (.nil)))
def f__law_bound : Hb.Fn := ⟨1, 1, false, b__law_bound⟩
def b__law_own_held : Hb.S :=
    .seq (.set (.nm 3) (.call 24 (.cons (.v 1) (.nil))))
    (.seq (.ite (.cmp .eq (.v 1) (.c (.str ⟨#[101, 110, 100, 108, 101, 115, 115]⟩)))
   (.seq (.set (.nm 3) (.c (.int 200)))
    (.nil))
   (.nil))
    (.seq (.set (.nm 4) (.call 18 (.cons (.v 0) (.cons (.c (.int 5)) (.nil)))))
    (.seq (.ite (.cmp .eq (.v 4) (.c (.int 1)))
   (.seq (.ret (.bin .sub (.v 3) (.c (.int 1))))
    (.nil))
   (.nil))
    (.seq (.ite (.cmp .eq (.v 4) (.c (.int 2)))
   (.seq (.ret (.blt .max (.cons (.c (.int 0)) (.cons (.bin .sub (.v 3) (.blt .len (.cons (.v 2) (.nil)))) (.nil)))))
    (.nil))
   (.nil))
    (.seq (.ite (.cmp .eq (.v 4) (.c (.int 3)))
   (.seq (.ret (.blt .max (.cons (.c (.int 0)) (.cons (.bin .sub (.bin .sub (.v 3) (.blt .len (.cons (.v 2) (.nil)))) (.c (.int 1))) (.nil)))))
    (.nil))
   (.nil))
    (.seq (.ite (.cmp .eq (.v 4) (.c (.int 4)))
   (.seq (.ret (.bin .mod (.call 18 (.cons (.v 0) (.cons (.c (.int 36)) (.nil)))) (.v 3)))
    (.nil))
   (.nil))
    (.seq (.ret (.c (.int 0)))
    (.nil))))))))
def f__law_own_held : Hb.Fn := ⟨3, 5, false, b__law_own_held⟩
def b__law_behind : Hb.S :=
    .seq (.set (.nm 3) (.bin .add (.v 1) (.blt .len (.cons (.v 2) (.nil)))))
    (.seq (.ite (.val (.call 19 (.cons (.v 0) (.cons (.v 3) (.cons (.v 2) (.nil))))))
   (.seq (.ret (.tup (.cons (.c (.int 0)) (.cons (.c (.bl true)) (.nil)))))
    (.nil))
   (.nil))
    (.seq (.ret (.tup (.cons (.v 3) (.cons (.c (.bl false)) (.nil)))))
    (.nil)))
def f__law_behind : Hb.Fn := ⟨3, 4, false, b__law_behind⟩
def b__law_said_told : Hb.S :=
    .seq (.set (.nm 3) (.c (.str ⟨#[110, 111, 110, 101]⟩)))
    (.seq (.try_ (.seq (.set (.nm 3) (.tup (.cons (.c (.str ⟨#[115, 97, 105, 100]⟩)) (.cons (.call 15 (.cons (.v 0) (.cons (.v 1) (.cons (.v 2) (.nil))))) (.nil)))))
    (.nil))
   [⟨3, some 4, 3, false, [.c (.str ⟨#[66, 97, 100, 72, 111, 108, 100]⟩), .f "at"]⟩, ⟨2, some 4, 3, false, [.c (.str ⟨#[66, 97, 100, 78, 117, 109, 98, 101, 114]⟩), .f "at"]⟩, ⟨1, some 4, 3, false, [.c (.str ⟨#[66, 97, 100, 84, 101, 120, 116]⟩), .f "at"]⟩, ⟨0, none, 3, true, [.c (.str ⟨#[111, 116, 104, 101, 114]⟩)]⟩])
    (.seq (.ret (.v 3))
    (.nil)))
def f__law_said_told : Hb.Fn := ⟨3, 5, false, b__law_said_told⟩
def b__law_row_told : Hb.S :=
    .seq (.set (.nm 3) (.c (.str ⟨#[110, 111, 110, 101]⟩)))
    (.seq (.try_ (.seq (.set (.nm 3) (.tup (.cons (.c (.str ⟨#[115, 97, 105, 100]⟩)) (.cons (.call 16 (.cons (.v 0) (.cons (.v 1) (.cons (.v 2) (.nil))))) (.nil)))))
    (.nil))
   [⟨3, some 4, 3, false, [.c (.str ⟨#[66, 97, 100, 72, 111, 108, 100]⟩), .f "at"]⟩, ⟨2, some 4, 3, false, [.c (.str ⟨#[66, 97, 100, 78, 117, 109, 98, 101, 114]⟩), .f "at"]⟩, ⟨4, some 4, 3, false, [.c (.str ⟨#[66, 97, 100, 82, 111, 119]⟩), .f "at"]⟩, ⟨0, none, 3, true, [.c (.str ⟨#[111, 116, 104, 101, 114]⟩)]⟩])
    (.seq (.ret (.v 3))
    (.nil)))
def f__law_row_told : Hb.Fn := ⟨3, 5, false, b__law_row_told⟩
def b__law_by_hand : Hb.S :=
    .seq (.set (.nm 0) (.tup (.cons (.tup (.cons (.c (.int 5)) (.cons (.c (.int 2)) (.cons (.c (.str ⟨#[97, 98]⟩)) (.cons (.tup (.cons (.c (.int 4)) (.cons (.c (.bl false)) (.nil)))) (.nil)))))) (.cons (.tup (.cons (.c (.int 5)) (.cons (.c (.int 3)) (.cons (.c (.str ⟨#[97, 98]⟩)) (.cons (.tup (.cons (.c (.int 0)) (.cons (.c (.bl true)) (.nil)))) (.nil)))))) (.cons (.tup (.cons (.c (.int 5)) (.cons (.c (.int 4)) (.cons (.c (.str ⟨#[97, 98, 99]⟩)) (.cons (.tup (.cons (.c (.int 0)) (.cons (.c (.bl true)) (.nil)))) (.nil)))))) (.cons (.tup (.cons (.c (.int 9)) (.cons (.c (.int 0)) (.cons (.c (.str ⟨#[97, 47]⟩)) (.cons (.tup (.cons (.c (.int 2)) (.cons (.c (.bl false)) (.nil)))) (.nil)))))) (.cons (.tup (.cons (.tup (.cons (.c (.str ⟨#[108, 105, 110, 101]⟩)) (.cons (.c (.int 9)) (.nil)))) (.cons (.c (.int 0)) (.cons (.c (.str ⟨#[97, 47]⟩)) (.cons (.tup (.cons (.c (.int 0)) (.cons (.c (.bl true)) (.nil)))) (.nil)))))) (.cons (.tup (.cons (.tup (.cons (.c (.str ⟨#[108, 105, 110, 101]⟩)) (.cons (.c (.int 9)) (.nil)))) (.cons (.c (.int 0)) (.cons (.c (.str ⟨#[97, 98]⟩)) (.cons (.tup (.cons (.c (.int 2)) (.cons (.c (.bl false)) (.nil)))) (.nil)))))) (.cons (.tup (.cons (.tup (.cons (.c (.str ⟨#[108, 105, 110, 101]⟩)) (.cons (.c (.int 3)) (.nil)))) (.cons (.c (.int 1)) (.cons (.c (.str ⟨#[97, 98]⟩)) (.cons (.tup (.cons (.c (.int 0)) (.cons (.c (.bl true)) (.nil)))) (.nil)))))) (.cons (.tup (.cons (.c (.str ⟨#[101, 110, 100, 108, 101, 115, 115]⟩)) (.cons (.c (.int 7)) (.cons (.c (.str ⟨#[97, 47]⟩)) (.cons (.tup (.cons (.c (.int 9)) (.cons (.c (.bl false)) (.nil)))) (.nil)))))) (.cons (.tup (.cons (.c (.int 1)) (.cons (.c (.int 0)) (.cons (.c (.str ⟨#[97]⟩)) (.cons (.tup (.cons (.c (.int 0)) (.cons (.c (.bl true)) (.nil)))) (.nil)))))) (.nil))))))))))))
    (.seq (.for_ (.tp [1, 2, 3, 4]) (.one (.v 0))
   (.seq (.ite (.not (.val (.call 21 (.cons (.call 15 (.cons (.v 1) (.cons (.v 2) (.cons (.v 3) (.nil))))) (.cons (.v 4) (.cons (.c (.int 3)) (.nil)))))))
   (.seq (.ret (.c (.bl false)))
    (.nil))
   (.nil))
    (.nil)))
    (.seq (.ret (.call 21 (.cons (.call 16 (.cons (.c (.int 5)) (.cons (.c (.int 4)) (.cons (.tup (.cons (.c (.str ⟨#[97, 47]⟩)) (.cons (.c (.str ⟨#[97, 98, 99]⟩)) (.cons (.c (.str ⟨#[97, 98, 99]⟩)) (.nil))))) (.nil))))) (.cons (.tup (.cons (.c (.int 0)) (.cons (.c (.int 2)) (.nil)))) (.cons (.c (.int 3)) (.nil))))))
    (.nil)))
def f__law_by_hand : Hb.Fn := ⟨0, 5, false, b__law_by_hand⟩
def b__law_refusals : Hb.S :=
    .seq (.set (.nm 3) (.ix (.tup (.cons (.c (.int 0)) (.cons (.c (.bl true)) (.cons (.c (.str ⟨#[108, 105, 110, 101]⟩)) (.cons (.tup (.cons (.c (.str ⟨#[108, 105, 110, 101]⟩)) (.cons (.c (.int 0)) (.nil)))) (.cons (.frz (.disp (.cons (.c (.str ⟨#[108, 105, 110, 101]⟩)) (.cons (.c (.bl true)) (.nil))))) (.cons (.tup (.cons (.c (.str ⟨#[108, 105, 110, 101]⟩)) (.cons (.c (.int 3)) (.cons (.c (.int 4)) (.nil))))) (.cons (.c .non) (.cons (.c (.str ⟨#[69, 110, 100, 108, 101, 115, 115]⟩)) (.cons (.neg (.c (.int 2))) (.nil))))))))))) (.call 18 (.cons (.v 0) (.cons (.c (.int 9)) (.nil))))))
    (.seq (.set (.nm 4) (.ix (.tup (.cons (.c (.str ⟨#[]⟩)) (.cons (.c (.str ⟨#[47]⟩)) (.cons (.c (.str ⟨#[97, 47, 47]⟩)) (.cons (.c (.str ⟨#[65]⟩)) (.cons (.c (.str ⟨#[97, 49]⟩)) (.cons (.c (.str ⟨#[97, 32, 98]⟩)) (.cons (.c (.int 7)) (.cons (.c .non) (.cons (.frz (.disp (.cons (.c (.str ⟨#[97]⟩)) (.nil)))) (.nil))))))))))) (.call 18 (.cons (.v 0) (.cons (.c (.int 9)) (.nil))))))
    (.seq (.set (.nm 5) (.call 24 (.cons (.v 1) (.nil))))
    (.seq (.ite (.cmp .eq (.v 5) (.c (.int 0)))
   (.seq (.set (.nm 5) (.neg (.c (.int 1))))
    (.nil))
   (.nil))
    (.seq (.set (.nm 6) (.ix (.tup (.cons (.v 5) (.cons (.neg (.c (.int 1))) (.cons (.c (.bl true)) (.cons (.c .non) (.cons (.c (.str ⟨#[48]⟩)) (.cons (.frz (.disp (.cons (.c (.int 0)) (.nil)))) (.nil)))))))) (.call 18 (.cons (.v 0) (.cons (.c (.int 6)) (.nil))))))
    (.seq (.set (.nm 7) (.dsp true [.inr ⟨#[110, 111, 110, 101]⟩, .inr ⟨#[115, 112, 111, 107, 101, 110]⟩, .inr ⟨#[109, 97, 110, 121]⟩] (.cons (.v 3) (.cons (.v 4) (.cons (.v 6) (.nil))))))
    (.seq (.for_ (.nm 8) (.one (.tup (.cons (.c (.str ⟨#[110, 111, 110, 101]⟩)) (.cons (.c (.str ⟨#[115, 112, 111, 107, 101, 110]⟩)) (.cons (.c (.str ⟨#[109, 97, 110, 121]⟩)) (.nil))))))
   (.seq (.ite (.val (.isi (.ix (.v 7) (.v 8)) .lst))
   (.seq (.put (.blt .tuple (.cons (.ix (.v 7) (.v 8)) (.nil))) (.v 7) (.v 8))
    (.nil))
   (.nil))
    (.nil)))
    (.seq (.ite (.not (.val (.call 21 (.cons (.call 27 (.cons (.v 3) (.cons (.v 6) (.cons (.v 4) (.nil))))) (.cons (.tup (.cons (.c (.str ⟨#[66, 97, 100, 72, 111, 108, 100]⟩)) (.cons (.ix (.v 7) (.c (.str ⟨#[110, 111, 110, 101]⟩))) (.nil)))) (.cons (.c (.int 4)) (.nil)))))))
   (.seq (.ret (.c (.bl false)))
    (.nil))
   (.nil))
    (.seq (.ite (.not (.val (.call 21 (.cons (.call 27 (.cons (.v 3) (.cons (.c (.int 0)) (.cons (.c (.str ⟨#[97]⟩)) (.nil))))) (.cons (.tup (.cons (.c (.str ⟨#[66, 97, 100, 72, 111, 108, 100]⟩)) (.cons (.ix (.v 7) (.c (.str ⟨#[110, 111, 110, 101]⟩))) (.nil)))) (.cons (.c (.int 4)) (.nil)))))))
   (.seq (.ret (.c (.bl false)))
    (.nil))
   (.nil))
    (.seq (.ite (.not (.val (.call 21 (.cons (.call 27 (.cons (.v 1) (.cons (.v 6) (.cons (.v 4) (.nil))))) (.cons (.tup (.cons (.c (.str ⟨#[66, 97, 100, 78, 117, 109, 98, 101, 114]⟩)) (.cons (.ix (.v 7) (.c (.str ⟨#[109, 97, 110, 121]⟩))) (.nil)))) (.cons (.c (.int 4)) (.nil)))))))
   (.seq (.ret (.c (.bl false)))
    (.nil))
   (.nil))
    (.seq (.ite (.not (.val (.call 21 (.cons (.call 27 (.cons (.v 1) (.cons (.c (.int 0)) (.cons (.v 4) (.nil))))) (.cons (.tup (.cons (.c (.str ⟨#[66, 97, 100, 84, 101, 120, 116]⟩)) (.cons (.ix (.v 7) (.c (.str ⟨#[115, 112, 111, 107, 101, 110]⟩))) (.nil)))) (.cons (.c (.int 4)) (.nil)))))))
   (.seq (.ret (.c (.bl false)))
    (.nil))
   (.nil))
    (.seq (.set (.nm 9) (.bin .mod (.call 18 (.cons (.v 0) (.cons (.c (.int 36)) (.nil)))) (.bin .add (.blt .len (.cons (.v 2) (.nil))) (.c (.int 1)))))
    (.seq (.set (.nm 10) (.bin .add (.bin .add (.bin .add (.sl (.v 2) (.non_) (.some_ (.v 9))) (.frz (.disp (.cons (.v 4) (.nil))))) (.sl (.v 2) (.some_ (.v 9)) (.non_))) (.frz (.disp (.cons (.v 4) (.nil))))))
    (.seq (.ite (.not (.val (.call 21 (.cons (.call 28 (.cons (.v 1) (.cons (.c (.int 0)) (.cons (.v 10) (.nil))))) (.cons (.tup (.cons (.c (.str ⟨#[66, 97, 100, 82, 111, 119]⟩)) (.cons (.v 9) (.nil)))) (.cons (.c (.int 3)) (.nil)))))))
   (.seq (.ret (.c (.bl false)))
    (.nil))
   (.nil))
    (.seq (.set (.nm 11) (.ix (.tup (.cons (.c (.str ⟨#[97, 98]⟩)) (.cons (.c (.int 7)) (.cons (.c .non) (.nil))))) (.call 18 (.cons (.v 0) (.cons (.c (.int 3)) (.nil))))))
    (.seq (.ite (.not (.val (.call 21 (.cons (.call 28 (.cons (.v 1) (.cons (.c (.int 0)) (.cons (.v 11) (.nil))))) (.cons (.tup (.cons (.c (.str ⟨#[66, 97, 100, 82, 111, 119]⟩)) (.cons (.neg (.c (.int 1))) (.nil)))) (.cons (.c (.int 3)) (.nil)))))))
   (.seq (.ret (.c (.bl false)))
    (.nil))
   (.nil))
    (.seq (.ite (.not (.val (.call 21 (.cons (.call 28 (.cons (.v 1) (.cons (.v 6) (.cons (.v 11) (.nil))))) (.cons (.tup (.cons (.c (.str ⟨#[66, 97, 100, 78, 117, 109, 98, 101, 114]⟩)) (.cons (.ix (.v 7) (.c (.str ⟨#[109, 97, 110, 121]⟩))) (.nil)))) (.cons (.c (.int 4)) (.nil)))))))
   (.seq (.ret (.c (.bl false)))
    (.nil))
   (.nil))
    (.seq (.ret (.call 21 (.cons (.call 28 (.cons (.v 3) (.cons (.v 6) (.cons (.v 11) (.nil))))) (.cons (.tup (.cons (.c (.str ⟨#[66, 97, 100, 72, 111, 108, 100]⟩)) (.cons (.ix (.v 7) (.c (.str ⟨#[110, 111, 110, 101]⟩))) (.nil)))) (.cons (.c (.int 4)) (.nil))))))
    (.nil))))))))))))))))))
def f__law_refusals : Hb.Fn := ⟨3, 12, false, b__law_refusals⟩
def b_law : Hb.S :=
    .seq (.set (.nm 1) (.call 17 (.cons (.v 0) (.nil))))
    (.seq (.set (.nm 2) (.call 23 (.cons (.v 1) (.nil))))
    (.seq (.setc 3 false (.comp [4] (.nm 4) (.rng (.cons (.ix (.tup (.cons (.c (.int 3)) (.cons (.c (.int 0)) (.cons (.c (.int 1)) (.cons (.c (.int 2)) (.cons (.c (.int 5)) (.cons (.c (.int 9)) (.cons (.c (.int 20)) (.nil))))))))) (.call 18 (.cons (.v 1) (.cons (.c (.int 7)) (.nil))))) (.nil))) (.nil) (.call 22 (.cons (.v 1) (.nil)))))
    (.seq (.set (.nm 5) (.call 25 (.cons (.v 1) (.cons (.v 2) (.cons (.ix (.bin .add (.v 3) (.frz (.disp (.cons (.c (.str ⟨#[97]⟩)) (.nil))))) (.c (.int 0))) (.nil))))))
    (.seq (.set (.nm 6) (.ite (.val (.isi (.v 2) .lst)) (.blt .tuple (.cons (.v 2) (.nil))) (.v 2)))
    (.seq (.ite (.not (.val (.call 29 (.nil))))
   (.seq (.ret (.c (.bl false)))
    (.nil))
   (.nil))
    (.seq (.par [7, 8] (.cons (.v 5) (.cons (.c (.int 0)) (.nil))))
    (.seq (.for_ (.nm 9) (.one (.v 3))
   (.seq (.set (.nm 10) (.call 26 (.cons (.v 2) (.cons (.v 7) (.cons (.v 9) (.nil))))))
    (.seq (.ite (.not (.val (.call 21 (.cons (.call 15 (.cons (.v 2) (.cons (.v 7) (.cons (.v 9) (.nil))))) (.cons (.v 10) (.cons (.c (.int 3)) (.nil)))))))
   (.seq (.ret (.c (.bl false)))
    (.nil))
   (.nil))
    (.seq (.ite (.orv (.cons (.not (.val (.call 21 (.cons (.call 8 (.cons (.v 9) (.nil))) (.cons (.blt .len (.cons (.v 9) (.nil))) (.cons (.c (.int 1)) (.nil))))))) (.one (.not (.val (.call 21 (.cons (.call 9 (.cons (.v 9) (.nil))) (.cons (.cmp .eq (.sl (.v 9) (.some_ (.neg (.c (.int 1)))) (.non_)) (.c (.str ⟨#[47]⟩))) (.cons (.c (.int 1)) (.nil))))))))))
   (.seq (.ret (.c (.bl false)))
    (.nil))
   (.nil))
    (.seq (.par [7, 8] (.cons (.ix (.v 10) (.c (.int 0))) (.cons (.bin .add (.v 8) (.blt .int (.cons (.ix (.v 10) (.c (.int 1))) (.nil)))) (.nil))))
    (.nil))))))
    (.seq (.set (.nm 11) (.frz (.lis (.cons (.v 3) (.nil)))))
    (.seq (.ite (.orv (.cons (.not (.val (.call 21 (.cons (.call 16 (.cons (.v 2) (.cons (.v 5) (.cons (.v 11) (.nil))))) (.cons (.tup (.cons (.v 7) (.cons (.v 8) (.nil)))) (.cons (.c (.int 3)) (.nil))))))) (.one (.cmp .ne (.v 11) (.v 3)))))
   (.seq (.ret (.c (.bl false)))
    (.nil))
   (.nil))
    (.seq (.set (.nm 12) (.bin .mul (.v 3) (.c (.int 20))))
    (.seq (.par [7, 8] (.cons (.v 5) (.cons (.c (.int 0)) (.nil))))
    (.seq (.for_ (.nm 9) (.one (.v 12))
   (.seq (.set (.nm 10) (.call 26 (.cons (.v 2) (.cons (.v 7) (.cons (.v 9) (.nil))))))
    (.seq (.par [7, 8] (.cons (.ix (.v 10) (.c (.int 0))) (.cons (.bin .add (.v 8) (.blt .int (.cons (.ix (.v 10) (.c (.int 1))) (.nil)))) (.nil))))
    (.nil))))
    (.seq (.ite (.not (.val (.call 21 (.cons (.call 16 (.cons (.v 2) (.cons (.v 5) (.cons (.blt .tuple (.cons (.v 12) (.nil))) (.nil))))) (.cons (.tup (.cons (.v 7) (.cons (.v 8) (.nil)))) (.cons (.c (.int 3)) (.nil)))))))
   (.seq (.ret (.c (.bl false)))
    (.nil))
   (.nil))
    (.seq (.ite (.andv (.cons (.val (.isi (.v 2) .lst)) (.one (.cmp .ne (.blt .tuple (.cons (.v 2) (.nil))) (.v 6)))))
   (.seq (.ret (.c (.bl false)))
    (.nil))
   (.nil))
    (.seq (.ret (.call 30 (.cons (.v 1) (.cons (.v 2) (.cons (.v 3) (.nil))))))
    (.nil))))))))))))))))
def f_law : Hb.Fn := ⟨1, 13, false, b_law⟩
def md : Hb.Md where
  fns := [⟨"is_int", ["x"], ["x"], f_is_int⟩,
    ⟨"is_text", ["x"], ["x", "letters", "sign"], f_is_text⟩,
    ⟨"is_listlike", ["x"], ["x"], f_is_listlike⟩,
    ⟨"is_hold", ["x"], ["x"], f_is_hold⟩,
    ⟨"plain_form", ["x"], ["x", "whole", "done", "made", "part"], f_plain_form⟩,
    ⟨"check_text", ["x"], ["x"], f_check_text⟩,
    ⟨"check_hold", ["x"], ["x"], f_check_hold⟩,
    ⟨"check_texts", ["texts"], ["texts", "place", "text"], f_check_texts⟩,
    ⟨"text_size", ["text"], ["text"], f_text_size⟩,
    ⟨"ends_line", ["text"], ["text"], f_ends_line⟩,
    ⟨"hold_bound", ["hold"], ["hold"], f_hold_bound⟩,
    ⟨"is_line_hold", ["hold"], ["hold"], f_is_line_hold⟩,
    ⟨"say_size", ["hold", "size_held", "size", "ends"], ["hold", "size_held", "size", "ends", "grown"], f_say_size⟩,
    ⟨"say_sizes", ["hold", "size_held", "pairs"], ["hold", "size_held", "pairs", "grown", "many", "size", "ends", "pushed"], f_say_sizes⟩,
    ⟨"check_held_size", ["hold", "k"], ["hold", "k"], f_check_held_size⟩,
    ⟨"said", ["hold", "k", "text"], ["hold", "k", "text", "kept"], f_said⟩,
    ⟨"said_row", ["hold", "k", "texts"], ["hold", "k", "texts", "kept", "pairs"], f_said_row⟩,
    ⟨"_law_deck", ["script"], ["script", "figures", "at", "rest", "turn"], f__law_deck⟩,
    ⟨"_law_draw", ["deck", "many"], ["deck", "many", "at"], f__law_draw⟩,
    ⟨"_law_pushes", ["hold", "size", "text"], ["hold", "size", "text"], f__law_pushes⟩,
    ⟨"_law_kind", ["thing"], ["thing"], f__law_kind⟩,
    ⟨"_law_equal", ["got", "due", "depth"], ["got", "due", "depth", "kind", "at"], f__law_equal⟩,
    ⟨"_law_word", ["deck"], ["deck", "letters", "size", "first", "stride", "word", "at"], f__law_word⟩,
    ⟨"_law_own_hold", ["deck"], ["deck", "kind", "n"], f__law_own_hold⟩,
    ⟨"_law_bound", ["hold"], ["hold"], f__law_bound⟩,
    ⟨"_law_own_held", ["deck", "hold", "word"], ["deck", "hold", "word", "n", "pick"], f__law_own_held⟩,
    ⟨"_law_behind", ["hold", "k", "word"], ["hold", "k", "word", "size"], f__law_behind⟩,
    ⟨"_law_said_told", ["hold", "k", "word"], ["hold", "k", "word", "told", "error"], f__law_said_told⟩,
    ⟨"_law_row_told", ["hold", "k", "words"], ["hold", "k", "words", "told", "error"], f__law_row_told⟩,
    ⟨"_law_by_hand", [], ["cases", "hold", "k", "word", "due"], f__law_by_hand⟩,
    ⟨"_law_refusals", ["deck", "hold", "words"], ["deck", "hold", "words", "none", "spoken", "top", "many", "bad", "name", "at", "row", "lone"], f__law_refusals⟩,
    ⟨"law", ["script"], ["script", "deck", "hold", "words", "turn", "k", "before", "kept", "many", "word", "due", "handed", "long"], f_law⟩]
  nb := ["all", "bool", "enumerate", "int", "isinstance", "len", "list", "max", "min", "range", "str", "tuple"]
  gs := [("LETTERS", (.str ⟨#[97, 98, 99, 100, 101, 102, 103, 104, 105, 106, 107, 108, 109, 110, 111, 112, 113, 114, 115, 116, 117, 118, 119, 120, 121, 122]⟩))]
  ec := [⟨"HeldError", "at", [0], false⟩, ⟨"BadText", "at", [1, 0], true⟩, ⟨"BadNumber", "at", [2, 0], true⟩, ⟨"BadHold", "at", [3, 0], true⟩, ⟨"BadRow", "at", [4, 0], true⟩]
def fi : List Nat := [8, 9, 10, 11, 12, 13, 14, 15, 16, 17, 19, 20, 21, 22, 23, 24, 25, 27, 28, 29, 30, 31, 32, 33, 34, 35, 36, 37, 38, 39, 40, 41]
def ci : List Nat := [1, 2, 3, 4, 5]
def loose : List PySem.Str := (["__name__", "HeldError", "BadText", "BadNumber", "BadHold", "BadRow", "LETTERS", "is_int", "is_text", "is_listlike", "is_hold", "plain_form", "check_text", "check_hold", "check_texts", "text_size", "ends_line", "hold_bound", "is_line_hold", "say_size"] : List PySem.Str) ++ (["say_sizes", "check_held_size", "said", "said_row", "_law_deck", "_law_draw", "_law_pushes", "_law_kind", "_law_equal", "_law_word", "_law_own_hold", "_law_bound", "_law_own_held", "_law_behind", "_law_said_told", "_law_row_told", "_law_by_hand", "_law_refusals"] : List PySem.Str)
def lawIx : Nat := 41
abbrev lawNo : Nat := 31

def top (i : Nat) : PySem.Stmt := PySem.Challenge.pw_heldbacktext_k00_holds_said.main.body.getD i (.Pass ⟨0, 0, 0, 0⟩)
end K00

set_option Elab.async false
set_option linter.all false
set_option maxRecDepth 100000
set_option maxHeartbeats 0
namespace K00
open Hb
theorem cf : chDfs md.tb top md.fns fi = true := by decide +kernel
theorem cc : chEcs top md.ec ci = true := by decide +kernel
end K00

set_option Elab.async false
set_option linter.all false
set_option maxRecDepth 100000
set_option maxHeartbeats 0
namespace K00
open PySem Hb
theorem call_S (n k : Nat) (d : Df) (h : md.fns[k]? = some d) : md.call (n + 1) k = runFn d.F (evS md.tb md.cfl (md.call n) d.F.body) := by
  show (match md.fns[k]? with
    | some d => runFn d.F (evS md.tb md.cfl (md.call n) d.F.body)
    | none => fun _ _ => none) = _
  rw [h]
theorem run_to {n k : Nat} {d : Df} (h : md.fns[k]? = some d) {ds : List D} {st : Sto} {r : Rs D} {s' : Sto} (hl : ds.length = d.F.np)
    (w : wS (evS md.tb md.cfl (md.call n) d.F.body) (startS d.F.sl ds) st.enter fun f _ s1 => s1.bs = st.o.length :: st.bs ∧ outF d.F.nw st s1 f = some (r, s')) : md.call (n + 1) k ds st = some (r, s') := by
  rw [call_S n k d h]
  obtain ⟨f, sl', s1, e, hb, h⟩ := w
  exact wc_eq (wc_run hl ⟨f, sl', s1, e, hb, r, s', h, rfl, rfl⟩)
theorem c_is_int (n : Nat) (i : Int) (st : Sto) : md.call (n + 1) 0 [.int i] st = some (.ok (.bl true), st) := by
  refine run_to (d := ⟨_, _, _, f_is_int⟩) rfl rfl ?_
  simp only [f_is_int, b_is_int, onok_ok, onok_ex, onokS_ok, onokS_ex, onnx_nx, onnx_rt, onnx_bk, onnx_ct, onnx_ex, wc_ok, we_v, we_c, we_g, we_bin, we_cmp, we_ix, we_neg, we_not, we_ite, we_andv, we_orv, we_and1, we_or1, we_and, we_or, we_tup, we_frz, we_alc, we_blt, we_call, we_meth, we_sl, we_isi, we_isi2, we_dsp, we_newd, wt_val, wt_cmp, wt_not, wt_andv, wt_orv, wt_and1, wt_or1, wt_and, wt_or, wa_nil, wa_cons, wn_disp, wn_lis, wn_comp, wi_rng, wi_enu, wi_one, wo_non, wo_some, ws_nop, ws_nil, ws_brk, ws_cnt, ws_retn, ws_exp, ws_ret, ws_raise, ws_ite, ws_set, ws_set, ws_setcF, ws_setcT, ws_par, ws_put, ws_seq, ws_for, ws_while, ws_try, List.getElem?_cons_zero, List.getElem?_cons_succ, Option.some.injEq, exists_eq_left', exists_eq_left, true_implies, forall_const, Bool.true_eq_false, Bool.false_eq_true, false_implies, and_true, true_and, setT, List.set_cons_zero, List.set_cons_succ, List.length_cons, List.length_nil, setAll, Option.bind_some, asB, Bool.not_true, Bool.not_false, o_add_i, o_add_s, o_add_t, o_add_l, o_sub_i, o_mul_i, o_fdv_i, o_mod_i, o_pow_i, o_neg_i, o_lt_i, o_le_i, o_gt_i, o_ge_i, o_is_n, o_isn_n, o_eq_d, o_ne_d, o_in_d, o_nin_d, bx_len, bx_int, bx_min, bx_max, bx_sum, bx_all, bx_any, bx_tuple, b_min_i, b_max_i, b_int_i, b_int_b, b_len_t, b_len_l, b_len_c, b_len_s, b_tup_t, b_tup_l, b_lis_t, b_lis_l, isa_tab, ty_non, ty_bl, ty_int, ty_str, ty_tup, ty_lst, ty_scr, ty_dic, tr_non, tr_bl, tr_int, tr_tup, tr_lst, tr_scr, nm_set, tp_set, ix_t, ix_l, ix_c, at_0, at_1, at_2, at_3, at_m, at_m1, range1, items_t, items_l, items_s, enu_t, enu_l, bel_int, bel_str, bel_bl, bel_non, out_bl, out_int, out_str, out_non, out_nx, mk_ends, mk_join, g_ends, fEq_i, fEq_b, rI_l, rI_d, rS_d, rL_l, r_pop, r_pop1, r_app, rr_q, rr_ix, rr_ixs, rr_len, rr_tup, rr_tru, rr_mkp, rr_mka, rr_pop, rr_app, rr_put, ok_put, out_rt, out_ex, Prod.mk.injEq, exists_eq, exists_and_left, exists_eq', bne_self_eq_false, Int.reduceBNe, Bool.true_and, and_assoc, Rs.ok.injEq, D.tup.injEq, D.bl.injEq, D.int.injEq, List.cons.injEq, enter_bs, D.bel, D.bels, List.cons_append, List.nil_append, startS, List.map_cons, List.map_nil, List.replicate_succ, List.replicate_zero, Nat.reduceSub, Nat.reduceAdd, Bool.or_false, Bool.false_or, Bool.or_true, Bool.true_or, Bool.and_true, Bool.and_false, Bool.true_and, Bool.false_and, if_true, if_false, reduceCtorEq, Bool.not_eq_true, decide_eq_true_eq, decide_eq_false_iff_not, and_self, onok, onokS, onnx, ite_true, ite_false, reduceIte]
theorem c_is_int' (n : Nat) (d : D) (h : ∀ st, ∃ t, tyOf d st = some t ∧ t ≠ .int) (st : Sto) : md.call (n + 1) 0 [d] st = some (.ok (.bl false), st) := by
  refine run_to (d := ⟨_, _, _, f_is_int⟩) rfl rfl ?_
  obtain ⟨t, e, ht⟩ := h st.enter
  cases t <;> simp only [f_is_int, b_is_int, onok_ok, onok_ex, onokS_ok, onokS_ex, onnx_nx, onnx_rt, onnx_bk, onnx_ct, onnx_ex, wc_ok, we_v, we_c, we_g, we_bin, we_cmp, we_ix, we_neg, we_not, we_ite, we_andv, we_orv, we_and1, we_or1, we_and, we_or, we_tup, we_frz, we_alc, we_blt, we_call, we_meth, we_sl, we_isi, we_isi2, we_dsp, we_newd, wt_val, wt_cmp, wt_not, wt_andv, wt_orv, wt_and1, wt_or1, wt_and, wt_or, wa_nil, wa_cons, wn_disp, wn_lis, wn_comp, wi_rng, wi_enu, wi_one, wo_non, wo_some, ws_nop, ws_nil, ws_brk, ws_cnt, ws_retn, ws_exp, ws_ret, ws_raise, ws_ite, ws_set, ws_set, ws_setcF, ws_setcT, ws_par, ws_put, ws_seq, ws_for, ws_while, ws_try, List.getElem?_cons_zero, List.getElem?_cons_succ, Option.some.injEq, exists_eq_left', exists_eq_left, true_implies, forall_const, Bool.true_eq_false, Bool.false_eq_true, false_implies, and_true, true_and, setT, List.set_cons_zero, List.set_cons_succ, List.length_cons, List.length_nil, setAll, Option.bind_some, asB, Bool.not_true, Bool.not_false, o_add_i, o_add_s, o_add_t, o_add_l, o_sub_i, o_mul_i, o_fdv_i, o_mod_i, o_pow_i, o_neg_i, o_lt_i, o_le_i, o_gt_i, o_ge_i, o_is_n, o_isn_n, o_eq_d, o_ne_d, o_in_d, o_nin_d, bx_len, bx_int, bx_min, bx_max, bx_sum, bx_all, bx_any, bx_tuple, b_min_i, b_max_i, b_int_i, b_int_b, b_len_t, b_len_l, b_len_c, b_len_s, b_tup_t, b_tup_l, b_lis_t, b_lis_l, isa_tab, ty_non, ty_bl, ty_int, ty_str, ty_tup, ty_lst, ty_scr, ty_dic, tr_non, tr_bl, tr_int, tr_tup, tr_lst, tr_scr, nm_set, tp_set, ix_t, ix_l, ix_c, at_0, at_1, at_2, at_3, at_m, at_m1, range1, items_t, items_l, items_s, enu_t, enu_l, bel_int, bel_str, bel_bl, bel_non, out_bl, out_int, out_str, out_non, out_nx, mk_ends, mk_join, g_ends, fEq_i, fEq_b, rI_l, rI_d, rS_d, rL_l, r_pop, r_pop1, r_app, rr_q, rr_ix, rr_ixs, rr_len, rr_tup, rr_tru, rr_mkp, rr_mka, rr_pop, rr_app, rr_put, ok_put, out_rt, out_ex, Prod.mk.injEq, exists_eq, exists_and_left, exists_eq', bne_self_eq_false, Int.reduceBNe, Bool.true_and, and_assoc, Rs.ok.injEq, D.tup.injEq, D.bl.injEq, D.int.injEq, List.cons.injEq, enter_bs, D.bel, D.bels, List.cons_append, List.nil_append, startS, List.map_cons, List.map_nil, List.replicate_succ, List.replicate_zero, Nat.reduceSub, Nat.reduceAdd, Bool.or_false, Bool.false_or, Bool.or_true, Bool.true_or, Bool.and_true, Bool.and_false, Bool.true_and, Bool.false_and, if_true, if_false, reduceCtorEq, Bool.not_eq_true, decide_eq_true_eq, decide_eq_false_iff_not, and_self, onok, onokS, onnx, ite_true, ite_false, reduceIte, e] <;> first | exact absurd rfl ht | rfl
theorem c_bound_i (n : Nat) (i : Int) (st : Sto) : md.call (n + 1) 10 [.int i] st = some (.ok (.int i), st) := by
  refine run_to (d := ⟨_, _, _, f_hold_bound⟩) rfl rfl ?_
  simp only [f_hold_bound, b_hold_bound, onok_ok, onok_ex, onokS_ok, onokS_ex, onnx_nx, onnx_rt, onnx_bk, onnx_ct, onnx_ex, wc_ok, we_v, we_c, we_g, we_bin, we_cmp, we_ix, we_neg, we_not, we_ite, we_andv, we_orv, we_and1, we_or1, we_and, we_or, we_tup, we_frz, we_alc, we_blt, we_call, we_meth, we_sl, we_isi, we_isi2, we_dsp, we_newd, wt_val, wt_cmp, wt_not, wt_andv, wt_orv, wt_and1, wt_or1, wt_and, wt_or, wa_nil, wa_cons, wn_disp, wn_lis, wn_comp, wi_rng, wi_enu, wi_one, wo_non, wo_some, ws_nop, ws_nil, ws_brk, ws_cnt, ws_retn, ws_exp, ws_ret, ws_raise, ws_ite, ws_set, ws_set, ws_setcF, ws_setcT, ws_par, ws_put, ws_seq, ws_for, ws_while, ws_try, List.getElem?_cons_zero, List.getElem?_cons_succ, Option.some.injEq, exists_eq_left', exists_eq_left, true_implies, forall_const, Bool.true_eq_false, Bool.false_eq_true, false_implies, and_true, true_and, setT, List.set_cons_zero, List.set_cons_succ, List.length_cons, List.length_nil, setAll, Option.bind_some, asB, Bool.not_true, Bool.not_false, o_add_i, o_add_s, o_add_t, o_add_l, o_sub_i, o_mul_i, o_fdv_i, o_mod_i, o_pow_i, o_neg_i, o_lt_i, o_le_i, o_gt_i, o_ge_i, o_is_n, o_isn_n, o_eq_d, o_ne_d, o_in_d, o_nin_d, bx_len, bx_int, bx_min, bx_max, bx_sum, bx_all, bx_any, bx_tuple, b_min_i, b_max_i, b_int_i, b_int_b, b_len_t, b_len_l, b_len_c, b_len_s, b_tup_t, b_tup_l, b_lis_t, b_lis_l, isa_tab, ty_non, ty_bl, ty_int, ty_str, ty_tup, ty_lst, ty_scr, ty_dic, tr_non, tr_bl, tr_int, tr_tup, tr_lst, tr_scr, nm_set, tp_set, ix_t, ix_l, ix_c, at_0, at_1, at_2, at_3, at_m, at_m1, range1, items_t, items_l, items_s, enu_t, enu_l, bel_int, bel_str, bel_bl, bel_non, out_bl, out_int, out_str, out_non, out_nx, mk_ends, mk_join, g_ends, fEq_i, fEq_b, rI_l, rI_d, rS_d, rL_l, r_pop, r_pop1, r_app, rr_q, rr_ix, rr_ixs, rr_len, rr_tup, rr_tru, rr_mkp, rr_mka, rr_pop, rr_app, rr_put, ok_put, out_rt, out_ex, Prod.mk.injEq, exists_eq, exists_and_left, exists_eq', bne_self_eq_false, Int.reduceBNe, Bool.true_and, and_assoc, Rs.ok.injEq, D.tup.injEq, D.bl.injEq, D.int.injEq, List.cons.injEq, enter_bs, D.bel, D.bels, List.cons_append, List.nil_append, startS, List.map_cons, List.map_nil, List.replicate_succ, List.replicate_zero, Nat.reduceSub, Nat.reduceAdd, Bool.or_false, Bool.false_or, Bool.or_true, Bool.true_or, Bool.and_true, Bool.and_false, Bool.true_and, Bool.false_and, if_true, if_false, reduceCtorEq, Bool.not_eq_true, decide_eq_true_eq, decide_eq_false_iff_not, and_self, onok, onokS, onnx, ite_true, ite_false, reduceIte]
theorem c_bound_t (n : Nat) (i : Int) (st : Sto) : md.call (n + 1) 10 [.tup [.str "line", .int i]] st = some (.ok (.int i), st) := by
  refine run_to (d := ⟨_, _, _, f_hold_bound⟩) rfl rfl ?_
  simp only [f_hold_bound, b_hold_bound, onok_ok, onok_ex, onokS_ok, onokS_ex, onnx_nx, onnx_rt, onnx_bk, onnx_ct, onnx_ex, wc_ok, we_v, we_c, we_g, we_bin, we_cmp, we_ix, we_neg, we_not, we_ite, we_andv, we_orv, we_and1, we_or1, we_and, we_or, we_tup, we_frz, we_alc, we_blt, we_call, we_meth, we_sl, we_isi, we_isi2, we_dsp, we_newd, wt_val, wt_cmp, wt_not, wt_andv, wt_orv, wt_and1, wt_or1, wt_and, wt_or, wa_nil, wa_cons, wn_disp, wn_lis, wn_comp, wi_rng, wi_enu, wi_one, wo_non, wo_some, ws_nop, ws_nil, ws_brk, ws_cnt, ws_retn, ws_exp, ws_ret, ws_raise, ws_ite, ws_set, ws_set, ws_setcF, ws_setcT, ws_par, ws_put, ws_seq, ws_for, ws_while, ws_try, List.getElem?_cons_zero, List.getElem?_cons_succ, Option.some.injEq, exists_eq_left', exists_eq_left, true_implies, forall_const, Bool.true_eq_false, Bool.false_eq_true, false_implies, and_true, true_and, setT, List.set_cons_zero, List.set_cons_succ, List.length_cons, List.length_nil, setAll, Option.bind_some, asB, Bool.not_true, Bool.not_false, o_add_i, o_add_s, o_add_t, o_add_l, o_sub_i, o_mul_i, o_fdv_i, o_mod_i, o_pow_i, o_neg_i, o_lt_i, o_le_i, o_gt_i, o_ge_i, o_is_n, o_isn_n, o_eq_d, o_ne_d, o_in_d, o_nin_d, bx_len, bx_int, bx_min, bx_max, bx_sum, bx_all, bx_any, bx_tuple, b_min_i, b_max_i, b_int_i, b_int_b, b_len_t, b_len_l, b_len_c, b_len_s, b_tup_t, b_tup_l, b_lis_t, b_lis_l, isa_tab, ty_non, ty_bl, ty_int, ty_str, ty_tup, ty_lst, ty_scr, ty_dic, tr_non, tr_bl, tr_int, tr_tup, tr_lst, tr_scr, nm_set, tp_set, ix_t, ix_l, ix_c, at_0, at_1, at_2, at_3, at_m, at_m1, range1, items_t, items_l, items_s, enu_t, enu_l, bel_int, bel_str, bel_bl, bel_non, out_bl, out_int, out_str, out_non, out_nx, mk_ends, mk_join, g_ends, fEq_i, fEq_b, rI_l, rI_d, rS_d, rL_l, r_pop, r_pop1, r_app, rr_q, rr_ix, rr_ixs, rr_len, rr_tup, rr_tru, rr_mkp, rr_mka, rr_pop, rr_app, rr_put, ok_put, out_rt, out_ex, Prod.mk.injEq, exists_eq, exists_and_left, exists_eq', bne_self_eq_false, Int.reduceBNe, Bool.true_and, and_assoc, Rs.ok.injEq, D.tup.injEq, D.bl.injEq, D.int.injEq, List.cons.injEq, enter_bs, D.bel, D.bels, List.cons_append, List.nil_append, startS, List.map_cons, List.map_nil, List.replicate_succ, List.replicate_zero, Nat.reduceSub, Nat.reduceAdd, Bool.or_false, Bool.false_or, Bool.or_true, Bool.true_or, Bool.and_true, Bool.and_false, Bool.true_and, Bool.false_and, if_true, if_false, reduceCtorEq, Bool.not_eq_true, decide_eq_true_eq, decide_eq_false_iff_not, and_self, onok, onokS, onnx, ite_true, ite_false, reduceIte]
theorem c_isline_i (n : Nat) (i : Int) (st : Sto) : md.call (n + 1) 11 [.int i] st = some (.ok (.bl false), st) := by
  refine run_to (d := ⟨_, _, _, f_is_line_hold⟩) rfl rfl ?_
  simp only [f_is_line_hold, b_is_line_hold, onok_ok, onok_ex, onokS_ok, onokS_ex, onnx_nx, onnx_rt, onnx_bk, onnx_ct, onnx_ex, wc_ok, we_v, we_c, we_g, we_bin, we_cmp, we_ix, we_neg, we_not, we_ite, we_andv, we_orv, we_and1, we_or1, we_and, we_or, we_tup, we_frz, we_alc, we_blt, we_call, we_meth, we_sl, we_isi, we_isi2, we_dsp, we_newd, wt_val, wt_cmp, wt_not, wt_andv, wt_orv, wt_and1, wt_or1, wt_and, wt_or, wa_nil, wa_cons, wn_disp, wn_lis, wn_comp, wi_rng, wi_enu, wi_one, wo_non, wo_some, ws_nop, ws_nil, ws_brk, ws_cnt, ws_retn, ws_exp, ws_ret, ws_raise, ws_ite, ws_set, ws_set, ws_setcF, ws_setcT, ws_par, ws_put, ws_seq, ws_for, ws_while, ws_try, List.getElem?_cons_zero, List.getElem?_cons_succ, Option.some.injEq, exists_eq_left', exists_eq_left, true_implies, forall_const, Bool.true_eq_false, Bool.false_eq_true, false_implies, and_true, true_and, setT, List.set_cons_zero, List.set_cons_succ, List.length_cons, List.length_nil, setAll, Option.bind_some, asB, Bool.not_true, Bool.not_false, o_add_i, o_add_s, o_add_t, o_add_l, o_sub_i, o_mul_i, o_fdv_i, o_mod_i, o_pow_i, o_neg_i, o_lt_i, o_le_i, o_gt_i, o_ge_i, o_is_n, o_isn_n, o_eq_d, o_ne_d, o_in_d, o_nin_d, bx_len, bx_int, bx_min, bx_max, bx_sum, bx_all, bx_any, bx_tuple, b_min_i, b_max_i, b_int_i, b_int_b, b_len_t, b_len_l, b_len_c, b_len_s, b_tup_t, b_tup_l, b_lis_t, b_lis_l, isa_tab, ty_non, ty_bl, ty_int, ty_str, ty_tup, ty_lst, ty_scr, ty_dic, tr_non, tr_bl, tr_int, tr_tup, tr_lst, tr_scr, nm_set, tp_set, ix_t, ix_l, ix_c, at_0, at_1, at_2, at_3, at_m, at_m1, range1, items_t, items_l, items_s, enu_t, enu_l, bel_int, bel_str, bel_bl, bel_non, out_bl, out_int, out_str, out_non, out_nx, mk_ends, mk_join, g_ends, fEq_i, fEq_b, rI_l, rI_d, rS_d, rL_l, r_pop, r_pop1, r_app, rr_q, rr_ix, rr_ixs, rr_len, rr_tup, rr_tru, rr_mkp, rr_mka, rr_pop, rr_app, rr_put, ok_put, out_rt, out_ex, Prod.mk.injEq, exists_eq, exists_and_left, exists_eq', bne_self_eq_false, Int.reduceBNe, Bool.true_and, and_assoc, Rs.ok.injEq, D.tup.injEq, D.bl.injEq, D.int.injEq, List.cons.injEq, enter_bs, D.bel, D.bels, List.cons_append, List.nil_append, startS, List.map_cons, List.map_nil, List.replicate_succ, List.replicate_zero, Nat.reduceSub, Nat.reduceAdd, Bool.or_false, Bool.false_or, Bool.or_true, Bool.true_or, Bool.and_true, Bool.and_false, Bool.true_and, Bool.false_and, if_true, if_false, reduceCtorEq, Bool.not_eq_true, decide_eq_true_eq, decide_eq_false_iff_not, and_self, onok, onokS, onnx, ite_true, ite_false, reduceIte]
theorem c_isline_t (n : Nat) (xs : List D) (st : Sto) : md.call (n + 1) 11 [.tup xs] st = some (.ok (.bl true), st) := by
  refine run_to (d := ⟨_, _, _, f_is_line_hold⟩) rfl rfl ?_
  simp only [f_is_line_hold, b_is_line_hold, onok_ok, onok_ex, onokS_ok, onokS_ex, onnx_nx, onnx_rt, onnx_bk, onnx_ct, onnx_ex, wc_ok, we_v, we_c, we_g, we_bin, we_cmp, we_ix, we_neg, we_not, we_ite, we_andv, we_orv, we_and1, we_or1, we_and, we_or, we_tup, we_frz, we_alc, we_blt, we_call, we_meth, we_sl, we_isi, we_isi2, we_dsp, we_newd, wt_val, wt_cmp, wt_not, wt_andv, wt_orv, wt_and1, wt_or1, wt_and, wt_or, wa_nil, wa_cons, wn_disp, wn_lis, wn_comp, wi_rng, wi_enu, wi_one, wo_non, wo_some, ws_nop, ws_nil, ws_brk, ws_cnt, ws_retn, ws_exp, ws_ret, ws_raise, ws_ite, ws_set, ws_set, ws_setcF, ws_setcT, ws_par, ws_put, ws_seq, ws_for, ws_while, ws_try, List.getElem?_cons_zero, List.getElem?_cons_succ, Option.some.injEq, exists_eq_left', exists_eq_left, true_implies, forall_const, Bool.true_eq_false, Bool.false_eq_true, false_implies, and_true, true_and, setT, List.set_cons_zero, List.set_cons_succ, List.length_cons, List.length_nil, setAll, Option.bind_some, asB, Bool.not_true, Bool.not_false, o_add_i, o_add_s, o_add_t, o_add_l, o_sub_i, o_mul_i, o_fdv_i, o_mod_i, o_pow_i, o_neg_i, o_lt_i, o_le_i, o_gt_i, o_ge_i, o_is_n, o_isn_n, o_eq_d, o_ne_d, o_in_d, o_nin_d, bx_len, bx_int, bx_min, bx_max, bx_sum, bx_all, bx_any, bx_tuple, b_min_i, b_max_i, b_int_i, b_int_b, b_len_t, b_len_l, b_len_c, b_len_s, b_tup_t, b_tup_l, b_lis_t, b_lis_l, isa_tab, ty_non, ty_bl, ty_int, ty_str, ty_tup, ty_lst, ty_scr, ty_dic, tr_non, tr_bl, tr_int, tr_tup, tr_lst, tr_scr, nm_set, tp_set, ix_t, ix_l, ix_c, at_0, at_1, at_2, at_3, at_m, at_m1, range1, items_t, items_l, items_s, enu_t, enu_l, bel_int, bel_str, bel_bl, bel_non, out_bl, out_int, out_str, out_non, out_nx, mk_ends, mk_join, g_ends, fEq_i, fEq_b, rI_l, rI_d, rS_d, rL_l, r_pop, r_pop1, r_app, rr_q, rr_ix, rr_ixs, rr_len, rr_tup, rr_tru, rr_mkp, rr_mka, rr_pop, rr_app, rr_put, ok_put, out_rt, out_ex, Prod.mk.injEq, exists_eq, exists_and_left, exists_eq', bne_self_eq_false, Int.reduceBNe, Bool.true_and, and_assoc, Rs.ok.injEq, D.tup.injEq, D.bl.injEq, D.int.injEq, List.cons.injEq, enter_bs, D.bel, D.bels, List.cons_append, List.nil_append, startS, List.map_cons, List.map_nil, List.replicate_succ, List.replicate_zero, Nat.reduceSub, Nat.reduceAdd, Bool.or_false, Bool.false_or, Bool.or_true, Bool.true_or, Bool.and_true, Bool.and_false, Bool.true_and, Bool.false_and, if_true, if_false, reduceCtorEq, Bool.not_eq_true, decide_eq_true_eq, decide_eq_false_iff_not, and_self, onok, onokS, onnx, ite_true, ite_false, reduceIte]
theorem c_say_i (n : Nat) (h k z : Int) (e : Bool) (st : Sto) : md.call (n + 2) 12 [.int h, .int k, .int z, .bl e] st = some (.ok (.tup [.int (if h ≤ k + z then 0 else k + z), .bl (decide (h ≤ k + z))]), st) := by
  refine run_to (d := ⟨_, _, _, f_say_size⟩) rfl rfl ?_
  simp only [f_say_size, b_say_size, onok_ok, onok_ex, onokS_ok, onokS_ex, onnx_nx, onnx_rt, onnx_bk, onnx_ct, onnx_ex, wc_ok, we_v, we_c, we_g, we_bin, we_cmp, we_ix, we_neg, we_not, we_ite, we_andv, we_orv, we_and1, we_or1, we_and, we_or, we_tup, we_frz, we_alc, we_blt, we_call, we_meth, we_sl, we_isi, we_isi2, we_dsp, we_newd, wt_val, wt_cmp, wt_not, wt_andv, wt_orv, wt_and1, wt_or1, wt_and, wt_or, wa_nil, wa_cons, wn_disp, wn_lis, wn_comp, wi_rng, wi_enu, wi_one, wo_non, wo_some, ws_nop, ws_nil, ws_brk, ws_cnt, ws_retn, ws_exp, ws_ret, ws_raise, ws_ite, ws_set, ws_set, ws_setcF, ws_setcT, ws_par, ws_put, ws_seq, ws_for, ws_while, ws_try, List.getElem?_cons_zero, List.getElem?_cons_succ, Option.some.injEq, exists_eq_left', exists_eq_left, true_implies, forall_const, Bool.true_eq_false, Bool.false_eq_true, false_implies, and_true, true_and, setT, List.set_cons_zero, List.set_cons_succ, List.length_cons, List.length_nil, setAll, Option.bind_some, asB, Bool.not_true, Bool.not_false, o_add_i, o_add_s, o_add_t, o_add_l, o_sub_i, o_mul_i, o_fdv_i, o_mod_i, o_pow_i, o_neg_i, o_lt_i, o_le_i, o_gt_i, o_ge_i, o_is_n, o_isn_n, o_eq_d, o_ne_d, o_in_d, o_nin_d, bx_len, bx_int, bx_min, bx_max, bx_sum, bx_all, bx_any, bx_tuple, b_min_i, b_max_i, b_int_i, b_int_b, b_len_t, b_len_l, b_len_c, b_len_s, b_tup_t, b_tup_l, b_lis_t, b_lis_l, isa_tab, ty_non, ty_bl, ty_int, ty_str, ty_tup, ty_lst, ty_scr, ty_dic, tr_non, tr_bl, tr_int, tr_tup, tr_lst, tr_scr, nm_set, tp_set, ix_t, ix_l, ix_c, at_0, at_1, at_2, at_3, at_m, at_m1, range1, items_t, items_l, items_s, enu_t, enu_l, bel_int, bel_str, bel_bl, bel_non, out_bl, out_int, out_str, out_non, out_nx, mk_ends, mk_join, g_ends, fEq_i, fEq_b, rI_l, rI_d, rS_d, rL_l, r_pop, r_pop1, r_app, rr_q, rr_ix, rr_ixs, rr_len, rr_tup, rr_tru, rr_mkp, rr_mka, rr_pop, rr_app, rr_put, ok_put, out_rt, out_ex, Prod.mk.injEq, exists_eq, exists_and_left, exists_eq', bne_self_eq_false, Int.reduceBNe, Bool.true_and, and_assoc, Rs.ok.injEq, D.tup.injEq, D.bl.injEq, D.int.injEq, List.cons.injEq, enter_bs, D.bel, D.bels, List.cons_append, List.nil_append, startS, List.map_cons, List.map_nil, List.replicate_succ, List.replicate_zero, Nat.reduceSub, Nat.reduceAdd, Bool.or_false, Bool.false_or, Bool.or_true, Bool.true_or, Bool.and_true, Bool.and_false, Bool.true_and, Bool.false_and, if_true, if_false, reduceCtorEq, Bool.not_eq_true, decide_eq_true_eq, decide_eq_false_iff_not, and_self, onok, onokS, onnx, ite_true, ite_false, reduceIte, c_bound_i, c_isline_i]
  by_cases q : h ≤ k + z <;> cases e <;> simp [q]
theorem c_say_t (n : Nat) (h k z : Int) (e : Bool) (st : Sto) : md.call (n + 2) 12 [.tup [.str "line", .int h], .int k, .int z, .bl e] st = some (.ok (.tup [.int (if h ≤ k + z ∨ e = true then 0 else k + z), .bl (decide (h ≤ k + z) || e)]), st) := by
  refine run_to (d := ⟨_, _, _, f_say_size⟩) rfl rfl ?_
  simp only [f_say_size, b_say_size, onok_ok, onok_ex, onokS_ok, onokS_ex, onnx_nx, onnx_rt, onnx_bk, onnx_ct, onnx_ex, wc_ok, we_v, we_c, we_g, we_bin, we_cmp, we_ix, we_neg, we_not, we_ite, we_andv, we_orv, we_and1, we_or1, we_and, we_or, we_tup, we_frz, we_alc, we_blt, we_call, we_meth, we_sl, we_isi, we_isi2, we_dsp, we_newd, wt_val, wt_cmp, wt_not, wt_andv, wt_orv, wt_and1, wt_or1, wt_and, wt_or, wa_nil, wa_cons, wn_disp, wn_lis, wn_comp, wi_rng, wi_enu, wi_one, wo_non, wo_some, ws_nop, ws_nil, ws_brk, ws_cnt, ws_retn, ws_exp, ws_ret, ws_raise, ws_ite, ws_set, ws_set, ws_setcF, ws_setcT, ws_par, ws_put, ws_seq, ws_for, ws_while, ws_try, List.getElem?_cons_zero, List.getElem?_cons_succ, Option.some.injEq, exists_eq_left', exists_eq_left, true_implies, forall_const, Bool.true_eq_false, Bool.false_eq_true, false_implies, and_true, true_and, setT, List.set_cons_zero, List.set_cons_succ, List.length_cons, List.length_nil, setAll, Option.bind_some, asB, Bool.not_true, Bool.not_false, o_add_i, o_add_s, o_add_t, o_add_l, o_sub_i, o_mul_i, o_fdv_i, o_mod_i, o_pow_i, o_neg_i, o_lt_i, o_le_i, o_gt_i, o_ge_i, o_is_n, o_isn_n, o_eq_d, o_ne_d, o_in_d, o_nin_d, bx_len, bx_int, bx_min, bx_max, bx_sum, bx_all, bx_any, bx_tuple, b_min_i, b_max_i, b_int_i, b_int_b, b_len_t, b_len_l, b_len_c, b_len_s, b_tup_t, b_tup_l, b_lis_t, b_lis_l, isa_tab, ty_non, ty_bl, ty_int, ty_str, ty_tup, ty_lst, ty_scr, ty_dic, tr_non, tr_bl, tr_int, tr_tup, tr_lst, tr_scr, nm_set, tp_set, ix_t, ix_l, ix_c, at_0, at_1, at_2, at_3, at_m, at_m1, range1, items_t, items_l, items_s, enu_t, enu_l, bel_int, bel_str, bel_bl, bel_non, out_bl, out_int, out_str, out_non, out_nx, mk_ends, mk_join, g_ends, fEq_i, fEq_b, rI_l, rI_d, rS_d, rL_l, r_pop, r_pop1, r_app, rr_q, rr_ix, rr_ixs, rr_len, rr_tup, rr_tru, rr_mkp, rr_mka, rr_pop, rr_app, rr_put, ok_put, out_rt, out_ex, Prod.mk.injEq, exists_eq, exists_and_left, exists_eq', bne_self_eq_false, Int.reduceBNe, Bool.true_and, and_assoc, Rs.ok.injEq, D.tup.injEq, D.bl.injEq, D.int.injEq, List.cons.injEq, enter_bs, D.bel, D.bels, List.cons_append, List.nil_append, startS, List.map_cons, List.map_nil, List.replicate_succ, List.replicate_zero, Nat.reduceSub, Nat.reduceAdd, Bool.or_false, Bool.false_or, Bool.or_true, Bool.true_or, Bool.and_true, Bool.and_false, Bool.true_and, Bool.false_and, if_true, if_false, reduceCtorEq, Bool.not_eq_true, decide_eq_true_eq, decide_eq_false_iff_not, and_self, onok, onokS, onnx, ite_true, ite_false, reduceIte, c_bound_t, c_isline_t]
  by_cases q : h ≤ k + z <;> cases e <;> simp [q]
theorem c_say_e (n : Nat) (k z : Int) (x : Str) (e : Bool) (st : Sto) : md.call (n + 2) 12 [.str x, .int k, .int z, .bl e] st = some (.ok (.tup [.int (k + z), .bl false]), st) := by
  refine run_to (d := ⟨_, _, _, f_say_size⟩) rfl rfl ?_
  simp only [f_say_size, b_say_size, onok_ok, onok_ex, onokS_ok, onokS_ex, onnx_nx, onnx_rt, onnx_bk, onnx_ct, onnx_ex, wc_ok, we_v, we_c, we_g, we_bin, we_cmp, we_ix, we_neg, we_not, we_ite, we_andv, we_orv, we_and1, we_or1, we_and, we_or, we_tup, we_frz, we_alc, we_blt, we_call, we_meth, we_sl, we_isi, we_isi2, we_dsp, we_newd, wt_val, wt_cmp, wt_not, wt_andv, wt_orv, wt_and1, wt_or1, wt_and, wt_or, wa_nil, wa_cons, wn_disp, wn_lis, wn_comp, wi_rng, wi_enu, wi_one, wo_non, wo_some, ws_nop, ws_nil, ws_brk, ws_cnt, ws_retn, ws_exp, ws_ret, ws_raise, ws_ite, ws_set, ws_set, ws_setcF, ws_setcT, ws_par, ws_put, ws_seq, ws_for, ws_while, ws_try, List.getElem?_cons_zero, List.getElem?_cons_succ, Option.some.injEq, exists_eq_left', exists_eq_left, true_implies, forall_const, Bool.true_eq_false, Bool.false_eq_true, false_implies, and_true, true_and, setT, List.set_cons_zero, List.set_cons_succ, List.length_cons, List.length_nil, setAll, Option.bind_some, asB, Bool.not_true, Bool.not_false, o_add_i, o_add_s, o_add_t, o_add_l, o_sub_i, o_mul_i, o_fdv_i, o_mod_i, o_pow_i, o_neg_i, o_lt_i, o_le_i, o_gt_i, o_ge_i, o_is_n, o_isn_n, o_eq_d, o_ne_d, o_in_d, o_nin_d, bx_len, bx_int, bx_min, bx_max, bx_sum, bx_all, bx_any, bx_tuple, b_min_i, b_max_i, b_int_i, b_int_b, b_len_t, b_len_l, b_len_c, b_len_s, b_tup_t, b_tup_l, b_lis_t, b_lis_l, isa_tab, ty_non, ty_bl, ty_int, ty_str, ty_tup, ty_lst, ty_scr, ty_dic, tr_non, tr_bl, tr_int, tr_tup, tr_lst, tr_scr, nm_set, tp_set, ix_t, ix_l, ix_c, at_0, at_1, at_2, at_3, at_m, at_m1, range1, items_t, items_l, items_s, enu_t, enu_l, bel_int, bel_str, bel_bl, bel_non, out_bl, out_int, out_str, out_non, out_nx, mk_ends, mk_join, g_ends, fEq_i, fEq_b, rI_l, rI_d, rS_d, rL_l, r_pop, r_pop1, r_app, rr_q, rr_ix, rr_ixs, rr_len, rr_tup, rr_tru, rr_mkp, rr_mka, rr_pop, rr_app, rr_put, ok_put, out_rt, out_ex, Prod.mk.injEq, exists_eq, exists_and_left, exists_eq', bne_self_eq_false, Int.reduceBNe, Bool.true_and, and_assoc, Rs.ok.injEq, D.tup.injEq, D.bl.injEq, D.int.injEq, List.cons.injEq, enter_bs, D.bel, D.bels, List.cons_append, List.nil_append, startS, List.map_cons, List.map_nil, List.replicate_succ, List.replicate_zero, Nat.reduceSub, Nat.reduceAdd, Bool.or_false, Bool.false_or, Bool.or_true, Bool.true_or, Bool.and_true, Bool.and_false, Bool.true_and, Bool.false_and, if_true, if_false, reduceCtorEq, Bool.not_eq_true, decide_eq_true_eq, decide_eq_false_iff_not, and_self, onok, onokS, onnx, ite_true, ite_false, reduceIte, c_bound_t, c_isline_t]
end K00

set_option Elab.async false
set_option linter.all false
set_option maxRecDepth 100000
set_option maxHeartbeats 0
namespace K00
open PySem Hb
def atomB : D → Bool
  | .non => true
  | .bl _ => true
  | .int _ => true
  | .str _ => true
  | _ => false
theorem c_ll_atom (n : Nat) (d : D) (h : atomB d = true) (st : Sto) : md.call (n + 1) 2 [d] st = some (.ok (.bl false), st) := by
  refine run_to (d := ⟨_, _, _, f_is_listlike⟩) rfl rfl ?_
  cases d <;> first | (simp only [f_is_listlike, b_is_listlike, onok_ok, onok_ex, onokS_ok, onokS_ex, onnx_nx, onnx_rt, onnx_bk, onnx_ct, onnx_ex, wc_ok, we_v, we_c, we_g, we_bin, we_cmp, we_ix, we_neg, we_not, we_ite, we_andv, we_orv, we_and1, we_or1, we_and, we_or, we_tup, we_frz, we_alc, we_blt, we_call, we_meth, we_sl, we_isi, we_isi2, we_dsp, we_newd, wt_val, wt_cmp, wt_not, wt_andv, wt_orv, wt_and1, wt_or1, wt_and, wt_or, wa_nil, wa_cons, wn_disp, wn_lis, wn_comp, wi_rng, wi_enu, wi_one, wo_non, wo_some, ws_nop, ws_nil, ws_brk, ws_cnt, ws_retn, ws_exp, ws_ret, ws_raise, ws_ite, ws_set, ws_set, ws_setcF, ws_setcT, ws_par, ws_put, ws_seq, ws_for, ws_while, ws_try, List.getElem?_cons_zero, List.getElem?_cons_succ, Option.some.injEq, exists_eq_left', exists_eq_left, true_implies, forall_const, Bool.true_eq_false, Bool.false_eq_true, false_implies, and_true, true_and, setT, List.set_cons_zero, List.set_cons_succ, List.length_cons, List.length_nil, setAll, Option.bind_some, asB, Bool.not_true, Bool.not_false, o_add_i, o_add_s, o_add_t, o_add_l, o_sub_i, o_mul_i, o_fdv_i, o_mod_i, o_pow_i, o_neg_i, o_lt_i, o_le_i, o_gt_i, o_ge_i, o_is_n, o_isn_n, o_eq_d, o_ne_d, o_in_d, o_nin_d, bx_len, bx_int, bx_min, bx_max, bx_sum, bx_all, bx_any, bx_tuple, b_min_i, b_max_i, b_int_i, b_int_b, b_len_t, b_len_l, b_len_c, b_len_s, b_tup_t, b_tup_l, b_lis_t, b_lis_l, isa_tab, ty_non, ty_bl, ty_int, ty_str, ty_tup, ty_lst, ty_scr, ty_dic, tr_non, tr_bl, tr_int, tr_tup, tr_lst, tr_scr, nm_set, tp_set, ix_t, ix_l, ix_c, at_0, at_1, at_2, at_3, at_m, at_m1, range1, items_t, items_l, items_s, enu_t, enu_l, bel_int, bel_str, bel_bl, bel_non, out_bl, out_int, out_str, out_non, out_nx, mk_ends, mk_join, g_ends, fEq_i, fEq_b, rI_l, rI_d, rS_d, rL_l, r_pop, r_pop1, r_app, rr_q, rr_ix, rr_ixs, rr_len, rr_tup, rr_tru, rr_mkp, rr_mka, rr_pop, rr_app, rr_put, ok_put, out_rt, out_ex, Prod.mk.injEq, exists_eq, exists_and_left, exists_eq', bne_self_eq_false, Int.reduceBNe, Bool.true_and, and_assoc, Rs.ok.injEq, D.tup.injEq, D.bl.injEq, D.int.injEq, List.cons.injEq, enter_bs, D.bel, D.bels, List.cons_append, List.nil_append, startS, List.map_cons, List.map_nil, List.replicate_succ, List.replicate_zero, Nat.reduceSub, Nat.reduceAdd, Bool.or_false, Bool.false_or, Bool.or_true, Bool.true_or, Bool.and_true, Bool.and_false, Bool.true_and, Bool.false_and, if_true, if_false, reduceCtorEq, Bool.not_eq_true, decide_eq_true_eq, decide_eq_false_iff_not, and_self, onok, onokS, onnx, ite_true, ite_false, reduceIte]; done) | cases h
theorem c_ll_tup (n : Nat) (xs : List D) (st : Sto) : md.call (n + 1) 2 [.tup xs] st = some (.ok (.bl true), st) := by
  refine run_to (d := ⟨_, _, _, f_is_listlike⟩) rfl rfl ?_
  simp only [f_is_listlike, b_is_listlike, onok_ok, onok_ex, onokS_ok, onokS_ex, onnx_nx, onnx_rt, onnx_bk, onnx_ct, onnx_ex, wc_ok, we_v, we_c, we_g, we_bin, we_cmp, we_ix, we_neg, we_not, we_ite, we_andv, we_orv, we_and1, we_or1, we_and, we_or, we_tup, we_frz, we_alc, we_blt, we_call, we_meth, we_sl, we_isi, we_isi2, we_dsp, we_newd, wt_val, wt_cmp, wt_not, wt_andv, wt_orv, wt_and1, wt_or1, wt_and, wt_or, wa_nil, wa_cons, wn_disp, wn_lis, wn_comp, wi_rng, wi_enu, wi_one, wo_non, wo_some, ws_nop, ws_nil, ws_brk, ws_cnt, ws_retn, ws_exp, ws_ret, ws_raise, ws_ite, ws_set, ws_set, ws_setcF, ws_setcT, ws_par, ws_put, ws_seq, ws_for, ws_while, ws_try, List.getElem?_cons_zero, List.getElem?_cons_succ, Option.some.injEq, exists_eq_left', exists_eq_left, true_implies, forall_const, Bool.true_eq_false, Bool.false_eq_true, false_implies, and_true, true_and, setT, List.set_cons_zero, List.set_cons_succ, List.length_cons, List.length_nil, setAll, Option.bind_some, asB, Bool.not_true, Bool.not_false, o_add_i, o_add_s, o_add_t, o_add_l, o_sub_i, o_mul_i, o_fdv_i, o_mod_i, o_pow_i, o_neg_i, o_lt_i, o_le_i, o_gt_i, o_ge_i, o_is_n, o_isn_n, o_eq_d, o_ne_d, o_in_d, o_nin_d, bx_len, bx_int, bx_min, bx_max, bx_sum, bx_all, bx_any, bx_tuple, b_min_i, b_max_i, b_int_i, b_int_b, b_len_t, b_len_l, b_len_c, b_len_s, b_tup_t, b_tup_l, b_lis_t, b_lis_l, isa_tab, ty_non, ty_bl, ty_int, ty_str, ty_tup, ty_lst, ty_scr, ty_dic, tr_non, tr_bl, tr_int, tr_tup, tr_lst, tr_scr, nm_set, tp_set, ix_t, ix_l, ix_c, at_0, at_1, at_2, at_3, at_m, at_m1, range1, items_t, items_l, items_s, enu_t, enu_l, bel_int, bel_str, bel_bl, bel_non, out_bl, out_int, out_str, out_non, out_nx, mk_ends, mk_join, g_ends, fEq_i, fEq_b, rI_l, rI_d, rS_d, rL_l, r_pop, r_pop1, r_app, rr_q, rr_ix, rr_ixs, rr_len, rr_tup, rr_tru, rr_mkp, rr_mka, rr_pop, rr_app, rr_put, ok_put, out_rt, out_ex, Prod.mk.injEq, exists_eq, exists_and_left, exists_eq', bne_self_eq_false, Int.reduceBNe, Bool.true_and, and_assoc, Rs.ok.injEq, D.tup.injEq, D.bl.injEq, D.int.injEq, List.cons.injEq, enter_bs, D.bel, D.bels, List.cons_append, List.nil_append, startS, List.map_cons, List.map_nil, List.replicate_succ, List.replicate_zero, Nat.reduceSub, Nat.reduceAdd, Bool.or_false, Bool.false_or, Bool.or_true, Bool.true_or, Bool.and_true, Bool.and_false, Bool.true_and, Bool.false_and, if_true, if_false, reduceCtorEq, Bool.not_eq_true, decide_eq_true_eq, decide_eq_false_iff_not, and_self, onok, onokS, onnx, ite_true, ite_false, reduceIte]
theorem c_ll_lst (n : Nat) (xs : List D) (st : Sto) : md.call (n + 1) 2 [.lst xs] st = some (.ok (.bl true), st) := by
  refine run_to (d := ⟨_, _, _, f_is_listlike⟩) rfl rfl ?_
  simp only [f_is_listlike, b_is_listlike, onok_ok, onok_ex, onokS_ok, onokS_ex, onnx_nx, onnx_rt, onnx_bk, onnx_ct, onnx_ex, wc_ok, we_v, we_c, we_g, we_bin, we_cmp, we_ix, we_neg, we_not, we_ite, we_andv, we_orv, we_and1, we_or1, we_and, we_or, we_tup, we_frz, we_alc, we_blt, we_call, we_meth, we_sl, we_isi, we_isi2, we_dsp, we_newd, wt_val, wt_cmp, wt_not, wt_andv, wt_orv, wt_and1, wt_or1, wt_and, wt_or, wa_nil, wa_cons, wn_disp, wn_lis, wn_comp, wi_rng, wi_enu, wi_one, wo_non, wo_some, ws_nop, ws_nil, ws_brk, ws_cnt, ws_retn, ws_exp, ws_ret, ws_raise, ws_ite, ws_set, ws_set, ws_setcF, ws_setcT, ws_par, ws_put, ws_seq, ws_for, ws_while, ws_try, List.getElem?_cons_zero, List.getElem?_cons_succ, Option.some.injEq, exists_eq_left', exists_eq_left, true_implies, forall_const, Bool.true_eq_false, Bool.false_eq_true, false_implies, and_true, true_and, setT, List.set_cons_zero, List.set_cons_succ, List.length_cons, List.length_nil, setAll, Option.bind_some, asB, Bool.not_true, Bool.not_false, o_add_i, o_add_s, o_add_t, o_add_l, o_sub_i, o_mul_i, o_fdv_i, o_mod_i, o_pow_i, o_neg_i, o_lt_i, o_le_i, o_gt_i, o_ge_i, o_is_n, o_isn_n, o_eq_d, o_ne_d, o_in_d, o_nin_d, bx_len, bx_int, bx_min, bx_max, bx_sum, bx_all, bx_any, bx_tuple, b_min_i, b_max_i, b_int_i, b_int_b, b_len_t, b_len_l, b_len_c, b_len_s, b_tup_t, b_tup_l, b_lis_t, b_lis_l, isa_tab, ty_non, ty_bl, ty_int, ty_str, ty_tup, ty_lst, ty_scr, ty_dic, tr_non, tr_bl, tr_int, tr_tup, tr_lst, tr_scr, nm_set, tp_set, ix_t, ix_l, ix_c, at_0, at_1, at_2, at_3, at_m, at_m1, range1, items_t, items_l, items_s, enu_t, enu_l, bel_int, bel_str, bel_bl, bel_non, out_bl, out_int, out_str, out_non, out_nx, mk_ends, mk_join, g_ends, fEq_i, fEq_b, rI_l, rI_d, rS_d, rL_l, r_pop, r_pop1, r_app, rr_q, rr_ix, rr_ixs, rr_len, rr_tup, rr_tru, rr_mkp, rr_mka, rr_pop, rr_app, rr_put, ok_put, out_rt, out_ex, Prod.mk.injEq, exists_eq, exists_and_left, exists_eq', bne_self_eq_false, Int.reduceBNe, Bool.true_and, and_assoc, Rs.ok.injEq, D.tup.injEq, D.bl.injEq, D.int.injEq, List.cons.injEq, enter_bs, D.bel, D.bels, List.cons_append, List.nil_append, startS, List.map_cons, List.map_nil, List.replicate_succ, List.replicate_zero, Nat.reduceSub, Nat.reduceAdd, Bool.or_false, Bool.false_or, Bool.or_true, Bool.true_or, Bool.and_true, Bool.and_false, Bool.true_and, Bool.false_and, if_true, if_false, reduceCtorEq, Bool.not_eq_true, decide_eq_true_eq, decide_eq_false_iff_not, and_self, onok, onokS, onnx, ite_true, ite_false, reduceIte]
theorem g1 {α : Type} {O t : List α} {a : α} : (O ++ a :: t)[O.length]? = some a := by simp
theorem g2 {α : Type} {O t : List α} {a b : α} : (O ++ a :: b :: t)[O.length + 1]? = some b := by
  rw [List.getElem?_append_right (by omega)]; simp
theorem g3 {α : Type} {O t : List α} {a b c : α} : (O ++ a :: b :: c :: t)[O.length + 2]? = some c := by
  rw [List.getElem?_append_right (by omega)]; simp
theorem c_plain_atom (n : Nat) (d : D) (h : atomB d = true) (st : Sto) : md.call (n + 2) 4 [d] st = some (.ok d, st) := by
  refine run_to (d := ⟨_, _, _, f_plain_form⟩) rfl rfl ?_
  have hb : d.bel 0 = true := by cases d <;> first | rfl | cases h
  simp only [f_plain_form, b_plain_form, onok_ok, onok_ex, onokS_ok, onokS_ex, onnx_nx, onnx_rt, onnx_bk, onnx_ct, onnx_ex, wc_ok, we_v, we_c, we_g, we_bin, we_cmp, we_ix, we_neg, we_not, we_ite, we_andv, we_orv, we_and1, we_or1, we_and, we_or, we_tup, we_frz, we_alc, we_blt, we_call, we_meth, we_sl, we_isi, we_isi2, we_dsp, we_newd, wt_val, wt_cmp, wt_not, wt_andv, wt_orv, wt_and1, wt_or1, wt_and, wt_or, wa_nil, wa_cons, wn_disp, wn_lis, wn_comp, wi_rng, wi_enu, wi_one, wo_non, wo_some, ws_nop, ws_nil, ws_brk, ws_cnt, ws_retn, ws_exp, ws_ret, ws_raise, ws_ite, ws_set, ws_set, ws_setcF, ws_setcT, ws_par, ws_put, ws_seq, ws_for, ws_while, ws_try, List.getElem?_cons_zero, List.getElem?_cons_succ, Option.some.injEq, exists_eq_left', exists_eq_left, true_implies, forall_const, Bool.true_eq_false, Bool.false_eq_true, false_implies, and_true, true_and, setT, List.set_cons_zero, List.set_cons_succ, List.length_cons, List.length_nil, setAll, Option.bind_some, asB, Bool.not_true, Bool.not_false, o_add_i, o_add_s, o_add_t, o_add_l, o_sub_i, o_mul_i, o_fdv_i, o_mod_i, o_pow_i, o_neg_i, o_lt_i, o_le_i, o_gt_i, o_ge_i, o_is_n, o_isn_n, o_eq_d, o_ne_d, o_in_d, o_nin_d, bx_len, bx_int, bx_min, bx_max, bx_sum, bx_all, bx_any, bx_tuple, b_min_i, b_max_i, b_int_i, b_int_b, b_len_t, b_len_l, b_len_c, b_len_s, b_tup_t, b_tup_l, b_lis_t, b_lis_l, isa_tab, ty_non, ty_bl, ty_int, ty_str, ty_tup, ty_lst, ty_scr, ty_dic, tr_non, tr_bl, tr_int, tr_tup, tr_lst, tr_scr, nm_set, tp_set, ix_t, ix_l, ix_c, at_0, at_1, at_2, at_3, at_m, at_m1, range1, items_t, items_l, items_s, enu_t, enu_l, bel_int, bel_str, bel_bl, bel_non, out_bl, out_int, out_str, out_non, out_nx, mk_ends, mk_join, g_ends, fEq_i, fEq_b, rI_l, rI_d, rS_d, rL_l, r_pop, r_pop1, r_app, rr_q, rr_ix, rr_ixs, rr_len, rr_tup, rr_tru, rr_mkp, rr_mka, rr_pop, rr_app, rr_put, ok_put, out_rt, out_ex, Prod.mk.injEq, exists_eq, exists_and_left, exists_eq', bne_self_eq_false, Int.reduceBNe, Bool.true_and, and_assoc, Rs.ok.injEq, D.tup.injEq, D.bl.injEq, D.int.injEq, List.cons.injEq, enter_bs, D.bel, D.bels, List.cons_append, List.nil_append, startS, List.map_cons, List.map_nil, List.replicate_succ, List.replicate_zero, Nat.reduceSub, Nat.reduceAdd, Bool.or_false, Bool.false_or, Bool.or_true, Bool.true_or, Bool.and_true, Bool.and_false, Bool.true_and, Bool.false_and, if_true, if_false, reduceCtorEq, Bool.not_eq_true, decide_eq_true_eq, decide_eq_false_iff_not, and_self, onok, onokS, onnx, ite_true, ite_false, reduceIte, c_ll_atom _ _ h, hb]
theorem c_plain_seq (n : Nat) (xs : List D) (h : ∀ x ∈ xs, atomB x = true) (hl : xs.length < 99999) (d : D) (hd : d = .tup xs ∨ d = .lst xs) (st : Sto) : md.call (n + 2) 4 [d] st = some (.ok (.tup xs), st) := by
  have hb : ∀ {ys : List D}, (∀ x ∈ ys, atomB x = true) → D.bels 0 ys = true := by
    intro ys hy
    rw [D.bels_iff]
    intro x hx
    have := hy x hx
    cases x <;> first | rfl | cases this
  have lim : 99999 < sizeLine := by decide
  refine run_to (d := ⟨_, _, _, f_plain_form⟩) rfl rfl ?_
  have go : wS (evS md.tb md.cfl (md.call (n + 1)) b_plain_form) [some d, none, none, none, none] st.enter fun f _ s1 => s1.bs = st.o.length :: st.bs ∧ outF false st s1 f = some (.ok (.tup xs), st) := by
    have e0 : wE (evN md.tb (md.call (n + 1)) (.lis (.cons (.v 0) .nil))) [some d, none, none, none, none] st.enter = fun QL => QL (.ok xs) st.enter := by
      funext QL
      rcases hd with rfl | rfl <;> simp only [onok_ok, onok_ex, onokS_ok, onokS_ex, onnx_nx, onnx_rt, onnx_bk, onnx_ct, onnx_ex, wc_ok, we_v, we_c, we_g, we_bin, we_cmp, we_ix, we_neg, we_not, we_ite, we_andv, we_orv, we_and1, we_or1, we_and, we_or, we_tup, we_frz, we_alc, we_blt, we_call, we_meth, we_sl, we_isi, we_isi2, we_dsp, we_newd, wt_val, wt_cmp, wt_not, wt_andv, wt_orv, wt_and1, wt_or1, wt_and, wt_or, wa_nil, wa_cons, wn_disp, wn_lis, wn_comp, wi_rng, wi_enu, wi_one, wo_non, wo_some, ws_nop, ws_nil, ws_brk, ws_cnt, ws_retn, ws_exp, ws_ret, ws_raise, ws_ite, ws_set, ws_set, ws_setcF, ws_setcT, ws_par, ws_put, ws_seq, ws_for, ws_while, ws_try, List.getElem?_cons_zero, List.getElem?_cons_succ, Option.some.injEq, exists_eq_left', exists_eq_left, true_implies, forall_const, Bool.true_eq_false, Bool.false_eq_true, false_implies, and_true, true_and, setT, List.set_cons_zero, List.set_cons_succ, List.length_cons, List.length_nil, setAll, Option.bind_some, asB, Bool.not_true, Bool.not_false, o_add_i, o_add_s, o_add_t, o_add_l, o_sub_i, o_mul_i, o_fdv_i, o_mod_i, o_pow_i, o_neg_i, o_lt_i, o_le_i, o_gt_i, o_ge_i, o_is_n, o_isn_n, o_eq_d, o_ne_d, o_in_d, o_nin_d, bx_len, bx_int, bx_min, bx_max, bx_sum, bx_all, bx_any, bx_tuple, b_min_i, b_max_i, b_int_i, b_int_b, b_len_t, b_len_l, b_len_c, b_len_s, b_tup_t, b_tup_l, b_lis_t, b_lis_l, isa_tab, ty_non, ty_bl, ty_int, ty_str, ty_tup, ty_lst, ty_scr, ty_dic, tr_non, tr_bl, tr_int, tr_tup, tr_lst, tr_scr, nm_set, tp_set, ix_t, ix_l, ix_c, at_0, at_1, at_2, at_3, at_m, at_m1, range1, items_t, items_l, items_s, enu_t, enu_l, bel_int, bel_str, bel_bl, bel_non, out_bl, out_int, out_str, out_non, out_nx, mk_ends, mk_join, g_ends, fEq_i, fEq_b, rI_l, rI_d, rS_d, rL_l, r_pop, r_pop1, r_app, rr_q, rr_ix, rr_ixs, rr_len, rr_tup, rr_tru, rr_mkp, rr_mka, rr_pop, rr_app, rr_put, ok_put, out_rt, out_ex, Prod.mk.injEq, exists_eq, exists_and_left, exists_eq', bne_self_eq_false, Int.reduceBNe, Bool.true_and, and_assoc, Rs.ok.injEq, D.tup.injEq, D.bl.injEq, D.int.injEq, List.cons.injEq, enter_bs, D.bel, D.bels, List.cons_append, List.nil_append, startS, List.map_cons, List.map_nil, List.replicate_succ, List.replicate_zero, Nat.reduceSub, Nat.reduceAdd, Bool.or_false, Bool.false_or, Bool.or_true, Bool.true_or, Bool.and_true, Bool.and_false, Bool.true_and, Bool.false_and, if_true, if_false, reduceCtorEq, Bool.not_eq_true, decide_eq_true_eq, decide_eq_false_iff_not, and_self, onok, onokS, onnx, ite_true, ite_false, reduceIte]
    have e1 : md.call (n + 1) 2 [d] st.enter = some (.ok (.bl true), st.enter) := by
      rcases hd with rfl | rfl
      · exact c_ll_tup _ _ _
      · exact c_ll_lst _ _ _
    simp only [b_plain_form, ws_seq, ws_ite, wt_not, wt_val, we_call, wa_cons, wa_nil, we_v, onok_ok, onok_ex, onokS_ok, onokS_ex, onnx_nx, onnx_rt, onnx_bk, onnx_ct, onnx_ex, wc_ok, we_v, we_c, we_g, we_bin, we_cmp, we_ix, we_neg, we_not, we_ite, we_andv, we_orv, we_and1, we_or1, we_and, we_or, we_tup, we_frz, we_alc, we_blt, we_call, we_meth, we_sl, we_isi, we_isi2, we_dsp, we_newd, wt_val, wt_cmp, wt_not, wt_andv, wt_orv, wt_and1, wt_or1, wt_and, wt_or, wa_nil, wa_cons, wn_disp, wn_lis, wn_comp, wi_rng, wi_enu, wi_one, wo_non, wo_some, ws_nop, ws_nil, ws_brk, ws_cnt, ws_retn, ws_exp, ws_ret, ws_raise, ws_ite, ws_set, ws_set, ws_setcF, ws_setcT, ws_par, ws_put, ws_seq, ws_for, ws_while, ws_try, List.getElem?_cons_zero, List.getElem?_cons_succ, Option.some.injEq, exists_eq_left', exists_eq_left, true_implies, forall_const, Bool.true_eq_false, Bool.false_eq_true, false_implies, and_true, true_and, setT, List.set_cons_zero, List.set_cons_succ, List.length_cons, List.length_nil, setAll, Option.bind_some, asB, Bool.not_true, Bool.not_false, o_add_i, o_add_s, o_add_t, o_add_l, o_sub_i, o_mul_i, o_fdv_i, o_mod_i, o_pow_i, o_neg_i, o_lt_i, o_le_i, o_gt_i, o_ge_i, o_is_n, o_isn_n, o_eq_d, o_ne_d, o_in_d, o_nin_d, bx_len, bx_int, bx_min, bx_max, bx_sum, bx_all, bx_any, bx_tuple, b_min_i, b_max_i, b_int_i, b_int_b, b_len_t, b_len_l, b_len_c, b_len_s, b_tup_t, b_tup_l, b_lis_t, b_lis_l, isa_tab, ty_non, ty_bl, ty_int, ty_str, ty_tup, ty_lst, ty_scr, ty_dic, tr_non, tr_bl, tr_int, tr_tup, tr_lst, tr_scr, nm_set, tp_set, ix_t, ix_l, ix_c, at_0, at_1, at_2, at_3, at_m, at_m1, range1, items_t, items_l, items_s, enu_t, enu_l, bel_int, bel_str, bel_bl, bel_non, out_bl, out_int, out_str, out_non, out_nx, mk_ends, mk_join, g_ends, fEq_i, fEq_b, rI_l, rI_d, rS_d, rL_l, r_pop, r_pop1, r_app, rr_q, rr_ix, rr_ixs, rr_len, rr_tup, rr_tru, rr_mkp, rr_mka, rr_pop, rr_app, rr_put, ok_put, out_rt, out_ex, Prod.mk.injEq, exists_eq, exists_and_left, exists_eq', bne_self_eq_false, Int.reduceBNe, Bool.true_and, and_assoc, Rs.ok.injEq, D.tup.injEq, D.bl.injEq, D.int.injEq, List.cons.injEq, enter_bs, D.bel, D.bels, List.cons_append, List.nil_append, startS, List.map_cons, List.map_nil, List.replicate_succ, List.replicate_zero, Nat.reduceSub, Nat.reduceAdd, Bool.or_false, Bool.false_or, Bool.or_true, Bool.true_or, Bool.and_true, Bool.and_false, Bool.true_and, Bool.false_and, if_true, if_false, reduceCtorEq, Bool.not_eq_true, decide_eq_true_eq, decide_eq_false_iff_not, and_self, onok, onokS, onnx, ite_true, ite_false, reduceIte, e1, e0]
    simp only [gg1, gg2, gg3, ss1, ss2, ss3, Option.map_some, Sto.put, Sto.add, Sto.enter, List.append_assoc, List.cons_append, List.nil_append, List.length_append, Nat.add_assoc, Nat.reduceAdd, List.length_cons, List.length_nil]
    refine ⟨xs, by rcases hd with rfl | rfl <;> rfl, ?_⟩
    refine while_inv (fun m sl s1 => ∃ k o3 o4, k ≤ xs.length ∧ m = xs.length - k ∧ sl = [some d, some (.ref st.o.length), some (.ref (st.o.length + 2)), o3, o4] ∧ s1 = ⟨st.o.length :: st.bs, st.o ++ SO.lst [.lst xs] :: SO.lst (xs.take k) :: SO.lst [.ref (st.o.length + 1)] :: []⟩) ?_ (m := xs.length) (by omega) ⟨0, none, none, by omega, by omega, rfl, rfl⟩
    rintro m sl s1 ⟨k, o3, o4, hk, rfl, rfl, rfl⟩
    by_cases e : k = xs.length
    · subst e
      simp only [onok_ok, onok_ex, onokS_ok, onokS_ex, onnx_nx, onnx_rt, onnx_bk, onnx_ct, onnx_ex, wc_ok, we_v, we_c, we_g, we_bin, we_cmp, we_ix, we_neg, we_not, we_ite, we_andv, we_orv, we_and1, we_or1, we_and, we_or, we_tup, we_frz, we_alc, we_blt, we_call, we_meth, we_sl, we_isi, we_isi2, we_dsp, we_newd, wt_val, wt_cmp, wt_not, wt_andv, wt_orv, wt_and1, wt_or1, wt_and, wt_or, wa_nil, wa_cons, wn_disp, wn_lis, wn_comp, wi_rng, wi_enu, wi_one, wo_non, wo_some, ws_nop, ws_nil, ws_brk, ws_cnt, ws_retn, ws_exp, ws_ret, ws_raise, ws_ite, ws_set, ws_set, ws_setcF, ws_setcT, ws_par, ws_put, ws_seq, ws_for, ws_while, ws_try, List.getElem?_cons_zero, List.getElem?_cons_succ, Option.some.injEq, exists_eq_left', exists_eq_left, true_implies, forall_const, Bool.true_eq_false, Bool.false_eq_true, false_implies, and_true, true_and, setT, List.set_cons_zero, List.set_cons_succ, List.length_cons, List.length_nil, setAll, Option.bind_some, asB, Bool.not_true, Bool.not_false, o_add_i, o_add_s, o_add_t, o_add_l, o_sub_i, o_mul_i, o_fdv_i, o_mod_i, o_pow_i, o_neg_i, o_lt_i, o_le_i, o_gt_i, o_ge_i, o_is_n, o_isn_n, o_eq_d, o_ne_d, o_in_d, o_nin_d, bx_len, bx_int, bx_min, bx_max, bx_sum, bx_all, bx_any, bx_tuple, b_min_i, b_max_i, b_int_i, b_int_b, b_len_t, b_len_l, b_len_c, b_len_s, b_tup_t, b_tup_l, b_lis_t, b_lis_l, isa_tab, ty_non, ty_bl, ty_int, ty_str, ty_tup, ty_lst, ty_scr, ty_dic, tr_non, tr_bl, tr_int, tr_tup, tr_lst, tr_scr, nm_set, tp_set, ix_t, ix_l, ix_c, at_0, at_1, at_2, at_3, at_m, at_m1, range1, items_t, items_l, items_s, enu_t, enu_l, bel_int, bel_str, bel_bl, bel_non, out_bl, out_int, out_str, out_non, out_nx, mk_ends, mk_join, g_ends, fEq_i, fEq_b, rI_l, rI_d, rS_d, rL_l, r_pop, r_pop1, r_app, rr_q, rr_ix, rr_ixs, rr_len, rr_tup, rr_tru, rr_mkp, rr_mka, rr_pop, rr_app, rr_put, ok_put, out_rt, out_ex, Prod.mk.injEq, exists_eq, exists_and_left, exists_eq', bne_self_eq_false, Int.reduceBNe, Bool.true_and, and_assoc, Rs.ok.injEq, D.tup.injEq, D.bl.injEq, D.int.injEq, List.cons.injEq, enter_bs, D.bel, D.bels, List.cons_append, List.nil_append, startS, List.map_cons, List.map_nil, List.replicate_succ, List.replicate_zero, Nat.reduceSub, Nat.reduceAdd, Bool.or_false, Bool.false_or, Bool.or_true, Bool.true_or, Bool.and_true, Bool.and_false, Bool.true_and, Bool.false_and, if_true, if_false, reduceCtorEq, Bool.not_eq_true, decide_eq_true_eq, decide_eq_false_iff_not, and_self, onok, onokS, onnx, ite_true, ite_false, reduceIte, gg1, gg2, gg3, ss1, ss2, ss3, Option.map_some, Sto.put, Sto.add, Sto.enter, List.append_assoc, List.cons_append, List.nil_append, List.length_append, Nat.add_assoc, Nat.reduceAdd, List.take_length, hb h, out_rtA, List.isEmpty_nil, List.isEmpty_cons, decide_true]
    · obtain ⟨x, hx⟩ : ∃ x, xs[k]? = some x := ⟨xs[k]'(by omega), by simp [show k < xs.length by omega]⟩
      have ax := h x (List.mem_of_getElem? hx)
      have hkl : (min k xs.length) = k := by omega
      have hax : x.bel 0 = true := by cases x <;> first | rfl | cases ax
      have hat : L2.atI xs (k : Int) = some x := by rw [at_ok (by omega), hx]
      have hne : ¬ ((k : Int) = (xs.length : Int)) := by omega
      have hks : k < sizeLine := by omega
      simp only [onok_ok, onok_ex, onokS_ok, onokS_ex, onnx_nx, onnx_rt, onnx_bk, onnx_ct, onnx_ex, wc_ok, we_v, we_c, we_g, we_bin, we_cmp, we_ix, we_neg, we_not, we_ite, we_andv, we_orv, we_and1, we_or1, we_and, we_or, we_tup, we_frz, we_alc, we_blt, we_call, we_meth, we_sl, we_isi, we_isi2, we_dsp, we_newd, wt_val, wt_cmp, wt_not, wt_andv, wt_orv, wt_and1, wt_or1, wt_and, wt_or, wa_nil, wa_cons, wn_disp, wn_lis, wn_comp, wi_rng, wi_enu, wi_one, wo_non, wo_some, ws_nop, ws_nil, ws_brk, ws_cnt, ws_retn, ws_exp, ws_ret, ws_raise, ws_ite, ws_set, ws_set, ws_setcF, ws_setcT, ws_par, ws_put, ws_seq, ws_for, ws_while, ws_try, List.getElem?_cons_zero, List.getElem?_cons_succ, Option.some.injEq, exists_eq_left', exists_eq_left, true_implies, forall_const, Bool.true_eq_false, Bool.false_eq_true, false_implies, and_true, true_and, setT, List.set_cons_zero, List.set_cons_succ, List.length_cons, List.length_nil, setAll, Option.bind_some, asB, Bool.not_true, Bool.not_false, o_add_i, o_add_s, o_add_t, o_add_l, o_sub_i, o_mul_i, o_fdv_i, o_mod_i, o_pow_i, o_neg_i, o_lt_i, o_le_i, o_gt_i, o_ge_i, o_is_n, o_isn_n, o_eq_d, o_ne_d, o_in_d, o_nin_d, bx_len, bx_int, bx_min, bx_max, bx_sum, bx_all, bx_any, bx_tuple, b_min_i, b_max_i, b_int_i, b_int_b, b_len_t, b_len_l, b_len_c, b_len_s, b_tup_t, b_tup_l, b_lis_t, b_lis_l, isa_tab, ty_non, ty_bl, ty_int, ty_str, ty_tup, ty_lst, ty_scr, ty_dic, tr_non, tr_bl, tr_int, tr_tup, tr_lst, tr_scr, nm_set, tp_set, ix_t, ix_l, ix_c, at_0, at_1, at_2, at_3, at_m, at_m1, range1, items_t, items_l, items_s, enu_t, enu_l, bel_int, bel_str, bel_bl, bel_non, out_bl, out_int, out_str, out_non, out_nx, mk_ends, mk_join, g_ends, fEq_i, fEq_b, rI_l, rI_d, rS_d, rL_l, r_pop, r_pop1, r_app, rr_q, rr_ix, rr_ixs, rr_len, rr_tup, rr_tru, rr_mkp, rr_mka, rr_pop, rr_app, rr_put, ok_put, out_rt, out_ex, Prod.mk.injEq, exists_eq, exists_and_left, exists_eq', bne_self_eq_false, Int.reduceBNe, Bool.true_and, and_assoc, Rs.ok.injEq, D.tup.injEq, D.bl.injEq, D.int.injEq, List.cons.injEq, enter_bs, D.bel, D.bels, List.cons_append, List.nil_append, startS, List.map_cons, List.map_nil, List.replicate_succ, List.replicate_zero, Nat.reduceSub, Nat.reduceAdd, Bool.or_false, Bool.false_or, Bool.or_true, Bool.true_or, Bool.and_true, Bool.and_false, Bool.true_and, Bool.false_and, if_true, if_false, reduceCtorEq, Bool.not_eq_true, decide_eq_true_eq, decide_eq_false_iff_not, and_self, onok, onokS, onnx, ite_true, ite_false, reduceIte, gg1, gg2, gg3, ss1, ss2, ss3, Option.map_some, Sto.put, Sto.add, Sto.enter, List.append_assoc, List.cons_append, List.nil_append, List.length_append, Nat.add_assoc, Nat.reduceAdd, List.length_take, hkl, hne, hat, c_ll_atom _ _ ax, hax, hks, not_false_eq_true]
      refine ⟨xs.length - (k + 1), by omega, k + 1, by omega, rfl, ?_⟩
      rw [List.take_add_one, hx]
      rfl
  exact go
theorem c_plain_t (n : Nat) (xs : List D) (h : ∀ x ∈ xs, atomB x = true) (hl : xs.length < 99999) (st : Sto) : md.call (n + 2) 4 [.tup xs] st = some (.ok (.tup xs), st) := c_plain_seq n xs h hl _ (.inl rfl) st
theorem c_plain_l (n : Nat) (xs : List D) (h : ∀ x ∈ xs, atomB x = true) (hl : xs.length < 99999) (st : Sto) : md.call (n + 2) 4 [.lst xs] st = some (.ok (.tup xs), st) := c_plain_seq n xs h hl _ (.inr rfl) st
end K00

set_option Elab.async false
set_option linter.all false
set_option maxRecDepth 100000
set_option maxHeartbeats 0
namespace K00
open PySem Hb L2
abbrev sSl : Str := ⟨#[47]⟩
theorem ends_t (ls : List Nat) : Txt.endswith ⟨(ls ++ [47]).toArray⟩ ⟨#[47]⟩ = true := by
  show (decide (0 + 1 ≤ (ls ++ [47]).toArray.size) && ((ls ++ [47]).toArray.extract ((ls ++ [47]).toArray.size - 1) ((ls ++ [47]).toArray.size - 1 + 1) == #[47])) = true
  simp
theorem ends_f (ls : List Nat) (h : ∀ c ∈ ls, c ≠ 47) : Txt.endswith ⟨ls.toArray⟩ ⟨#[47]⟩ = false := by
  show (decide (0 + 1 ≤ ls.toArray.size) && (ls.toArray.extract (ls.toArray.size - 1) (ls.toArray.size - 1 + 1) == #[47])) = false
  rcases List.eq_nil_or_concat ls with rfl | ⟨r, c, rfl⟩
  · rfl
  · have := h c (by simp)
    simp [this]
def Lt (c : Nat) : Prop := 97 ≤ c ∧ c ≤ 122
structure Wd where
  ls : List Nat
  b : Bool
def Wd.cs (w : Wd) : List Nat := w.ls ++ (if w.b then [47] else [])
def Wd.s (w : Wd) : Str := ⟨w.cs.toArray⟩
structure Wd.Ok (w : Wd) : Prop where
  ne : w.ls ≠ []
  le : w.ls.length ≤ 12
  lt : ∀ c ∈ w.ls, Lt c
theorem Wd.len (w : Wd) : w.s.length = w.cs.length := by simp [Wd.s, Str.length]
theorem Wd.Ok.len {w : Wd} (h : w.Ok) : w.cs.length ≤ 13 ∧ 1 ≤ w.cs.length := by
  have := h.le
  have : 1 ≤ w.ls.length := by
    cases e : w.ls with
    | nil => exact absurd e h.ne
    | cons _ _ => simp
  unfold Wd.cs
  rw [List.length_append]
  cases w.b <;> simp <;> omega
theorem Wd.Ok.short {w : Wd} (h : w.Ok) : w.s.length ≤ sizeLine := by
  rw [w.len]
  exact Nat.le_trans h.len.1 (by decide)
theorem Wd.Ok.ends {w : Wd} (h : w.Ok) : Txt.endswith w.s ⟨#[47]⟩ = w.b := by
  unfold Wd.s Wd.cs
  cases w.b with
  | true => exact ends_t _
  | false =>
    simp only [Bool.false_eq_true, if_false, List.append_nil]
    exact ends_f _ fun c hc => by have := (h.lt c hc).1; omega
theorem Wd.cut {w : Wd} (hb : w.b = true) : cutS w.s none (some (-1)) = ⟨w.ls.toArray⟩ := by
  unfold cutS Wd.s Wd.cs
  rw [hb]
  have e : (-1 + ((w.ls.length : Int) + 1)).toNat = w.ls.length := by omega
  simp [Str.length, HT.sIx, e]
theorem fAll_true {xs : List D} {st : Sto} : fAll [.lst (xs.map fun _ => .bl true)] st = some (.bl true) := by
  have : boolsD (xs.map fun _ => D.bl true) = some (xs.map fun _ => true) := by
    induction xs with
    | nil => rfl
    | cons x xs ih =>
      show (boolsD (xs.map fun _ => D.bl true)).map (true :: ·) = _
      rw [ih]; rfl
  show ((lview (.lst (xs.map fun _ => .bl true)) st).bind boolsD).map _ = _
  show ((boolsD (xs.map fun _ => D.bl true)).map fun bs => D.bl (bs.all id)) = _
  rw [this]
  simp
theorem mem_let {c : Nat} (h : Lt c) : c ∈ [97, 98, 99, 100, 101, 102, 103, 104, 105, 106, 107, 108, 109, 110, 111, 112, 113, 114, 115, 116, 117, 118, 119, 120, 121, 122] := by
  obtain ⟨h1, h2⟩ := h
  simp only [List.mem_cons, List.not_mem_nil, or_false]
  omega
theorem comp_let (call : Nat → Cl) (ls : List Nat) (h : ∀ c ∈ ls, Lt c) (d s x : Option D) (st : Sto) :
    compL (.nm 2) (fun _ => true) (evIf md.tb call .nil) (evE md.tb call (.cmp .inn (.v 2) (.g 0))) (wipeS [d, s, x] [2]) (ls.map fun c => D.str ⟨#[c]⟩) st = some ((ls.map fun c => D.str ⟨#[c]⟩).map (fun _ => .bl true), st) := by
  refine comp_map rfl (fun _ => .bl true) (fun y hy => ?_)
  obtain ⟨c, hc, rfl⟩ := List.mem_map.mp hy
  refine ⟨_, rfl, rfl, ?_⟩
  have hc := mem_let (h c (by simpa using hc))
  show some (Rs.ok (D.bl (decide (c ∈ _))), st) = _
  rw [decide_eq_true (show c ∈ (#[97, 98, 99, 100, 101, 102, 103, 104, 105, 106, 107, 108, 109, 110, 111, 112, 113, 114, 115, 116, 117, 118, 119, 120, 121, 122] : Array Nat).toList from hc)]
theorem c_is_text (n : Nat) (w : Wd) (h : w.Ok) (st : Sto) : md.call (n + 1) 1 [.str w.s] st = some (.ok (.bl true), st) := by
  refine run_to (d := ⟨_, _, _, f_is_text⟩) rfl rfl ?_
  have e0 := h.ends
  have e1 := h.short
  have hl : (⟨w.ls.toArray⟩ : Str).length = w.ls.length := by simp [Str.length]
  have hl3 : w.ls.length ≤ sizeLine := Nat.le_trans h.le (by decide)
  have hl2 : (⟨w.ls.toArray⟩ : Str).length ≤ sizeLine := by rw [hl]; exact hl3
  have hp : (0 : Int) < (w.ls.length : Int) := by
    cases e : w.ls with
    | nil => exact absurd e h.ne
    | cons _ _ => simp
  cases hb : w.b with
  | true =>
    rw [hb] at e0
    have e2 : fSl (.str w.s) none (some (-1)) st.enter = some (.str ⟨w.ls.toArray⟩) := by
      show (if w.s.length ≤ sizeLine then some (D.str (cutS w.s none (some (-1)))) else none) = _
      rw [if_pos e1, Wd.cut hb]
    simp only [f_is_text, b_is_text, onok_ok, onok_ex, onokS_ok, onokS_ex, onnx_nx, onnx_rt, onnx_bk, onnx_ct, onnx_ex, wc_ok, we_v, we_c, we_g, we_bin, we_cmp, we_ix, we_neg, we_not, we_ite, we_andv, we_orv, we_and1, we_or1, we_and, we_or, we_tup, we_frz, we_alc, we_blt, we_call, we_meth, we_sl, we_isi, we_isi2, we_dsp, we_newd, wt_val, wt_cmp, wt_not, wt_andv, wt_orv, wt_and1, wt_or1, wt_and, wt_or, wa_nil, wa_cons, wn_disp, wn_lis, wn_comp, wi_rng, wi_enu, wi_one, wo_non, wo_some, ws_nop, ws_nil, ws_brk, ws_cnt, ws_retn, ws_exp, ws_ret, ws_raise, ws_ite, ws_set, ws_set, ws_setcF, ws_setcT, ws_par, ws_put, ws_seq, ws_for, ws_while, ws_try, List.getElem?_cons_zero, List.getElem?_cons_succ, Option.some.injEq, exists_eq_left', exists_eq_left, true_implies, forall_const, Bool.true_eq_false, Bool.false_eq_true, false_implies, and_true, true_and, setT, List.set_cons_zero, List.set_cons_succ, List.length_cons, List.length_nil, setAll, Option.bind_some, asB, Bool.not_true, Bool.not_false, o_add_i, o_add_s, o_add_t, o_add_l, o_sub_i, o_mul_i, o_fdv_i, o_mod_i, o_pow_i, o_neg_i, o_lt_i, o_le_i, o_gt_i, o_ge_i, o_is_n, o_isn_n, o_eq_d, o_ne_d, o_in_d, o_nin_d, bx_len, bx_int, bx_min, bx_max, bx_sum, bx_all, bx_any, bx_tuple, b_min_i, b_max_i, b_int_i, b_int_b, b_len_t, b_len_l, b_len_c, b_len_s, b_tup_t, b_tup_l, b_lis_t, b_lis_l, isa_tab, ty_non, ty_bl, ty_int, ty_str, ty_tup, ty_lst, ty_scr, ty_dic, tr_non, tr_bl, tr_int, tr_tup, tr_lst, tr_scr, nm_set, tp_set, ix_t, ix_l, ix_c, at_0, at_1, at_2, at_3, at_m, at_m1, range1, items_t, items_l, items_s, enu_t, enu_l, bel_int, bel_str, bel_bl, bel_non, out_bl, out_int, out_str, out_non, out_nx, mk_ends, mk_join, g_ends, fEq_i, fEq_b, rI_l, rI_d, rS_d, rL_l, r_pop, r_pop1, r_app, rr_q, rr_ix, rr_ixs, rr_len, rr_tup, rr_tru, rr_mkp, rr_mka, rr_pop, rr_app, rr_put, ok_put, out_rt, out_ex, Prod.mk.injEq, exists_eq, exists_and_left, exists_eq', bne_self_eq_false, Int.reduceBNe, Bool.true_and, and_assoc, Rs.ok.injEq, D.tup.injEq, D.bl.injEq, D.int.injEq, List.cons.injEq, enter_bs, D.bel, D.bels, List.cons_append, List.nil_append, startS, List.map_cons, List.map_nil, List.replicate_succ, List.replicate_zero, Nat.reduceSub, Nat.reduceAdd, Bool.or_false, Bool.false_or, Bool.or_true, Bool.true_or, Bool.and_true, Bool.and_false, Bool.true_and, Bool.false_and, if_true, if_false, reduceCtorEq, Bool.not_eq_true, decide_eq_true_eq, decide_eq_false_iff_not, and_self, onok, onokS, onnx, ite_true, ite_false, reduceIte, e0, e2, asI, b_len_s hl2, hl, hl3, hp, comp_let _ _ h.lt, fAll_true, List.length_map, decide_true]
  | false =>
    rw [hb] at e0
    have e2 : w.s = ⟨w.ls.toArray⟩ := by unfold Wd.s Wd.cs; rw [hb]; simp
    rw [e2] at e0 e1 ⊢
    simp only [f_is_text, b_is_text, onok_ok, onok_ex, onokS_ok, onokS_ex, onnx_nx, onnx_rt, onnx_bk, onnx_ct, onnx_ex, wc_ok, we_v, we_c, we_g, we_bin, we_cmp, we_ix, we_neg, we_not, we_ite, we_andv, we_orv, we_and1, we_or1, we_and, we_or, we_tup, we_frz, we_alc, we_blt, we_call, we_meth, we_sl, we_isi, we_isi2, we_dsp, we_newd, wt_val, wt_cmp, wt_not, wt_andv, wt_orv, wt_and1, wt_or1, wt_and, wt_or, wa_nil, wa_cons, wn_disp, wn_lis, wn_comp, wi_rng, wi_enu, wi_one, wo_non, wo_some, ws_nop, ws_nil, ws_brk, ws_cnt, ws_retn, ws_exp, ws_ret, ws_raise, ws_ite, ws_set, ws_set, ws_setcF, ws_setcT, ws_par, ws_put, ws_seq, ws_for, ws_while, ws_try, List.getElem?_cons_zero, List.getElem?_cons_succ, Option.some.injEq, exists_eq_left', exists_eq_left, true_implies, forall_const, Bool.true_eq_false, Bool.false_eq_true, false_implies, and_true, true_and, setT, List.set_cons_zero, List.set_cons_succ, List.length_cons, List.length_nil, setAll, Option.bind_some, asB, Bool.not_true, Bool.not_false, o_add_i, o_add_s, o_add_t, o_add_l, o_sub_i, o_mul_i, o_fdv_i, o_mod_i, o_pow_i, o_neg_i, o_lt_i, o_le_i, o_gt_i, o_ge_i, o_is_n, o_isn_n, o_eq_d, o_ne_d, o_in_d, o_nin_d, bx_len, bx_int, bx_min, bx_max, bx_sum, bx_all, bx_any, bx_tuple, b_min_i, b_max_i, b_int_i, b_int_b, b_len_t, b_len_l, b_len_c, b_len_s, b_tup_t, b_tup_l, b_lis_t, b_lis_l, isa_tab, ty_non, ty_bl, ty_int, ty_str, ty_tup, ty_lst, ty_scr, ty_dic, tr_non, tr_bl, tr_int, tr_tup, tr_lst, tr_scr, nm_set, tp_set, ix_t, ix_l, ix_c, at_0, at_1, at_2, at_3, at_m, at_m1, range1, items_t, items_l, items_s, enu_t, enu_l, bel_int, bel_str, bel_bl, bel_non, out_bl, out_int, out_str, out_non, out_nx, mk_ends, mk_join, g_ends, fEq_i, fEq_b, rI_l, rI_d, rS_d, rL_l, r_pop, r_pop1, r_app, rr_q, rr_ix, rr_ixs, rr_len, rr_tup, rr_tru, rr_mkp, rr_mka, rr_pop, rr_app, rr_put, ok_put, out_rt, out_ex, Prod.mk.injEq, exists_eq, exists_and_left, exists_eq', bne_self_eq_false, Int.reduceBNe, Bool.true_and, and_assoc, Rs.ok.injEq, D.tup.injEq, D.bl.injEq, D.int.injEq, List.cons.injEq, enter_bs, D.bel, D.bels, List.cons_append, List.nil_append, startS, List.map_cons, List.map_nil, List.replicate_succ, List.replicate_zero, Nat.reduceSub, Nat.reduceAdd, Bool.or_false, Bool.false_or, Bool.or_true, Bool.true_or, Bool.and_true, Bool.and_false, Bool.true_and, Bool.false_and, if_true, if_false, reduceCtorEq, Bool.not_eq_true, decide_eq_true_eq, decide_eq_false_iff_not, and_self, onok, onokS, onnx, ite_true, ite_false, reduceIte, e0, e1, asI, b_len_s hl2, hl, hl3, hp, comp_let _ _ h.lt, fAll_true, List.length_map, decide_true]
end K00

set_option Elab.async false
set_option linter.all false
set_option maxRecDepth 100000
set_option maxHeartbeats 0
namespace K00
open PySem Hb L2
abbrev LINE : Str := ⟨#[108, 105, 110, 101]⟩
abbrev ENDL : Str := ⟨#[101, 110, 100, 108, 101, 115, 115]⟩
/-- a hold as the law draws it -/
inductive Ho where
  | i (n : Int) | t (n : Int) | l (n : Int) | en
def Ho.d : Ho → D
  | .i n => .int n
  | .t n => .tup [.str ⟨#[108, 105, 110, 101]⟩, .int n]
  | .l n => .lst [.str ⟨#[108, 105, 110, 101]⟩, .int n]
  | .en => .str ⟨#[101, 110, 100, 108, 101, 115, 115]⟩
def Ho.k : Ho → D
  | .i n => .int n
  | .t n => .tup [.str ⟨#[108, 105, 110, 101]⟩, .int n]
  | .l n => .tup [.str ⟨#[108, 105, 110, 101]⟩, .int n]
  | .en => .str ⟨#[101, 110, 100, 108, 101, 115, 115]⟩
def Ho.n : Ho → Int
  | .i n => n
  | .t n => n
  | .l n => n
  | .en => 0
def Ho.Ok : Ho → Prop
  | .en => True
  | h => 1 ≤ h.n
/-- what may be held under it -/
def Ho.may : Ho → Int → Prop
  | .en, k => 0 ≤ k
  | h, k => 0 ≤ k ∧ k ≤ h.n - 1
/-- one text said -/
def Ho.say : Ho → Int → Int → Bool → Int × Bool
  | .en, k, z, _ => (k + z, false)
  | .i n, k, z, _ => (if n ≤ k + z then 0 else k + z, decide (n ≤ k + z))
  | .t n, k, z, e => (if n ≤ k + z ∨ e = true then 0 else k + z, decide (n ≤ k + z) || e)
  | .l n, k, z, e => (if n ≤ k + z ∨ e = true then 0 else k + z, decide (n ≤ k + z) || e)
def out2 (r : Int × Bool) : D := .tup [.int r.1, .bl r.2]
theorem lay_l : PyData.canLay0 (.str ⟨#[108, 105, 110, 101]⟩) = true := by decide +kernel
theorem lay_e : PyData.canLay0 (.str ⟨#[101, 110, 100, 108, 101, 115, 115]⟩) = true := by decide +kernel
theorem lay_s : PyData.canLay0 (.str ⟨#[47]⟩) = true := by decide +kernel
theorem eq_ll {st : Sto} : fEq (.str ⟨#[108, 105, 110, 101]⟩) (.str ⟨#[108, 105, 110, 101]⟩) st = some (.bl true) := by rw [fEq_s lay_l lay_l]; simp
theorem eq_ee {st : Sto} : fEq (.str ⟨#[101, 110, 100, 108, 101, 115, 115]⟩) (.str ⟨#[101, 110, 100, 108, 101, 115, 115]⟩) st = some (.bl true) := by rw [fEq_s lay_e lay_e]; simp
theorem fEq_no {x y : D} {st : Sto} (hx : cview x st = x) (hy : cview y st = y) (h : cmpOk x.pd y.pd = true) (e : PyData.eqv x.pd y.pd = false) : fEq x y st = some (.bl false) := by
  unfold fEq
  rw [hx, hy, if_pos h, e]
theorem eq_ie {n : Int} {st : Sto} : fEq (.int n) (.str ⟨#[101, 110, 100, 108, 101, 115, 115]⟩) st = some (.bl false) := fEq_no rfl rfl (by
  show (true && PyData.canLay0 (.str ⟨#[101, 110, 100, 108, 101, 115, 115]⟩) && true && true) = true
  rw [lay_e]; rfl) (by simp [D.pd, PyData.eqv])
theorem lay_t {n : Int} : PyData.canLayAll0 [.str ⟨#[108, 105, 110, 101]⟩, .int n] = true := by
  show (PyData.canLay0 (.str ⟨#[108, 105, 110, 101]⟩) && (true && true)) = true
  rw [lay_l]; rfl
theorem eq_te {n : Int} {st : Sto} : fEq (.tup [.str ⟨#[108, 105, 110, 101]⟩, .int n]) (.str ⟨#[101, 110, 100, 108, 101, 115, 115]⟩) st = some (.bl false) := fEq_no rfl rfl (by
  show (PyData.canLayAll0 [.str ⟨#[108, 105, 110, 101]⟩, .int n] && PyData.canLay0 (.str ⟨#[101, 110, 100, 108, 101, 115, 115]⟩) && _ && true) = true
  rw [lay_e, lay_t]; rfl) (by simp [D.pd, PyData.eqv])
theorem eq_le {n : Int} {st : Sto} : fEq (.lst [.str ⟨#[108, 105, 110, 101]⟩, .int n]) (.str ⟨#[101, 110, 100, 108, 101, 115, 115]⟩) st = some (.bl false) := fEq_no rfl rfl (by
  show (PyData.canLayAll0 [.str ⟨#[108, 105, 110, 101]⟩, .int n] && PyData.canLay0 (.str ⟨#[101, 110, 100, 108, 101, 115, 115]⟩) && _ && true) = true
  rw [lay_e, lay_t]; rfl) (by simp [D.pd, PyData.eqv])
theorem isInt (n : Nat) (i : Int) (st : Sto) : md.call (n + 1) 0 [.int i] st = some (.ok (.bl true), st) := c_is_int n i st
theorem c_ll_str (n : Nat) (x : Str) (st : Sto) : md.call (n + 1) 2 [.str x] st = some (.ok (.bl false), st) := c_ll_atom n _ rfl st
theorem c_ll_int (n : Nat) (x : Int) (st : Sto) : md.call (n + 1) 2 [.int x] st = some (.ok (.bl false), st) := c_ll_atom n _ rfl st
theorem c_is_hold (n : Nat) (h : Ho) (hh : h.Ok) (st : Sto) : md.call (n + 2) 3 [h.d] st = some (.ok (.bl true), st) := by
  refine run_to (d := ⟨_, _, _, f_is_hold⟩) rfl rfl ?_
  cases h with
  | en => simp only [f_is_hold, b_is_hold, Ho.d, onok_ok, onok_ex, onokS_ok, onokS_ex, onnx_nx, onnx_rt, onnx_bk, onnx_ct, onnx_ex, wc_ok, we_v, we_c, we_g, we_bin, we_cmp, we_ix, we_neg, we_not, we_ite, we_andv, we_orv, we_and1, we_or1, we_and, we_or, we_tup, we_frz, we_alc, we_blt, we_call, we_meth, we_sl, we_isi, we_isi2, we_dsp, we_newd, wt_val, wt_cmp, wt_not, wt_andv, wt_orv, wt_and1, wt_or1, wt_and, wt_or, wa_nil, wa_cons, wn_disp, wn_lis, wn_comp, wi_rng, wi_enu, wi_one, wo_non, wo_some, ws_nop, ws_nil, ws_brk, ws_cnt, ws_retn, ws_exp, ws_ret, ws_raise, ws_ite, ws_set, ws_set, ws_setcF, ws_setcT, ws_par, ws_put, ws_seq, ws_for, ws_while, ws_try, List.getElem?_cons_zero, List.getElem?_cons_succ, Option.some.injEq, exists_eq_left', exists_eq_left, true_implies, forall_const, Bool.true_eq_false, Bool.false_eq_true, false_implies, and_true, true_and, setT, List.set_cons_zero, List.set_cons_succ, List.length_cons, List.length_nil, setAll, Option.bind_some, asB, Bool.not_true, Bool.not_false, o_add_i, o_add_s, o_add_t, o_add_l, o_sub_i, o_mul_i, o_fdv_i, o_mod_i, o_pow_i, o_neg_i, o_lt_i, o_le_i, o_gt_i, o_ge_i, o_is_n, o_isn_n, o_eq_d, o_ne_d, o_in_d, o_nin_d, bx_len, bx_int, bx_min, bx_max, bx_sum, bx_all, bx_any, bx_tuple, b_min_i, b_max_i, b_int_i, b_int_b, b_len_t, b_len_l, b_len_c, b_len_s, b_tup_t, b_tup_l, b_lis_t, b_lis_l, isa_tab, ty_non, ty_bl, ty_int, ty_str, ty_tup, ty_lst, ty_scr, ty_dic, tr_non, tr_bl, tr_int, tr_tup, tr_lst, tr_scr, nm_set, tp_set, ix_t, ix_l, ix_c, at_0, at_1, at_2, at_3, at_m, at_m1, range1, items_t, items_l, items_s, enu_t, enu_l, bel_int, bel_str, bel_bl, bel_non, out_bl, out_int, out_str, out_non, out_nx, mk_ends, mk_join, g_ends, fEq_i, fEq_b, rI_l, rI_d, rS_d, rL_l, r_pop, r_pop1, r_app, rr_q, rr_ix, rr_ixs, rr_len, rr_tup, rr_tru, rr_mkp, rr_mka, rr_pop, rr_app, rr_put, ok_put, out_rt, out_ex, Prod.mk.injEq, exists_eq, exists_and_left, exists_eq', bne_self_eq_false, Int.reduceBNe, Bool.true_and, and_assoc, Rs.ok.injEq, D.tup.injEq, D.bl.injEq, D.int.injEq, List.cons.injEq, enter_bs, D.bel, D.bels, List.cons_append, List.nil_append, startS, List.map_cons, List.map_nil, List.replicate_succ, List.replicate_zero, Nat.reduceSub, Nat.reduceAdd, Bool.or_false, Bool.false_or, Bool.or_true, Bool.true_or, Bool.and_true, Bool.and_false, Bool.true_and, Bool.false_and, if_true, if_false, reduceCtorEq, Bool.not_eq_true, decide_eq_true_eq, decide_eq_false_iff_not, and_self, onok, onokS, onnx, ite_true, ite_false, reduceIte, eq_ee]
  | i m =>
    have hh : 1 ≤ m := hh
    simp only [f_is_hold, b_is_hold, Ho.d, onok_ok, onok_ex, onokS_ok, onokS_ex, onnx_nx, onnx_rt, onnx_bk, onnx_ct, onnx_ex, wc_ok, we_v, we_c, we_g, we_bin, we_cmp, we_ix, we_neg, we_not, we_ite, we_andv, we_orv, we_and1, we_or1, we_and, we_or, we_tup, we_frz, we_alc, we_blt, we_call, we_meth, we_sl, we_isi, we_isi2, we_dsp, we_newd, wt_val, wt_cmp, wt_not, wt_andv, wt_orv, wt_and1, wt_or1, wt_and, wt_or, wa_nil, wa_cons, wn_disp, wn_lis, wn_comp, wi_rng, wi_enu, wi_one, wo_non, wo_some, ws_nop, ws_nil, ws_brk, ws_cnt, ws_retn, ws_exp, ws_ret, ws_raise, ws_ite, ws_set, ws_set, ws_setcF, ws_setcT, ws_par, ws_put, ws_seq, ws_for, ws_while, ws_try, List.getElem?_cons_zero, List.getElem?_cons_succ, Option.some.injEq, exists_eq_left', exists_eq_left, true_implies, forall_const, Bool.true_eq_false, Bool.false_eq_true, false_implies, and_true, true_and, setT, List.set_cons_zero, List.set_cons_succ, List.length_cons, List.length_nil, setAll, Option.bind_some, asB, Bool.not_true, Bool.not_false, o_add_i, o_add_s, o_add_t, o_add_l, o_sub_i, o_mul_i, o_fdv_i, o_mod_i, o_pow_i, o_neg_i, o_lt_i, o_le_i, o_gt_i, o_ge_i, o_is_n, o_isn_n, o_eq_d, o_ne_d, o_in_d, o_nin_d, bx_len, bx_int, bx_min, bx_max, bx_sum, bx_all, bx_any, bx_tuple, b_min_i, b_max_i, b_int_i, b_int_b, b_len_t, b_len_l, b_len_c, b_len_s, b_tup_t, b_tup_l, b_lis_t, b_lis_l, isa_tab, ty_non, ty_bl, ty_int, ty_str, ty_tup, ty_lst, ty_scr, ty_dic, tr_non, tr_bl, tr_int, tr_tup, tr_lst, tr_scr, nm_set, tp_set, ix_t, ix_l, ix_c, at_0, at_1, at_2, at_3, at_m, at_m1, range1, items_t, items_l, items_s, enu_t, enu_l, bel_int, bel_str, bel_bl, bel_non, out_bl, out_int, out_str, out_non, out_nx, mk_ends, mk_join, g_ends, fEq_i, fEq_b, rI_l, rI_d, rS_d, rL_l, r_pop, r_pop1, r_app, rr_q, rr_ix, rr_ixs, rr_len, rr_tup, rr_tru, rr_mkp, rr_mka, rr_pop, rr_app, rr_put, ok_put, out_rt, out_ex, Prod.mk.injEq, exists_eq, exists_and_left, exists_eq', bne_self_eq_false, Int.reduceBNe, Bool.true_and, and_assoc, Rs.ok.injEq, D.tup.injEq, D.bl.injEq, D.int.injEq, List.cons.injEq, enter_bs, D.bel, D.bels, List.cons_append, List.nil_append, startS, List.map_cons, List.map_nil, List.replicate_succ, List.replicate_zero, Nat.reduceSub, Nat.reduceAdd, Bool.or_false, Bool.false_or, Bool.or_true, Bool.true_or, Bool.and_true, Bool.and_false, Bool.true_and, Bool.false_and, if_true, if_false, reduceCtorEq, Bool.not_eq_true, decide_eq_true_eq, decide_eq_false_iff_not, and_self, onok, onokS, onnx, ite_true, ite_false, reduceIte, c_ll_int, isInt, hh, decide_true]
  | t m =>
    have hh : 1 ≤ m := hh
    simp only [f_is_hold, b_is_hold, Ho.d, onok_ok, onok_ex, onokS_ok, onokS_ex, onnx_nx, onnx_rt, onnx_bk, onnx_ct, onnx_ex, wc_ok, we_v, we_c, we_g, we_bin, we_cmp, we_ix, we_neg, we_not, we_ite, we_andv, we_orv, we_and1, we_or1, we_and, we_or, we_tup, we_frz, we_alc, we_blt, we_call, we_meth, we_sl, we_isi, we_isi2, we_dsp, we_newd, wt_val, wt_cmp, wt_not, wt_andv, wt_orv, wt_and1, wt_or1, wt_and, wt_or, wa_nil, wa_cons, wn_disp, wn_lis, wn_comp, wi_rng, wi_enu, wi_one, wo_non, wo_some, ws_nop, ws_nil, ws_brk, ws_cnt, ws_retn, ws_exp, ws_ret, ws_raise, ws_ite, ws_set, ws_set, ws_setcF, ws_setcT, ws_par, ws_put, ws_seq, ws_for, ws_while, ws_try, List.getElem?_cons_zero, List.getElem?_cons_succ, Option.some.injEq, exists_eq_left', exists_eq_left, true_implies, forall_const, Bool.true_eq_false, Bool.false_eq_true, false_implies, and_true, true_and, setT, List.set_cons_zero, List.set_cons_succ, List.length_cons, List.length_nil, setAll, Option.bind_some, asB, Bool.not_true, Bool.not_false, o_add_i, o_add_s, o_add_t, o_add_l, o_sub_i, o_mul_i, o_fdv_i, o_mod_i, o_pow_i, o_neg_i, o_lt_i, o_le_i, o_gt_i, o_ge_i, o_is_n, o_isn_n, o_eq_d, o_ne_d, o_in_d, o_nin_d, bx_len, bx_int, bx_min, bx_max, bx_sum, bx_all, bx_any, bx_tuple, b_min_i, b_max_i, b_int_i, b_int_b, b_len_t, b_len_l, b_len_c, b_len_s, b_tup_t, b_tup_l, b_lis_t, b_lis_l, isa_tab, ty_non, ty_bl, ty_int, ty_str, ty_tup, ty_lst, ty_scr, ty_dic, tr_non, tr_bl, tr_int, tr_tup, tr_lst, tr_scr, nm_set, tp_set, ix_t, ix_l, ix_c, at_0, at_1, at_2, at_3, at_m, at_m1, range1, items_t, items_l, items_s, enu_t, enu_l, bel_int, bel_str, bel_bl, bel_non, out_bl, out_int, out_str, out_non, out_nx, mk_ends, mk_join, g_ends, fEq_i, fEq_b, rI_l, rI_d, rS_d, rL_l, r_pop, r_pop1, r_app, rr_q, rr_ix, rr_ixs, rr_len, rr_tup, rr_tru, rr_mkp, rr_mka, rr_pop, rr_app, rr_put, ok_put, out_rt, out_ex, Prod.mk.injEq, exists_eq, exists_and_left, exists_eq', bne_self_eq_false, Int.reduceBNe, Bool.true_and, and_assoc, Rs.ok.injEq, D.tup.injEq, D.bl.injEq, D.int.injEq, List.cons.injEq, enter_bs, D.bel, D.bels, List.cons_append, List.nil_append, startS, List.map_cons, List.map_nil, List.replicate_succ, List.replicate_zero, Nat.reduceSub, Nat.reduceAdd, Bool.or_false, Bool.false_or, Bool.or_true, Bool.true_or, Bool.and_true, Bool.and_false, Bool.true_and, Bool.false_and, if_true, if_false, reduceCtorEq, Bool.not_eq_true, decide_eq_true_eq, decide_eq_false_iff_not, and_self, onok, onokS, onnx, ite_true, ite_false, reduceIte, c_ll_tup, isInt, hh, eq_ll, decide_true, fEq_i, Int.reduceAdd, Int.cast_ofNat_Int]
  | l m =>
    have hh : 1 ≤ m := hh
    simp only [f_is_hold, b_is_hold, Ho.d, onok_ok, onok_ex, onokS_ok, onokS_ex, onnx_nx, onnx_rt, onnx_bk, onnx_ct, onnx_ex, wc_ok, we_v, we_c, we_g, we_bin, we_cmp, we_ix, we_neg, we_not, we_ite, we_andv, we_orv, we_and1, we_or1, we_and, we_or, we_tup, we_frz, we_alc, we_blt, we_call, we_meth, we_sl, we_isi, we_isi2, we_dsp, we_newd, wt_val, wt_cmp, wt_not, wt_andv, wt_orv, wt_and1, wt_or1, wt_and, wt_or, wa_nil, wa_cons, wn_disp, wn_lis, wn_comp, wi_rng, wi_enu, wi_one, wo_non, wo_some, ws_nop, ws_nil, ws_brk, ws_cnt, ws_retn, ws_exp, ws_ret, ws_raise, ws_ite, ws_set, ws_set, ws_setcF, ws_setcT, ws_par, ws_put, ws_seq, ws_for, ws_while, ws_try, List.getElem?_cons_zero, List.getElem?_cons_succ, Option.some.injEq, exists_eq_left', exists_eq_left, true_implies, forall_const, Bool.true_eq_false, Bool.false_eq_true, false_implies, and_true, true_and, setT, List.set_cons_zero, List.set_cons_succ, List.length_cons, List.length_nil, setAll, Option.bind_some, asB, Bool.not_true, Bool.not_false, o_add_i, o_add_s, o_add_t, o_add_l, o_sub_i, o_mul_i, o_fdv_i, o_mod_i, o_pow_i, o_neg_i, o_lt_i, o_le_i, o_gt_i, o_ge_i, o_is_n, o_isn_n, o_eq_d, o_ne_d, o_in_d, o_nin_d, bx_len, bx_int, bx_min, bx_max, bx_sum, bx_all, bx_any, bx_tuple, b_min_i, b_max_i, b_int_i, b_int_b, b_len_t, b_len_l, b_len_c, b_len_s, b_tup_t, b_tup_l, b_lis_t, b_lis_l, isa_tab, ty_non, ty_bl, ty_int, ty_str, ty_tup, ty_lst, ty_scr, ty_dic, tr_non, tr_bl, tr_int, tr_tup, tr_lst, tr_scr, nm_set, tp_set, ix_t, ix_l, ix_c, at_0, at_1, at_2, at_3, at_m, at_m1, range1, items_t, items_l, items_s, enu_t, enu_l, bel_int, bel_str, bel_bl, bel_non, out_bl, out_int, out_str, out_non, out_nx, mk_ends, mk_join, g_ends, fEq_i, fEq_b, rI_l, rI_d, rS_d, rL_l, r_pop, r_pop1, r_app, rr_q, rr_ix, rr_ixs, rr_len, rr_tup, rr_tru, rr_mkp, rr_mka, rr_pop, rr_app, rr_put, ok_put, out_rt, out_ex, Prod.mk.injEq, exists_eq, exists_and_left, exists_eq', bne_self_eq_false, Int.reduceBNe, Bool.true_and, and_assoc, Rs.ok.injEq, D.tup.injEq, D.bl.injEq, D.int.injEq, List.cons.injEq, enter_bs, D.bel, D.bels, List.cons_append, List.nil_append, startS, List.map_cons, List.map_nil, List.replicate_succ, List.replicate_zero, Nat.reduceSub, Nat.reduceAdd, Bool.or_false, Bool.false_or, Bool.or_true, Bool.true_or, Bool.and_true, Bool.and_false, Bool.true_and, Bool.false_and, if_true, if_false, reduceCtorEq, Bool.not_eq_true, decide_eq_true_eq, decide_eq_false_iff_not, and_self, onok, onokS, onnx, ite_true, ite_false, reduceIte, c_ll_lst, isInt, hh, eq_ll, decide_true, fEq_i, Int.reduceAdd, Int.cast_ofNat_Int]
theorem c_plain_h (n : Nat) (h : Ho) (st : Sto) : md.call (n + 2) 4 [h.d] st = some (.ok h.k, st) := by
  have a : ∀ (m : Int), ∀ x ∈ [D.str ⟨#[108, 105, 110, 101]⟩, D.int m], atomB x = true := fun m x hx => by
    rcases List.mem_cons.mp hx with rfl | hx
    · rfl
    · rcases List.mem_cons.mp hx with rfl | hx
      · rfl
      · cases hx
  cases h with
  | en => exact c_plain_atom n _ rfl st
  | i m => exact c_plain_atom n _ rfl st
  | t m => exact c_plain_t n _ (a m) (by show 2 < 99999; decide) st
  | l m => exact c_plain_l n _ (a m) (by show 2 < 99999; decide) st
theorem bel_k (h : Ho) : h.k.bel 0 = true := by cases h <;> rfl
theorem bel_d (h : Ho) : h.d.bel 0 = true := by cases h <;> rfl
theorem c_check_hold (n : Nat) (h : Ho) (hh : h.Ok) (st : Sto) : md.call (n + 3) 6 [h.d] st = some (.ok h.k, st) := by
  refine run_to (d := ⟨_, _, _, f_check_hold⟩) rfl rfl ?_
  simp only [f_check_hold, b_check_hold, onok_ok, onok_ex, onokS_ok, onokS_ex, onnx_nx, onnx_rt, onnx_bk, onnx_ct, onnx_ex, wc_ok, we_v, we_c, we_g, we_bin, we_cmp, we_ix, we_neg, we_not, we_ite, we_andv, we_orv, we_and1, we_or1, we_and, we_or, we_tup, we_frz, we_alc, we_blt, we_call, we_meth, we_sl, we_isi, we_isi2, we_dsp, we_newd, wt_val, wt_cmp, wt_not, wt_andv, wt_orv, wt_and1, wt_or1, wt_and, wt_or, wa_nil, wa_cons, wn_disp, wn_lis, wn_comp, wi_rng, wi_enu, wi_one, wo_non, wo_some, ws_nop, ws_nil, ws_brk, ws_cnt, ws_retn, ws_exp, ws_ret, ws_raise, ws_ite, ws_set, ws_set, ws_setcF, ws_setcT, ws_par, ws_put, ws_seq, ws_for, ws_while, ws_try, List.getElem?_cons_zero, List.getElem?_cons_succ, Option.some.injEq, exists_eq_left', exists_eq_left, true_implies, forall_const, Bool.true_eq_false, Bool.false_eq_true, false_implies, and_true, true_and, setT, List.set_cons_zero, List.set_cons_succ, List.length_cons, List.length_nil, setAll, Option.bind_some, asB, Bool.not_true, Bool.not_false, o_add_i, o_add_s, o_add_t, o_add_l, o_sub_i, o_mul_i, o_fdv_i, o_mod_i, o_pow_i, o_neg_i, o_lt_i, o_le_i, o_gt_i, o_ge_i, o_is_n, o_isn_n, o_eq_d, o_ne_d, o_in_d, o_nin_d, bx_len, bx_int, bx_min, bx_max, bx_sum, bx_all, bx_any, bx_tuple, b_min_i, b_max_i, b_int_i, b_int_b, b_len_t, b_len_l, b_len_c, b_len_s, b_tup_t, b_tup_l, b_lis_t, b_lis_l, isa_tab, ty_non, ty_bl, ty_int, ty_str, ty_tup, ty_lst, ty_scr, ty_dic, tr_non, tr_bl, tr_int, tr_tup, tr_lst, tr_scr, nm_set, tp_set, ix_t, ix_l, ix_c, at_0, at_1, at_2, at_3, at_m, at_m1, range1, items_t, items_l, items_s, enu_t, enu_l, bel_int, bel_str, bel_bl, bel_non, out_bl, out_int, out_str, out_non, out_nx, mk_ends, mk_join, g_ends, fEq_i, fEq_b, rI_l, rI_d, rS_d, rL_l, r_pop, r_pop1, r_app, rr_q, rr_ix, rr_ixs, rr_len, rr_tup, rr_tru, rr_mkp, rr_mka, rr_pop, rr_app, rr_put, ok_put, out_rt, out_ex, Prod.mk.injEq, exists_eq, exists_and_left, exists_eq', bne_self_eq_false, Int.reduceBNe, Bool.true_and, and_assoc, Rs.ok.injEq, D.tup.injEq, D.bl.injEq, D.int.injEq, List.cons.injEq, enter_bs, D.bel, D.bels, List.cons_append, List.nil_append, startS, List.map_cons, List.map_nil, List.replicate_succ, List.replicate_zero, Nat.reduceSub, Nat.reduceAdd, Bool.or_false, Bool.false_or, Bool.or_true, Bool.true_or, Bool.and_true, Bool.and_false, Bool.true_and, Bool.false_and, if_true, if_false, reduceCtorEq, Bool.not_eq_true, decide_eq_true_eq, decide_eq_false_iff_not, and_self, onok, onokS, onnx, ite_true, ite_false, reduceIte, c_is_hold _ _ hh, c_plain_h, bel_k]
theorem c_bound (n : Nat) (h : Ho) (st : Sto) : md.call (n + 1) 10 [h.k] st = some (.ok (.int h.n), st) := by
  refine run_to (d := ⟨_, _, _, f_hold_bound⟩) rfl rfl ?_
  cases h <;> simp only [f_hold_bound, b_hold_bound, Ho.k, Ho.n, onok_ok, onok_ex, onokS_ok, onokS_ex, onnx_nx, onnx_rt, onnx_bk, onnx_ct, onnx_ex, wc_ok, we_v, we_c, we_g, we_bin, we_cmp, we_ix, we_neg, we_not, we_ite, we_andv, we_orv, we_and1, we_or1, we_and, we_or, we_tup, we_frz, we_alc, we_blt, we_call, we_meth, we_sl, we_isi, we_isi2, we_dsp, we_newd, wt_val, wt_cmp, wt_not, wt_andv, wt_orv, wt_and1, wt_or1, wt_and, wt_or, wa_nil, wa_cons, wn_disp, wn_lis, wn_comp, wi_rng, wi_enu, wi_one, wo_non, wo_some, ws_nop, ws_nil, ws_brk, ws_cnt, ws_retn, ws_exp, ws_ret, ws_raise, ws_ite, ws_set, ws_set, ws_setcF, ws_setcT, ws_par, ws_put, ws_seq, ws_for, ws_while, ws_try, List.getElem?_cons_zero, List.getElem?_cons_succ, Option.some.injEq, exists_eq_left', exists_eq_left, true_implies, forall_const, Bool.true_eq_false, Bool.false_eq_true, false_implies, and_true, true_and, setT, List.set_cons_zero, List.set_cons_succ, List.length_cons, List.length_nil, setAll, Option.bind_some, asB, Bool.not_true, Bool.not_false, o_add_i, o_add_s, o_add_t, o_add_l, o_sub_i, o_mul_i, o_fdv_i, o_mod_i, o_pow_i, o_neg_i, o_lt_i, o_le_i, o_gt_i, o_ge_i, o_is_n, o_isn_n, o_eq_d, o_ne_d, o_in_d, o_nin_d, bx_len, bx_int, bx_min, bx_max, bx_sum, bx_all, bx_any, bx_tuple, b_min_i, b_max_i, b_int_i, b_int_b, b_len_t, b_len_l, b_len_c, b_len_s, b_tup_t, b_tup_l, b_lis_t, b_lis_l, isa_tab, ty_non, ty_bl, ty_int, ty_str, ty_tup, ty_lst, ty_scr, ty_dic, tr_non, tr_bl, tr_int, tr_tup, tr_lst, tr_scr, nm_set, tp_set, ix_t, ix_l, ix_c, at_0, at_1, at_2, at_3, at_m, at_m1, range1, items_t, items_l, items_s, enu_t, enu_l, bel_int, bel_str, bel_bl, bel_non, out_bl, out_int, out_str, out_non, out_nx, mk_ends, mk_join, g_ends, fEq_i, fEq_b, rI_l, rI_d, rS_d, rL_l, r_pop, r_pop1, r_app, rr_q, rr_ix, rr_ixs, rr_len, rr_tup, rr_tru, rr_mkp, rr_mka, rr_pop, rr_app, rr_put, ok_put, out_rt, out_ex, Prod.mk.injEq, exists_eq, exists_and_left, exists_eq', bne_self_eq_false, Int.reduceBNe, Bool.true_and, and_assoc, Rs.ok.injEq, D.tup.injEq, D.bl.injEq, D.int.injEq, List.cons.injEq, enter_bs, D.bel, D.bels, List.cons_append, List.nil_append, startS, List.map_cons, List.map_nil, List.replicate_succ, List.replicate_zero, Nat.reduceSub, Nat.reduceAdd, Bool.or_false, Bool.false_or, Bool.or_true, Bool.true_or, Bool.and_true, Bool.and_false, Bool.true_and, Bool.false_and, if_true, if_false, reduceCtorEq, Bool.not_eq_true, decide_eq_true_eq, decide_eq_false_iff_not, and_self, onok, onokS, onnx, ite_true, ite_false, reduceIte]
theorem c_isline_s (n : Nat) (x : Str) (st : Sto) : md.call (n + 1) 11 [.str x] st = some (.ok (.bl false), st) := by
  refine run_to (d := ⟨_, _, _, f_is_line_hold⟩) rfl rfl ?_
  simp only [f_is_line_hold, b_is_line_hold, onok_ok, onok_ex, onokS_ok, onokS_ex, onnx_nx, onnx_rt, onnx_bk, onnx_ct, onnx_ex, wc_ok, we_v, we_c, we_g, we_bin, we_cmp, we_ix, we_neg, we_not, we_ite, we_andv, we_orv, we_and1, we_or1, we_and, we_or, we_tup, we_frz, we_alc, we_blt, we_call, we_meth, we_sl, we_isi, we_isi2, we_dsp, we_newd, wt_val, wt_cmp, wt_not, wt_andv, wt_orv, wt_and1, wt_or1, wt_and, wt_or, wa_nil, wa_cons, wn_disp, wn_lis, wn_comp, wi_rng, wi_enu, wi_one, wo_non, wo_some, ws_nop, ws_nil, ws_brk, ws_cnt, ws_retn, ws_exp, ws_ret, ws_raise, ws_ite, ws_set, ws_set, ws_setcF, ws_setcT, ws_par, ws_put, ws_seq, ws_for, ws_while, ws_try, List.getElem?_cons_zero, List.getElem?_cons_succ, Option.some.injEq, exists_eq_left', exists_eq_left, true_implies, forall_const, Bool.true_eq_false, Bool.false_eq_true, false_implies, and_true, true_and, setT, List.set_cons_zero, List.set_cons_succ, List.length_cons, List.length_nil, setAll, Option.bind_some, asB, Bool.not_true, Bool.not_false, o_add_i, o_add_s, o_add_t, o_add_l, o_sub_i, o_mul_i, o_fdv_i, o_mod_i, o_pow_i, o_neg_i, o_lt_i, o_le_i, o_gt_i, o_ge_i, o_is_n, o_isn_n, o_eq_d, o_ne_d, o_in_d, o_nin_d, bx_len, bx_int, bx_min, bx_max, bx_sum, bx_all, bx_any, bx_tuple, b_min_i, b_max_i, b_int_i, b_int_b, b_len_t, b_len_l, b_len_c, b_len_s, b_tup_t, b_tup_l, b_lis_t, b_lis_l, isa_tab, ty_non, ty_bl, ty_int, ty_str, ty_tup, ty_lst, ty_scr, ty_dic, tr_non, tr_bl, tr_int, tr_tup, tr_lst, tr_scr, nm_set, tp_set, ix_t, ix_l, ix_c, at_0, at_1, at_2, at_3, at_m, at_m1, range1, items_t, items_l, items_s, enu_t, enu_l, bel_int, bel_str, bel_bl, bel_non, out_bl, out_int, out_str, out_non, out_nx, mk_ends, mk_join, g_ends, fEq_i, fEq_b, rI_l, rI_d, rS_d, rL_l, r_pop, r_pop1, r_app, rr_q, rr_ix, rr_ixs, rr_len, rr_tup, rr_tru, rr_mkp, rr_mka, rr_pop, rr_app, rr_put, ok_put, out_rt, out_ex, Prod.mk.injEq, exists_eq, exists_and_left, exists_eq', bne_self_eq_false, Int.reduceBNe, Bool.true_and, and_assoc, Rs.ok.injEq, D.tup.injEq, D.bl.injEq, D.int.injEq, List.cons.injEq, enter_bs, D.bel, D.bels, List.cons_append, List.nil_append, startS, List.map_cons, List.map_nil, List.replicate_succ, List.replicate_zero, Nat.reduceSub, Nat.reduceAdd, Bool.or_false, Bool.false_or, Bool.or_true, Bool.true_or, Bool.and_true, Bool.and_false, Bool.true_and, Bool.false_and, if_true, if_false, reduceCtorEq, Bool.not_eq_true, decide_eq_true_eq, decide_eq_false_iff_not, and_self, onok, onokS, onnx, ite_true, ite_false, reduceIte]
theorem cb_i (n : Nat) (m : Int) (st : Sto) : md.call (n + 1) 10 [.int m] st = some (.ok (.int m), st) := c_bound n (.i m) st
theorem cb_t (n : Nat) (m : Int) (st : Sto) : md.call (n + 1) 10 [.tup [.str ⟨#[108, 105, 110, 101]⟩, .int m]] st = some (.ok (.int m), st) := c_bound n (.t m) st
theorem c_say (n : Nat) (h : Ho) (k z : Int) (e : Bool) (st : Sto) : md.call (n + 2) 12 [h.k, .int k, .int z, .bl e] st = some (.ok (out2 (h.say k z e)), st) := by
  refine run_to (d := ⟨_, _, _, f_say_size⟩) rfl rfl ?_
  cases h with
  | en => simp only [f_say_size, b_say_size, Ho.k, Ho.say, out2, onok_ok, onok_ex, onokS_ok, onokS_ex, onnx_nx, onnx_rt, onnx_bk, onnx_ct, onnx_ex, wc_ok, we_v, we_c, we_g, we_bin, we_cmp, we_ix, we_neg, we_not, we_ite, we_andv, we_orv, we_and1, we_or1, we_and, we_or, we_tup, we_frz, we_alc, we_blt, we_call, we_meth, we_sl, we_isi, we_isi2, we_dsp, we_newd, wt_val, wt_cmp, wt_not, wt_andv, wt_orv, wt_and1, wt_or1, wt_and, wt_or, wa_nil, wa_cons, wn_disp, wn_lis, wn_comp, wi_rng, wi_enu, wi_one, wo_non, wo_some, ws_nop, ws_nil, ws_brk, ws_cnt, ws_retn, ws_exp, ws_ret, ws_raise, ws_ite, ws_set, ws_set, ws_setcF, ws_setcT, ws_par, ws_put, ws_seq, ws_for, ws_while, ws_try, List.getElem?_cons_zero, List.getElem?_cons_succ, Option.some.injEq, exists_eq_left', exists_eq_left, true_implies, forall_const, Bool.true_eq_false, Bool.false_eq_true, false_implies, and_true, true_and, setT, List.set_cons_zero, List.set_cons_succ, List.length_cons, List.length_nil, setAll, Option.bind_some, asB, Bool.not_true, Bool.not_false, o_add_i, o_add_s, o_add_t, o_add_l, o_sub_i, o_mul_i, o_fdv_i, o_mod_i, o_pow_i, o_neg_i, o_lt_i, o_le_i, o_gt_i, o_ge_i, o_is_n, o_isn_n, o_eq_d, o_ne_d, o_in_d, o_nin_d, bx_len, bx_int, bx_min, bx_max, bx_sum, bx_all, bx_any, bx_tuple, b_min_i, b_max_i, b_int_i, b_int_b, b_len_t, b_len_l, b_len_c, b_len_s, b_tup_t, b_tup_l, b_lis_t, b_lis_l, isa_tab, ty_non, ty_bl, ty_int, ty_str, ty_tup, ty_lst, ty_scr, ty_dic, tr_non, tr_bl, tr_int, tr_tup, tr_lst, tr_scr, nm_set, tp_set, ix_t, ix_l, ix_c, at_0, at_1, at_2, at_3, at_m, at_m1, range1, items_t, items_l, items_s, enu_t, enu_l, bel_int, bel_str, bel_bl, bel_non, out_bl, out_int, out_str, out_non, out_nx, mk_ends, mk_join, g_ends, fEq_i, fEq_b, rI_l, rI_d, rS_d, rL_l, r_pop, r_pop1, r_app, rr_q, rr_ix, rr_ixs, rr_len, rr_tup, rr_tru, rr_mkp, rr_mka, rr_pop, rr_app, rr_put, ok_put, out_rt, out_ex, Prod.mk.injEq, exists_eq, exists_and_left, exists_eq', bne_self_eq_false, Int.reduceBNe, Bool.true_and, and_assoc, Rs.ok.injEq, D.tup.injEq, D.bl.injEq, D.int.injEq, List.cons.injEq, enter_bs, D.bel, D.bels, List.cons_append, List.nil_append, startS, List.map_cons, List.map_nil, List.replicate_succ, List.replicate_zero, Nat.reduceSub, Nat.reduceAdd, Bool.or_false, Bool.false_or, Bool.or_true, Bool.true_or, Bool.and_true, Bool.and_false, Bool.true_and, Bool.false_and, if_true, if_false, reduceCtorEq, Bool.not_eq_true, decide_eq_true_eq, decide_eq_false_iff_not, and_self, onok, onokS, onnx, ite_true, ite_false, reduceIte]
  | i m =>
    simp only [f_say_size, b_say_size, Ho.k, Ho.say, out2, onok_ok, onok_ex, onokS_ok, onokS_ex, onnx_nx, onnx_rt, onnx_bk, onnx_ct, onnx_ex, wc_ok, we_v, we_c, we_g, we_bin, we_cmp, we_ix, we_neg, we_not, we_ite, we_andv, we_orv, we_and1, we_or1, we_and, we_or, we_tup, we_frz, we_alc, we_blt, we_call, we_meth, we_sl, we_isi, we_isi2, we_dsp, we_newd, wt_val, wt_cmp, wt_not, wt_andv, wt_orv, wt_and1, wt_or1, wt_and, wt_or, wa_nil, wa_cons, wn_disp, wn_lis, wn_comp, wi_rng, wi_enu, wi_one, wo_non, wo_some, ws_nop, ws_nil, ws_brk, ws_cnt, ws_retn, ws_exp, ws_ret, ws_raise, ws_ite, ws_set, ws_set, ws_setcF, ws_setcT, ws_par, ws_put, ws_seq, ws_for, ws_while, ws_try, List.getElem?_cons_zero, List.getElem?_cons_succ, Option.some.injEq, exists_eq_left', exists_eq_left, true_implies, forall_const, Bool.true_eq_false, Bool.false_eq_true, false_implies, and_true, true_and, setT, List.set_cons_zero, List.set_cons_succ, List.length_cons, List.length_nil, setAll, Option.bind_some, asB, Bool.not_true, Bool.not_false, o_add_i, o_add_s, o_add_t, o_add_l, o_sub_i, o_mul_i, o_fdv_i, o_mod_i, o_pow_i, o_neg_i, o_lt_i, o_le_i, o_gt_i, o_ge_i, o_is_n, o_isn_n, o_eq_d, o_ne_d, o_in_d, o_nin_d, bx_len, bx_int, bx_min, bx_max, bx_sum, bx_all, bx_any, bx_tuple, b_min_i, b_max_i, b_int_i, b_int_b, b_len_t, b_len_l, b_len_c, b_len_s, b_tup_t, b_tup_l, b_lis_t, b_lis_l, isa_tab, ty_non, ty_bl, ty_int, ty_str, ty_tup, ty_lst, ty_scr, ty_dic, tr_non, tr_bl, tr_int, tr_tup, tr_lst, tr_scr, nm_set, tp_set, ix_t, ix_l, ix_c, at_0, at_1, at_2, at_3, at_m, at_m1, range1, items_t, items_l, items_s, enu_t, enu_l, bel_int, bel_str, bel_bl, bel_non, out_bl, out_int, out_str, out_non, out_nx, mk_ends, mk_join, g_ends, fEq_i, fEq_b, rI_l, rI_d, rS_d, rL_l, r_pop, r_pop1, r_app, rr_q, rr_ix, rr_ixs, rr_len, rr_tup, rr_tru, rr_mkp, rr_mka, rr_pop, rr_app, rr_put, ok_put, out_rt, out_ex, Prod.mk.injEq, exists_eq, exists_and_left, exists_eq', bne_self_eq_false, Int.reduceBNe, Bool.true_and, and_assoc, Rs.ok.injEq, D.tup.injEq, D.bl.injEq, D.int.injEq, List.cons.injEq, enter_bs, D.bel, D.bels, List.cons_append, List.nil_append, startS, List.map_cons, List.map_nil, List.replicate_succ, List.replicate_zero, Nat.reduceSub, Nat.reduceAdd, Bool.or_false, Bool.false_or, Bool.or_true, Bool.true_or, Bool.and_true, Bool.and_false, Bool.true_and, Bool.false_and, if_true, if_false, reduceCtorEq, Bool.not_eq_true, decide_eq_true_eq, decide_eq_false_iff_not, and_self, onok, onokS, onnx, ite_true, ite_false, reduceIte, cb_i, c_isline_i]
    by_cases q : m ≤ k + z <;> cases e <;> simp [q]
  | t m =>
    simp only [f_say_size, b_say_size, Ho.k, Ho.say, out2, onok_ok, onok_ex, onokS_ok, onokS_ex, onnx_nx, onnx_rt, onnx_bk, onnx_ct, onnx_ex, wc_ok, we_v, we_c, we_g, we_bin, we_cmp, we_ix, we_neg, we_not, we_ite, we_andv, we_orv, we_and1, we_or1, we_and, we_or, we_tup, we_frz, we_alc, we_blt, we_call, we_meth, we_sl, we_isi, we_isi2, we_dsp, we_newd, wt_val, wt_cmp, wt_not, wt_andv, wt_orv, wt_and1, wt_or1, wt_and, wt_or, wa_nil, wa_cons, wn_disp, wn_lis, wn_comp, wi_rng, wi_enu, wi_one, wo_non, wo_some, ws_nop, ws_nil, ws_brk, ws_cnt, ws_retn, ws_exp, ws_ret, ws_raise, ws_ite, ws_set, ws_set, ws_setcF, ws_setcT, ws_par, ws_put, ws_seq, ws_for, ws_while, ws_try, List.getElem?_cons_zero, List.getElem?_cons_succ, Option.some.injEq, exists_eq_left', exists_eq_left, true_implies, forall_const, Bool.true_eq_false, Bool.false_eq_true, false_implies, and_true, true_and, setT, List.set_cons_zero, List.set_cons_succ, List.length_cons, List.length_nil, setAll, Option.bind_some, asB, Bool.not_true, Bool.not_false, o_add_i, o_add_s, o_add_t, o_add_l, o_sub_i, o_mul_i, o_fdv_i, o_mod_i, o_pow_i, o_neg_i, o_lt_i, o_le_i, o_gt_i, o_ge_i, o_is_n, o_isn_n, o_eq_d, o_ne_d, o_in_d, o_nin_d, bx_len, bx_int, bx_min, bx_max, bx_sum, bx_all, bx_any, bx_tuple, b_min_i, b_max_i, b_int_i, b_int_b, b_len_t, b_len_l, b_len_c, b_len_s, b_tup_t, b_tup_l, b_lis_t, b_lis_l, isa_tab, ty_non, ty_bl, ty_int, ty_str, ty_tup, ty_lst, ty_scr, ty_dic, tr_non, tr_bl, tr_int, tr_tup, tr_lst, tr_scr, nm_set, tp_set, ix_t, ix_l, ix_c, at_0, at_1, at_2, at_3, at_m, at_m1, range1, items_t, items_l, items_s, enu_t, enu_l, bel_int, bel_str, bel_bl, bel_non, out_bl, out_int, out_str, out_non, out_nx, mk_ends, mk_join, g_ends, fEq_i, fEq_b, rI_l, rI_d, rS_d, rL_l, r_pop, r_pop1, r_app, rr_q, rr_ix, rr_ixs, rr_len, rr_tup, rr_tru, rr_mkp, rr_mka, rr_pop, rr_app, rr_put, ok_put, out_rt, out_ex, Prod.mk.injEq, exists_eq, exists_and_left, exists_eq', bne_self_eq_false, Int.reduceBNe, Bool.true_and, and_assoc, Rs.ok.injEq, D.tup.injEq, D.bl.injEq, D.int.injEq, List.cons.injEq, enter_bs, D.bel, D.bels, List.cons_append, List.nil_append, startS, List.map_cons, List.map_nil, List.replicate_succ, List.replicate_zero, Nat.reduceSub, Nat.reduceAdd, Bool.or_false, Bool.false_or, Bool.or_true, Bool.true_or, Bool.and_true, Bool.and_false, Bool.true_and, Bool.false_and, if_true, if_false, reduceCtorEq, Bool.not_eq_true, decide_eq_true_eq, decide_eq_false_iff_not, and_self, onok, onokS, onnx, ite_true, ite_false, reduceIte, cb_t, c_isline_t]
    by_cases q : m ≤ k + z <;> cases e <;> simp [q]
  | l m =>
    simp only [f_say_size, b_say_size, Ho.k, Ho.say, out2, onok_ok, onok_ex, onokS_ok, onokS_ex, onnx_nx, onnx_rt, onnx_bk, onnx_ct, onnx_ex, wc_ok, we_v, we_c, we_g, we_bin, we_cmp, we_ix, we_neg, we_not, we_ite, we_andv, we_orv, we_and1, we_or1, we_and, we_or, we_tup, we_frz, we_alc, we_blt, we_call, we_meth, we_sl, we_isi, we_isi2, we_dsp, we_newd, wt_val, wt_cmp, wt_not, wt_andv, wt_orv, wt_and1, wt_or1, wt_and, wt_or, wa_nil, wa_cons, wn_disp, wn_lis, wn_comp, wi_rng, wi_enu, wi_one, wo_non, wo_some, ws_nop, ws_nil, ws_brk, ws_cnt, ws_retn, ws_exp, ws_ret, ws_raise, ws_ite, ws_set, ws_set, ws_setcF, ws_setcT, ws_par, ws_put, ws_seq, ws_for, ws_while, ws_try, List.getElem?_cons_zero, List.getElem?_cons_succ, Option.some.injEq, exists_eq_left', exists_eq_left, true_implies, forall_const, Bool.true_eq_false, Bool.false_eq_true, false_implies, and_true, true_and, setT, List.set_cons_zero, List.set_cons_succ, List.length_cons, List.length_nil, setAll, Option.bind_some, asB, Bool.not_true, Bool.not_false, o_add_i, o_add_s, o_add_t, o_add_l, o_sub_i, o_mul_i, o_fdv_i, o_mod_i, o_pow_i, o_neg_i, o_lt_i, o_le_i, o_gt_i, o_ge_i, o_is_n, o_isn_n, o_eq_d, o_ne_d, o_in_d, o_nin_d, bx_len, bx_int, bx_min, bx_max, bx_sum, bx_all, bx_any, bx_tuple, b_min_i, b_max_i, b_int_i, b_int_b, b_len_t, b_len_l, b_len_c, b_len_s, b_tup_t, b_tup_l, b_lis_t, b_lis_l, isa_tab, ty_non, ty_bl, ty_int, ty_str, ty_tup, ty_lst, ty_scr, ty_dic, tr_non, tr_bl, tr_int, tr_tup, tr_lst, tr_scr, nm_set, tp_set, ix_t, ix_l, ix_c, at_0, at_1, at_2, at_3, at_m, at_m1, range1, items_t, items_l, items_s, enu_t, enu_l, bel_int, bel_str, bel_bl, bel_non, out_bl, out_int, out_str, out_non, out_nx, mk_ends, mk_join, g_ends, fEq_i, fEq_b, rI_l, rI_d, rS_d, rL_l, r_pop, r_pop1, r_app, rr_q, rr_ix, rr_ixs, rr_len, rr_tup, rr_tru, rr_mkp, rr_mka, rr_pop, rr_app, rr_put, ok_put, out_rt, out_ex, Prod.mk.injEq, exists_eq, exists_and_left, exists_eq', bne_self_eq_false, Int.reduceBNe, Bool.true_and, and_assoc, Rs.ok.injEq, D.tup.injEq, D.bl.injEq, D.int.injEq, List.cons.injEq, enter_bs, D.bel, D.bels, List.cons_append, List.nil_append, startS, List.map_cons, List.map_nil, List.replicate_succ, List.replicate_zero, Nat.reduceSub, Nat.reduceAdd, Bool.or_false, Bool.false_or, Bool.or_true, Bool.true_or, Bool.and_true, Bool.and_false, Bool.true_and, Bool.false_and, if_true, if_false, reduceCtorEq, Bool.not_eq_true, decide_eq_true_eq, decide_eq_false_iff_not, and_self, onok, onokS, onnx, ite_true, ite_false, reduceIte, cb_t, c_isline_t]
    by_cases q : m ≤ k + z <;> cases e <;> simp [q]
theorem c_check_held (n : Nat) (h : Ho) (k : Int) (hk : h.may k) (st : Sto) : md.call (n + 2) 14 [h.k, .int k] st = some (.ok (.int k), st) := by
  refine run_to (d := ⟨_, _, _, f_check_held_size⟩) rfl rfl ?_
  cases h with
  | en =>
    have hk : 0 ≤ k := hk
    have h1 : ¬ k < 0 := by omega
    simp only [f_check_held_size, b_check_held_size, Ho.k, onok_ok, onok_ex, onokS_ok, onokS_ex, onnx_nx, onnx_rt, onnx_bk, onnx_ct, onnx_ex, wc_ok, we_v, we_c, we_g, we_bin, we_cmp, we_ix, we_neg, we_not, we_ite, we_andv, we_orv, we_and1, we_or1, we_and, we_or, we_tup, we_frz, we_alc, we_blt, we_call, we_meth, we_sl, we_isi, we_isi2, we_dsp, we_newd, wt_val, wt_cmp, wt_not, wt_andv, wt_orv, wt_and1, wt_or1, wt_and, wt_or, wa_nil, wa_cons, wn_disp, wn_lis, wn_comp, wi_rng, wi_enu, wi_one, wo_non, wo_some, ws_nop, ws_nil, ws_brk, ws_cnt, ws_retn, ws_exp, ws_ret, ws_raise, ws_ite, ws_set, ws_set, ws_setcF, ws_setcT, ws_par, ws_put, ws_seq, ws_for, ws_while, ws_try, List.getElem?_cons_zero, List.getElem?_cons_succ, Option.some.injEq, exists_eq_left', exists_eq_left, true_implies, forall_const, Bool.true_eq_false, Bool.false_eq_true, false_implies, and_true, true_and, setT, List.set_cons_zero, List.set_cons_succ, List.length_cons, List.length_nil, setAll, Option.bind_some, asB, Bool.not_true, Bool.not_false, o_add_i, o_add_s, o_add_t, o_add_l, o_sub_i, o_mul_i, o_fdv_i, o_mod_i, o_pow_i, o_neg_i, o_lt_i, o_le_i, o_gt_i, o_ge_i, o_is_n, o_isn_n, o_eq_d, o_ne_d, o_in_d, o_nin_d, bx_len, bx_int, bx_min, bx_max, bx_sum, bx_all, bx_any, bx_tuple, b_min_i, b_max_i, b_int_i, b_int_b, b_len_t, b_len_l, b_len_c, b_len_s, b_tup_t, b_tup_l, b_lis_t, b_lis_l, isa_tab, ty_non, ty_bl, ty_int, ty_str, ty_tup, ty_lst, ty_scr, ty_dic, tr_non, tr_bl, tr_int, tr_tup, tr_lst, tr_scr, nm_set, tp_set, ix_t, ix_l, ix_c, at_0, at_1, at_2, at_3, at_m, at_m1, range1, items_t, items_l, items_s, enu_t, enu_l, bel_int, bel_str, bel_bl, bel_non, out_bl, out_int, out_str, out_non, out_nx, mk_ends, mk_join, g_ends, fEq_i, fEq_b, rI_l, rI_d, rS_d, rL_l, r_pop, r_pop1, r_app, rr_q, rr_ix, rr_ixs, rr_len, rr_tup, rr_tru, rr_mkp, rr_mka, rr_pop, rr_app, rr_put, ok_put, out_rt, out_ex, Prod.mk.injEq, exists_eq, exists_and_left, exists_eq', bne_self_eq_false, Int.reduceBNe, Bool.true_and, and_assoc, Rs.ok.injEq, D.tup.injEq, D.bl.injEq, D.int.injEq, List.cons.injEq, enter_bs, D.bel, D.bels, List.cons_append, List.nil_append, startS, List.map_cons, List.map_nil, List.replicate_succ, List.replicate_zero, Nat.reduceSub, Nat.reduceAdd, Bool.or_false, Bool.false_or, Bool.or_true, Bool.true_or, Bool.and_true, Bool.and_false, Bool.true_and, Bool.false_and, if_true, if_false, reduceCtorEq, Bool.not_eq_true, decide_eq_true_eq, decide_eq_false_iff_not, and_self, onok, onokS, onnx, ite_true, ite_false, reduceIte, isInt, h1, decide_false]
  | i m =>
    obtain ⟨h0, h2⟩ : 0 ≤ k ∧ k ≤ m - 1 := hk
    have h1 : ¬ k < 0 := by omega
    have h3 : ¬ m - 1 < k := by omega
    simp only [f_check_held_size, b_check_held_size, Ho.k, onok_ok, onok_ex, onokS_ok, onokS_ex, onnx_nx, onnx_rt, onnx_bk, onnx_ct, onnx_ex, wc_ok, we_v, we_c, we_g, we_bin, we_cmp, we_ix, we_neg, we_not, we_ite, we_andv, we_orv, we_and1, we_or1, we_and, we_or, we_tup, we_frz, we_alc, we_blt, we_call, we_meth, we_sl, we_isi, we_isi2, we_dsp, we_newd, wt_val, wt_cmp, wt_not, wt_andv, wt_orv, wt_and1, wt_or1, wt_and, wt_or, wa_nil, wa_cons, wn_disp, wn_lis, wn_comp, wi_rng, wi_enu, wi_one, wo_non, wo_some, ws_nop, ws_nil, ws_brk, ws_cnt, ws_retn, ws_exp, ws_ret, ws_raise, ws_ite, ws_set, ws_set, ws_setcF, ws_setcT, ws_par, ws_put, ws_seq, ws_for, ws_while, ws_try, List.getElem?_cons_zero, List.getElem?_cons_succ, Option.some.injEq, exists_eq_left', exists_eq_left, true_implies, forall_const, Bool.true_eq_false, Bool.false_eq_true, false_implies, and_true, true_and, setT, List.set_cons_zero, List.set_cons_succ, List.length_cons, List.length_nil, setAll, Option.bind_some, asB, Bool.not_true, Bool.not_false, o_add_i, o_add_s, o_add_t, o_add_l, o_sub_i, o_mul_i, o_fdv_i, o_mod_i, o_pow_i, o_neg_i, o_lt_i, o_le_i, o_gt_i, o_ge_i, o_is_n, o_isn_n, o_eq_d, o_ne_d, o_in_d, o_nin_d, bx_len, bx_int, bx_min, bx_max, bx_sum, bx_all, bx_any, bx_tuple, b_min_i, b_max_i, b_int_i, b_int_b, b_len_t, b_len_l, b_len_c, b_len_s, b_tup_t, b_tup_l, b_lis_t, b_lis_l, isa_tab, ty_non, ty_bl, ty_int, ty_str, ty_tup, ty_lst, ty_scr, ty_dic, tr_non, tr_bl, tr_int, tr_tup, tr_lst, tr_scr, nm_set, tp_set, ix_t, ix_l, ix_c, at_0, at_1, at_2, at_3, at_m, at_m1, range1, items_t, items_l, items_s, enu_t, enu_l, bel_int, bel_str, bel_bl, bel_non, out_bl, out_int, out_str, out_non, out_nx, mk_ends, mk_join, g_ends, fEq_i, fEq_b, rI_l, rI_d, rS_d, rL_l, r_pop, r_pop1, r_app, rr_q, rr_ix, rr_ixs, rr_len, rr_tup, rr_tru, rr_mkp, rr_mka, rr_pop, rr_app, rr_put, ok_put, out_rt, out_ex, Prod.mk.injEq, exists_eq, exists_and_left, exists_eq', bne_self_eq_false, Int.reduceBNe, Bool.true_and, and_assoc, Rs.ok.injEq, D.tup.injEq, D.bl.injEq, D.int.injEq, List.cons.injEq, enter_bs, D.bel, D.bels, List.cons_append, List.nil_append, startS, List.map_cons, List.map_nil, List.replicate_succ, List.replicate_zero, Nat.reduceSub, Nat.reduceAdd, Bool.or_false, Bool.false_or, Bool.or_true, Bool.true_or, Bool.and_true, Bool.and_false, Bool.true_and, Bool.false_and, if_true, if_false, reduceCtorEq, Bool.not_eq_true, decide_eq_true_eq, decide_eq_false_iff_not, and_self, onok, onokS, onnx, ite_true, ite_false, reduceIte, isInt, h1, h3, decide_false, cb_i]
  | t m =>
    obtain ⟨h0, h2⟩ : 0 ≤ k ∧ k ≤ m - 1 := hk
    have h1 : ¬ k < 0 := by omega
    have h3 : ¬ m - 1 < k := by omega
    simp only [f_check_held_size, b_check_held_size, Ho.k, onok_ok, onok_ex, onokS_ok, onokS_ex, onnx_nx, onnx_rt, onnx_bk, onnx_ct, onnx_ex, wc_ok, we_v, we_c, we_g, we_bin, we_cmp, we_ix, we_neg, we_not, we_ite, we_andv, we_orv, we_and1, we_or1, we_and, we_or, we_tup, we_frz, we_alc, we_blt, we_call, we_meth, we_sl, we_isi, we_isi2, we_dsp, we_newd, wt_val, wt_cmp, wt_not, wt_andv, wt_orv, wt_and1, wt_or1, wt_and, wt_or, wa_nil, wa_cons, wn_disp, wn_lis, wn_comp, wi_rng, wi_enu, wi_one, wo_non, wo_some, ws_nop, ws_nil, ws_brk, ws_cnt, ws_retn, ws_exp, ws_ret, ws_raise, ws_ite, ws_set, ws_set, ws_setcF, ws_setcT, ws_par, ws_put, ws_seq, ws_for, ws_while, ws_try, List.getElem?_cons_zero, List.getElem?_cons_succ, Option.some.injEq, exists_eq_left', exists_eq_left, true_implies, forall_const, Bool.true_eq_false, Bool.false_eq_true, false_implies, and_true, true_and, setT, List.set_cons_zero, List.set_cons_succ, List.length_cons, List.length_nil, setAll, Option.bind_some, asB, Bool.not_true, Bool.not_false, o_add_i, o_add_s, o_add_t, o_add_l, o_sub_i, o_mul_i, o_fdv_i, o_mod_i, o_pow_i, o_neg_i, o_lt_i, o_le_i, o_gt_i, o_ge_i, o_is_n, o_isn_n, o_eq_d, o_ne_d, o_in_d, o_nin_d, bx_len, bx_int, bx_min, bx_max, bx_sum, bx_all, bx_any, bx_tuple, b_min_i, b_max_i, b_int_i, b_int_b, b_len_t, b_len_l, b_len_c, b_len_s, b_tup_t, b_tup_l, b_lis_t, b_lis_l, isa_tab, ty_non, ty_bl, ty_int, ty_str, ty_tup, ty_lst, ty_scr, ty_dic, tr_non, tr_bl, tr_int, tr_tup, tr_lst, tr_scr, nm_set, tp_set, ix_t, ix_l, ix_c, at_0, at_1, at_2, at_3, at_m, at_m1, range1, items_t, items_l, items_s, enu_t, enu_l, bel_int, bel_str, bel_bl, bel_non, out_bl, out_int, out_str, out_non, out_nx, mk_ends, mk_join, g_ends, fEq_i, fEq_b, rI_l, rI_d, rS_d, rL_l, r_pop, r_pop1, r_app, rr_q, rr_ix, rr_ixs, rr_len, rr_tup, rr_tru, rr_mkp, rr_mka, rr_pop, rr_app, rr_put, ok_put, out_rt, out_ex, Prod.mk.injEq, exists_eq, exists_and_left, exists_eq', bne_self_eq_false, Int.reduceBNe, Bool.true_and, and_assoc, Rs.ok.injEq, D.tup.injEq, D.bl.injEq, D.int.injEq, List.cons.injEq, enter_bs, D.bel, D.bels, List.cons_append, List.nil_append, startS, List.map_cons, List.map_nil, List.replicate_succ, List.replicate_zero, Nat.reduceSub, Nat.reduceAdd, Bool.or_false, Bool.false_or, Bool.or_true, Bool.true_or, Bool.and_true, Bool.and_false, Bool.true_and, Bool.false_and, if_true, if_false, reduceCtorEq, Bool.not_eq_true, decide_eq_true_eq, decide_eq_false_iff_not, and_self, onok, onokS, onnx, ite_true, ite_false, reduceIte, isInt, h1, h3, decide_false, cb_t]
  | l m =>
    obtain ⟨h0, h2⟩ : 0 ≤ k ∧ k ≤ m - 1 := hk
    have h1 : ¬ k < 0 := by omega
    have h3 : ¬ m - 1 < k := by omega
    simp only [f_check_held_size, b_check_held_size, Ho.k, onok_ok, onok_ex, onokS_ok, onokS_ex, onnx_nx, onnx_rt, onnx_bk, onnx_ct, onnx_ex, wc_ok, we_v, we_c, we_g, we_bin, we_cmp, we_ix, we_neg, we_not, we_ite, we_andv, we_orv, we_and1, we_or1, we_and, we_or, we_tup, we_frz, we_alc, we_blt, we_call, we_meth, we_sl, we_isi, we_isi2, we_dsp, we_newd, wt_val, wt_cmp, wt_not, wt_andv, wt_orv, wt_and1, wt_or1, wt_and, wt_or, wa_nil, wa_cons, wn_disp, wn_lis, wn_comp, wi_rng, wi_enu, wi_one, wo_non, wo_some, ws_nop, ws_nil, ws_brk, ws_cnt, ws_retn, ws_exp, ws_ret, ws_raise, ws_ite, ws_set, ws_set, ws_setcF, ws_setcT, ws_par, ws_put, ws_seq, ws_for, ws_while, ws_try, List.getElem?_cons_zero, List.getElem?_cons_succ, Option.some.injEq, exists_eq_left', exists_eq_left, true_implies, forall_const, Bool.true_eq_false, Bool.false_eq_true, false_implies, and_true, true_and, setT, List.set_cons_zero, List.set_cons_succ, List.length_cons, List.length_nil, setAll, Option.bind_some, asB, Bool.not_true, Bool.not_false, o_add_i, o_add_s, o_add_t, o_add_l, o_sub_i, o_mul_i, o_fdv_i, o_mod_i, o_pow_i, o_neg_i, o_lt_i, o_le_i, o_gt_i, o_ge_i, o_is_n, o_isn_n, o_eq_d, o_ne_d, o_in_d, o_nin_d, bx_len, bx_int, bx_min, bx_max, bx_sum, bx_all, bx_any, bx_tuple, b_min_i, b_max_i, b_int_i, b_int_b, b_len_t, b_len_l, b_len_c, b_len_s, b_tup_t, b_tup_l, b_lis_t, b_lis_l, isa_tab, ty_non, ty_bl, ty_int, ty_str, ty_tup, ty_lst, ty_scr, ty_dic, tr_non, tr_bl, tr_int, tr_tup, tr_lst, tr_scr, nm_set, tp_set, ix_t, ix_l, ix_c, at_0, at_1, at_2, at_3, at_m, at_m1, range1, items_t, items_l, items_s, enu_t, enu_l, bel_int, bel_str, bel_bl, bel_non, out_bl, out_int, out_str, out_non, out_nx, mk_ends, mk_join, g_ends, fEq_i, fEq_b, rI_l, rI_d, rS_d, rL_l, r_pop, r_pop1, r_app, rr_q, rr_ix, rr_ixs, rr_len, rr_tup, rr_tru, rr_mkp, rr_mka, rr_pop, rr_app, rr_put, ok_put, out_rt, out_ex, Prod.mk.injEq, exists_eq, exists_and_left, exists_eq', bne_self_eq_false, Int.reduceBNe, Bool.true_and, and_assoc, Rs.ok.injEq, D.tup.injEq, D.bl.injEq, D.int.injEq, List.cons.injEq, enter_bs, D.bel, D.bels, List.cons_append, List.nil_append, startS, List.map_cons, List.map_nil, List.replicate_succ, List.replicate_zero, Nat.reduceSub, Nat.reduceAdd, Bool.or_false, Bool.false_or, Bool.or_true, Bool.true_or, Bool.and_true, Bool.and_false, Bool.true_and, Bool.false_and, if_true, if_false, reduceCtorEq, Bool.not_eq_true, decide_eq_true_eq, decide_eq_false_iff_not, and_self, onok, onokS, onnx, ite_true, ite_false, reduceIte, isInt, h1, h3, decide_false, cb_t]
theorem c_check_text (n : Nat) (w : Wd) (h : w.Ok) (st : Sto) : md.call (n + 2) 5 [.str w.s] st = some (.ok (.str w.s), st) := by
  refine run_to (d := ⟨_, _, _, f_check_text⟩) rfl rfl ?_
  simp only [f_check_text, b_check_text, onok_ok, onok_ex, onokS_ok, onokS_ex, onnx_nx, onnx_rt, onnx_bk, onnx_ct, onnx_ex, wc_ok, we_v, we_c, we_g, we_bin, we_cmp, we_ix, we_neg, we_not, we_ite, we_andv, we_orv, we_and1, we_or1, we_and, we_or, we_tup, we_frz, we_alc, we_blt, we_call, we_meth, we_sl, we_isi, we_isi2, we_dsp, we_newd, wt_val, wt_cmp, wt_not, wt_andv, wt_orv, wt_and1, wt_or1, wt_and, wt_or, wa_nil, wa_cons, wn_disp, wn_lis, wn_comp, wi_rng, wi_enu, wi_one, wo_non, wo_some, ws_nop, ws_nil, ws_brk, ws_cnt, ws_retn, ws_exp, ws_ret, ws_raise, ws_ite, ws_set, ws_set, ws_setcF, ws_setcT, ws_par, ws_put, ws_seq, ws_for, ws_while, ws_try, List.getElem?_cons_zero, List.getElem?_cons_succ, Option.some.injEq, exists_eq_left', exists_eq_left, true_implies, forall_const, Bool.true_eq_false, Bool.false_eq_true, false_implies, and_true, true_and, setT, List.set_cons_zero, List.set_cons_succ, List.length_cons, List.length_nil, setAll, Option.bind_some, asB, Bool.not_true, Bool.not_false, o_add_i, o_add_s, o_add_t, o_add_l, o_sub_i, o_mul_i, o_fdv_i, o_mod_i, o_pow_i, o_neg_i, o_lt_i, o_le_i, o_gt_i, o_ge_i, o_is_n, o_isn_n, o_eq_d, o_ne_d, o_in_d, o_nin_d, bx_len, bx_int, bx_min, bx_max, bx_sum, bx_all, bx_any, bx_tuple, b_min_i, b_max_i, b_int_i, b_int_b, b_len_t, b_len_l, b_len_c, b_len_s, b_tup_t, b_tup_l, b_lis_t, b_lis_l, isa_tab, ty_non, ty_bl, ty_int, ty_str, ty_tup, ty_lst, ty_scr, ty_dic, tr_non, tr_bl, tr_int, tr_tup, tr_lst, tr_scr, nm_set, tp_set, ix_t, ix_l, ix_c, at_0, at_1, at_2, at_3, at_m, at_m1, range1, items_t, items_l, items_s, enu_t, enu_l, bel_int, bel_str, bel_bl, bel_non, out_bl, out_int, out_str, out_non, out_nx, mk_ends, mk_join, g_ends, fEq_i, fEq_b, rI_l, rI_d, rS_d, rL_l, r_pop, r_pop1, r_app, rr_q, rr_ix, rr_ixs, rr_len, rr_tup, rr_tru, rr_mkp, rr_mka, rr_pop, rr_app, rr_put, ok_put, out_rt, out_ex, Prod.mk.injEq, exists_eq, exists_and_left, exists_eq', bne_self_eq_false, Int.reduceBNe, Bool.true_and, and_assoc, Rs.ok.injEq, D.tup.injEq, D.bl.injEq, D.int.injEq, List.cons.injEq, enter_bs, D.bel, D.bels, List.cons_append, List.nil_append, startS, List.map_cons, List.map_nil, List.replicate_succ, List.replicate_zero, Nat.reduceSub, Nat.reduceAdd, Bool.or_false, Bool.false_or, Bool.or_true, Bool.true_or, Bool.and_true, Bool.and_false, Bool.true_and, Bool.false_and, if_true, if_false, reduceCtorEq, Bool.not_eq_true, decide_eq_true_eq, decide_eq_false_iff_not, and_self, onok, onokS, onnx, ite_true, ite_false, reduceIte, c_is_text _ _ h]
theorem c_text_size (n : Nat) (w : Wd) (h : w.Ok) (st : Sto) : md.call (n + 3) 8 [.str w.s] st = some (.ok (.int (w.cs.length : Int)), st) := by
  refine run_to (d := ⟨_, _, _, f_text_size⟩) rfl rfl ?_
  simp only [f_text_size, b_text_size, onok_ok, onok_ex, onokS_ok, onokS_ex, onnx_nx, onnx_rt, onnx_bk, onnx_ct, onnx_ex, wc_ok, we_v, we_c, we_g, we_bin, we_cmp, we_ix, we_neg, we_not, we_ite, we_andv, we_orv, we_and1, we_or1, we_and, we_or, we_tup, we_frz, we_alc, we_blt, we_call, we_meth, we_sl, we_isi, we_isi2, we_dsp, we_newd, wt_val, wt_cmp, wt_not, wt_andv, wt_orv, wt_and1, wt_or1, wt_and, wt_or, wa_nil, wa_cons, wn_disp, wn_lis, wn_comp, wi_rng, wi_enu, wi_one, wo_non, wo_some, ws_nop, ws_nil, ws_brk, ws_cnt, ws_retn, ws_exp, ws_ret, ws_raise, ws_ite, ws_set, ws_set, ws_setcF, ws_setcT, ws_par, ws_put, ws_seq, ws_for, ws_while, ws_try, List.getElem?_cons_zero, List.getElem?_cons_succ, Option.some.injEq, exists_eq_left', exists_eq_left, true_implies, forall_const, Bool.true_eq_false, Bool.false_eq_true, false_implies, and_true, true_and, setT, List.set_cons_zero, List.set_cons_succ, List.length_cons, List.length_nil, setAll, Option.bind_some, asB, Bool.not_true, Bool.not_false, o_add_i, o_add_s, o_add_t, o_add_l, o_sub_i, o_mul_i, o_fdv_i, o_mod_i, o_pow_i, o_neg_i, o_lt_i, o_le_i, o_gt_i, o_ge_i, o_is_n, o_isn_n, o_eq_d, o_ne_d, o_in_d, o_nin_d, bx_len, bx_int, bx_min, bx_max, bx_sum, bx_all, bx_any, bx_tuple, b_min_i, b_max_i, b_int_i, b_int_b, b_len_t, b_len_l, b_len_c, b_len_s, b_tup_t, b_tup_l, b_lis_t, b_lis_l, isa_tab, ty_non, ty_bl, ty_int, ty_str, ty_tup, ty_lst, ty_scr, ty_dic, tr_non, tr_bl, tr_int, tr_tup, tr_lst, tr_scr, nm_set, tp_set, ix_t, ix_l, ix_c, at_0, at_1, at_2, at_3, at_m, at_m1, range1, items_t, items_l, items_s, enu_t, enu_l, bel_int, bel_str, bel_bl, bel_non, out_bl, out_int, out_str, out_non, out_nx, mk_ends, mk_join, g_ends, fEq_i, fEq_b, rI_l, rI_d, rS_d, rL_l, r_pop, r_pop1, r_app, rr_q, rr_ix, rr_ixs, rr_len, rr_tup, rr_tru, rr_mkp, rr_mka, rr_pop, rr_app, rr_put, ok_put, out_rt, out_ex, Prod.mk.injEq, exists_eq, exists_and_left, exists_eq', bne_self_eq_false, Int.reduceBNe, Bool.true_and, and_assoc, Rs.ok.injEq, D.tup.injEq, D.bl.injEq, D.int.injEq, List.cons.injEq, enter_bs, D.bel, D.bels, List.cons_append, List.nil_append, startS, List.map_cons, List.map_nil, List.replicate_succ, List.replicate_zero, Nat.reduceSub, Nat.reduceAdd, Bool.or_false, Bool.false_or, Bool.or_true, Bool.true_or, Bool.and_true, Bool.and_false, Bool.true_and, Bool.false_and, if_true, if_false, reduceCtorEq, Bool.not_eq_true, decide_eq_true_eq, decide_eq_false_iff_not, and_self, onok, onokS, onnx, ite_true, ite_false, reduceIte, c_check_text _ _ h, b_len_s h.short, w.len]
theorem c_ends_line (n : Nat) (w : Wd) (h : w.Ok) (st : Sto) : md.call (n + 3) 9 [.str w.s] st = some (.ok (.bl w.b), st) := by
  refine run_to (d := ⟨_, _, _, f_ends_line⟩) rfl rfl ?_
  simp only [f_ends_line, b_ends_line, onok_ok, onok_ex, onokS_ok, onokS_ex, onnx_nx, onnx_rt, onnx_bk, onnx_ct, onnx_ex, wc_ok, we_v, we_c, we_g, we_bin, we_cmp, we_ix, we_neg, we_not, we_ite, we_andv, we_orv, we_and1, we_or1, we_and, we_or, we_tup, we_frz, we_alc, we_blt, we_call, we_meth, we_sl, we_isi, we_isi2, we_dsp, we_newd, wt_val, wt_cmp, wt_not, wt_andv, wt_orv, wt_and1, wt_or1, wt_and, wt_or, wa_nil, wa_cons, wn_disp, wn_lis, wn_comp, wi_rng, wi_enu, wi_one, wo_non, wo_some, ws_nop, ws_nil, ws_brk, ws_cnt, ws_retn, ws_exp, ws_ret, ws_raise, ws_ite, ws_set, ws_set, ws_setcF, ws_setcT, ws_par, ws_put, ws_seq, ws_for, ws_while, ws_try, List.getElem?_cons_zero, List.getElem?_cons_succ, Option.some.injEq, exists_eq_left', exists_eq_left, true_implies, forall_const, Bool.true_eq_false, Bool.false_eq_true, false_implies, and_true, true_and, setT, List.set_cons_zero, List.set_cons_succ, List.length_cons, List.length_nil, setAll, Option.bind_some, asB, Bool.not_true, Bool.not_false, o_add_i, o_add_s, o_add_t, o_add_l, o_sub_i, o_mul_i, o_fdv_i, o_mod_i, o_pow_i, o_neg_i, o_lt_i, o_le_i, o_gt_i, o_ge_i, o_is_n, o_isn_n, o_eq_d, o_ne_d, o_in_d, o_nin_d, bx_len, bx_int, bx_min, bx_max, bx_sum, bx_all, bx_any, bx_tuple, b_min_i, b_max_i, b_int_i, b_int_b, b_len_t, b_len_l, b_len_c, b_len_s, b_tup_t, b_tup_l, b_lis_t, b_lis_l, isa_tab, ty_non, ty_bl, ty_int, ty_str, ty_tup, ty_lst, ty_scr, ty_dic, tr_non, tr_bl, tr_int, tr_tup, tr_lst, tr_scr, nm_set, tp_set, ix_t, ix_l, ix_c, at_0, at_1, at_2, at_3, at_m, at_m1, range1, items_t, items_l, items_s, enu_t, enu_l, bel_int, bel_str, bel_bl, bel_non, out_bl, out_int, out_str, out_non, out_nx, mk_ends, mk_join, g_ends, fEq_i, fEq_b, rI_l, rI_d, rS_d, rL_l, r_pop, r_pop1, r_app, rr_q, rr_ix, rr_ixs, rr_len, rr_tup, rr_tru, rr_mkp, rr_mka, rr_pop, rr_app, rr_put, ok_put, out_rt, out_ex, Prod.mk.injEq, exists_eq, exists_and_left, exists_eq', bne_self_eq_false, Int.reduceBNe, Bool.true_and, and_assoc, Rs.ok.injEq, D.tup.injEq, D.bl.injEq, D.int.injEq, List.cons.injEq, enter_bs, D.bel, D.bels, List.cons_append, List.nil_append, startS, List.map_cons, List.map_nil, List.replicate_succ, List.replicate_zero, Nat.reduceSub, Nat.reduceAdd, Bool.or_false, Bool.false_or, Bool.or_true, Bool.true_or, Bool.and_true, Bool.and_false, Bool.true_and, Bool.false_and, if_true, if_false, reduceCtorEq, Bool.not_eq_true, decide_eq_true_eq, decide_eq_false_iff_not, and_self, onok, onokS, onnx, ite_true, ite_false, reduceIte, c_check_text _ _ h, h.ends]
theorem out_o2 {st : Sto} {r : Int × Bool} : outF false st st.enter (.rt (out2 r)) = some (.ok (out2 r), st) := out_rt rfl
theorem c_said (n : Nat) (h : Ho) (hh : h.Ok) (k : Int) (hk : h.may k) (w : Wd) (hw : w.Ok) (st : Sto) : md.call (n + 4) 15 [h.d, .int k, .str w.s] st = some (.ok (out2 (h.say k w.cs.length w.b)), st) := by
  refine run_to (d := ⟨_, _, _, f_said⟩) rfl rfl ?_
  simp only [f_said, b_said, onok_ok, onok_ex, onokS_ok, onokS_ex, onnx_nx, onnx_rt, onnx_bk, onnx_ct, onnx_ex, wc_ok, we_v, we_c, we_g, we_bin, we_cmp, we_ix, we_neg, we_not, we_ite, we_andv, we_orv, we_and1, we_or1, we_and, we_or, we_tup, we_frz, we_alc, we_blt, we_call, we_meth, we_sl, we_isi, we_isi2, we_dsp, we_newd, wt_val, wt_cmp, wt_not, wt_andv, wt_orv, wt_and1, wt_or1, wt_and, wt_or, wa_nil, wa_cons, wn_disp, wn_lis, wn_comp, wi_rng, wi_enu, wi_one, wo_non, wo_some, ws_nop, ws_nil, ws_brk, ws_cnt, ws_retn, ws_exp, ws_ret, ws_raise, ws_ite, ws_set, ws_set, ws_setcF, ws_setcT, ws_par, ws_put, ws_seq, ws_for, ws_while, ws_try, List.getElem?_cons_zero, List.getElem?_cons_succ, Option.some.injEq, exists_eq_left', exists_eq_left, true_implies, forall_const, Bool.true_eq_false, Bool.false_eq_true, false_implies, and_true, true_and, setT, List.set_cons_zero, List.set_cons_succ, List.length_cons, List.length_nil, setAll, Option.bind_some, asB, Bool.not_true, Bool.not_false, o_add_i, o_add_s, o_add_t, o_add_l, o_sub_i, o_mul_i, o_fdv_i, o_mod_i, o_pow_i, o_neg_i, o_lt_i, o_le_i, o_gt_i, o_ge_i, o_is_n, o_isn_n, o_eq_d, o_ne_d, o_in_d, o_nin_d, bx_len, bx_int, bx_min, bx_max, bx_sum, bx_all, bx_any, bx_tuple, b_min_i, b_max_i, b_int_i, b_int_b, b_len_t, b_len_l, b_len_c, b_len_s, b_tup_t, b_tup_l, b_lis_t, b_lis_l, isa_tab, ty_non, ty_bl, ty_int, ty_str, ty_tup, ty_lst, ty_scr, ty_dic, tr_non, tr_bl, tr_int, tr_tup, tr_lst, tr_scr, nm_set, tp_set, ix_t, ix_l, ix_c, at_0, at_1, at_2, at_3, at_m, at_m1, range1, items_t, items_l, items_s, enu_t, enu_l, bel_int, bel_str, bel_bl, bel_non, out_bl, out_int, out_str, out_non, out_nx, mk_ends, mk_join, g_ends, fEq_i, fEq_b, rI_l, rI_d, rS_d, rL_l, r_pop, r_pop1, r_app, rr_q, rr_ix, rr_ixs, rr_len, rr_tup, rr_tru, rr_mkp, rr_mka, rr_pop, rr_app, rr_put, ok_put, out_rt, out_ex, Prod.mk.injEq, exists_eq, exists_and_left, exists_eq', bne_self_eq_false, Int.reduceBNe, Bool.true_and, and_assoc, Rs.ok.injEq, D.tup.injEq, D.bl.injEq, D.int.injEq, List.cons.injEq, enter_bs, D.bel, D.bels, List.cons_append, List.nil_append, startS, List.map_cons, List.map_nil, List.replicate_succ, List.replicate_zero, Nat.reduceSub, Nat.reduceAdd, Bool.or_false, Bool.false_or, Bool.or_true, Bool.true_or, Bool.and_true, Bool.and_false, Bool.true_and, Bool.false_and, if_true, if_false, reduceCtorEq, Bool.not_eq_true, decide_eq_true_eq, decide_eq_false_iff_not, and_self, onok, onokS, onnx, ite_true, ite_false, reduceIte, c_check_hold _ _ hh, c_check_held _ _ _ hk, c_check_text _ _ hw, b_len_s hw.short, w.len, hw.ends, c_say, out_o2]
end K00

set_option Elab.async false
set_option linter.all false
set_option maxRecDepth 100000
set_option maxHeartbeats 0
namespace K00
open PySem Hb L2
def strD (w : Wd) : D := .str w.s
def pairD (w : Wd) : D := .tup [.int (w.cs.length : Int), .bl w.b]
theorem numb_cons {k : Nat} {x : D} {xs : List D} : numb k (x :: xs) = .tup [.int (k : Nat), x] :: numb (k + 1) xs := rfl
theorem c_check_texts_go (n : Nat) (ws : List Wd) (hw : ∀ w ∈ ws, w.Ok) (hl : ws.length ≤ 1000) (d : D) (hd : d = .tup (ws.map strD) ∨ d = .lst (ws.map strD)) (st : Sto) : md.call (n + 2) 7 [d] st = some (.ok (.lst (ws.map pairD)), st) := by
  refine run_to (d := ⟨_, _, _, f_check_texts⟩) rfl rfl ?_
  have e1 : md.call (n + 1) 2 [d] st.enter = some (.ok (.bl true), st.enter) := by
    rcases hd with rfl | rfl
    · exact c_ll_tup _ _ _
    · exact c_ll_lst _ _ _
  have e2 : enuOf [d] st.enter = some (numb 0 (ws.map strD), fun _ => true) := by rcases hd with rfl | rfl <;> rfl
  have e3 : itemsOf d st.enter = some (ws.map strD, fun _ => true) := by rcases hd with rfl | rfl <;> rfl
  have hls : ws.length ≤ sizeLine := Nat.le_trans hl (by decide)
  have bel : ∀ us : List Wd, D.bels 0 (us.map pairD) = true := fun us => by
    rw [D.bels_iff]
    intro x hx
    obtain ⟨w, _, rfl⟩ := List.mem_map.mp hx
    rfl
  simp only [f_check_texts, b_check_texts, onok_ok, onok_ex, onokS_ok, onokS_ex, onnx_nx, onnx_rt, onnx_bk, onnx_ct, onnx_ex, wc_ok, we_v, we_c, we_g, we_bin, we_cmp, we_ix, we_neg, we_not, we_ite, we_andv, we_orv, we_and1, we_or1, we_and, we_or, we_tup, we_frz, we_alc, we_blt, we_call, we_meth, we_sl, we_isi, we_isi2, we_dsp, we_newd, wt_val, wt_cmp, wt_not, wt_andv, wt_orv, wt_and1, wt_or1, wt_and, wt_or, wa_nil, wa_cons, wn_disp, wn_lis, wn_comp, wi_rng, wi_enu, wi_one, wo_non, wo_some, ws_nop, ws_nil, ws_brk, ws_cnt, ws_retn, ws_exp, ws_ret, ws_raise, ws_ite, ws_set, ws_set, ws_setcF, ws_setcT, ws_par, ws_put, ws_seq, ws_for, ws_while, ws_try, List.getElem?_cons_zero, List.getElem?_cons_succ, Option.some.injEq, exists_eq_left', exists_eq_left, true_implies, forall_const, Bool.true_eq_false, Bool.false_eq_true, false_implies, and_true, true_and, setT, List.set_cons_zero, List.set_cons_succ, List.length_cons, List.length_nil, setAll, Option.bind_some, asB, Bool.not_true, Bool.not_false, o_add_i, o_add_s, o_add_t, o_add_l, o_sub_i, o_mul_i, o_fdv_i, o_mod_i, o_pow_i, o_neg_i, o_lt_i, o_le_i, o_gt_i, o_ge_i, o_is_n, o_isn_n, o_eq_d, o_ne_d, o_in_d, o_nin_d, bx_len, bx_int, bx_min, bx_max, bx_sum, bx_all, bx_any, bx_tuple, b_min_i, b_max_i, b_int_i, b_int_b, b_len_t, b_len_l, b_len_c, b_len_s, b_tup_t, b_tup_l, b_lis_t, b_lis_l, isa_tab, ty_non, ty_bl, ty_int, ty_str, ty_tup, ty_lst, ty_scr, ty_dic, tr_non, tr_bl, tr_int, tr_tup, tr_lst, tr_scr, nm_set, tp_set, ix_t, ix_l, ix_c, at_0, at_1, at_2, at_3, at_m, at_m1, range1, items_t, items_l, items_s, enu_t, enu_l, bel_int, bel_str, bel_bl, bel_non, out_bl, out_int, out_str, out_non, out_nx, mk_ends, mk_join, g_ends, fEq_i, fEq_b, rI_l, rI_d, rS_d, rL_l, r_pop, r_pop1, r_app, rr_q, rr_ix, rr_ixs, rr_len, rr_tup, rr_tru, rr_mkp, rr_mka, rr_pop, rr_app, rr_put, ok_put, out_rt, out_ex, Prod.mk.injEq, exists_eq, exists_and_left, exists_eq', bne_self_eq_false, Int.reduceBNe, Bool.true_and, and_assoc, Rs.ok.injEq, D.tup.injEq, D.bl.injEq, D.int.injEq, List.cons.injEq, enter_bs, D.bel, D.bels, List.cons_append, List.nil_append, startS, List.map_cons, List.map_nil, List.replicate_succ, List.replicate_zero, Nat.reduceSub, Nat.reduceAdd, Bool.or_false, Bool.false_or, Bool.or_true, Bool.true_or, Bool.and_true, Bool.and_false, Bool.true_and, Bool.false_and, if_true, if_false, reduceCtorEq, Bool.not_eq_true, decide_eq_true_eq, decide_eq_false_iff_not, and_self, onok, onokS, onnx, ite_true, ite_false, reduceIte, e1, e2]
  refine for_inv (fun xs sl s1 => ∃ k us o1 o2, (∀ w ∈ us, w.Ok) ∧ xs = numb k (us.map strD) ∧ sl = [some d, o1, o2] ∧ s1 = st.enter) (fun _ _ _ _ => rfl) ?_ ?_ ⟨0, ws, none, none, hw, rfl, rfl, rfl⟩
  · rintro x r sl s1 ⟨k, us, o1, o2, hu, hx, rfl, rfl⟩
    cases us with
    | nil => cases hx
    | cons u us =>
      rw [List.map_cons, numb_cons] at hx
      obtain ⟨rfl, rfl⟩ := List.cons.inj hx
      refine ⟨_, rfl, ?_⟩
      simp only [strD, onok_ok, onok_ex, onokS_ok, onokS_ex, onnx_nx, onnx_rt, onnx_bk, onnx_ct, onnx_ex, wc_ok, we_v, we_c, we_g, we_bin, we_cmp, we_ix, we_neg, we_not, we_ite, we_andv, we_orv, we_and1, we_or1, we_and, we_or, we_tup, we_frz, we_alc, we_blt, we_call, we_meth, we_sl, we_isi, we_isi2, we_dsp, we_newd, wt_val, wt_cmp, wt_not, wt_andv, wt_orv, wt_and1, wt_or1, wt_and, wt_or, wa_nil, wa_cons, wn_disp, wn_lis, wn_comp, wi_rng, wi_enu, wi_one, wo_non, wo_some, ws_nop, ws_nil, ws_brk, ws_cnt, ws_retn, ws_exp, ws_ret, ws_raise, ws_ite, ws_set, ws_set, ws_setcF, ws_setcT, ws_par, ws_put, ws_seq, ws_for, ws_while, ws_try, List.getElem?_cons_zero, List.getElem?_cons_succ, Option.some.injEq, exists_eq_left', exists_eq_left, true_implies, forall_const, Bool.true_eq_false, Bool.false_eq_true, false_implies, and_true, true_and, setT, List.set_cons_zero, List.set_cons_succ, List.length_cons, List.length_nil, setAll, Option.bind_some, asB, Bool.not_true, Bool.not_false, o_add_i, o_add_s, o_add_t, o_add_l, o_sub_i, o_mul_i, o_fdv_i, o_mod_i, o_pow_i, o_neg_i, o_lt_i, o_le_i, o_gt_i, o_ge_i, o_is_n, o_isn_n, o_eq_d, o_ne_d, o_in_d, o_nin_d, bx_len, bx_int, bx_min, bx_max, bx_sum, bx_all, bx_any, bx_tuple, b_min_i, b_max_i, b_int_i, b_int_b, b_len_t, b_len_l, b_len_c, b_len_s, b_tup_t, b_tup_l, b_lis_t, b_lis_l, isa_tab, ty_non, ty_bl, ty_int, ty_str, ty_tup, ty_lst, ty_scr, ty_dic, tr_non, tr_bl, tr_int, tr_tup, tr_lst, tr_scr, nm_set, tp_set, ix_t, ix_l, ix_c, at_0, at_1, at_2, at_3, at_m, at_m1, range1, items_t, items_l, items_s, enu_t, enu_l, bel_int, bel_str, bel_bl, bel_non, out_bl, out_int, out_str, out_non, out_nx, mk_ends, mk_join, g_ends, fEq_i, fEq_b, rI_l, rI_d, rS_d, rL_l, r_pop, r_pop1, r_app, rr_q, rr_ix, rr_ixs, rr_len, rr_tup, rr_tru, rr_mkp, rr_mka, rr_pop, rr_app, rr_put, ok_put, out_rt, out_ex, Prod.mk.injEq, exists_eq, exists_and_left, exists_eq', bne_self_eq_false, Int.reduceBNe, Bool.true_and, and_assoc, Rs.ok.injEq, D.tup.injEq, D.bl.injEq, D.int.injEq, List.cons.injEq, enter_bs, D.bel, D.bels, List.cons_append, List.nil_append, startS, List.map_cons, List.map_nil, List.replicate_succ, List.replicate_zero, Nat.reduceSub, Nat.reduceAdd, Bool.or_false, Bool.false_or, Bool.or_true, Bool.true_or, Bool.and_true, Bool.and_false, Bool.true_and, Bool.false_and, if_true, if_false, reduceCtorEq, Bool.not_eq_true, decide_eq_true_eq, decide_eq_false_iff_not, and_self, onok, onokS, onnx, ite_true, ite_false, reduceIte, c_is_text _ _ (hu u List.mem_cons_self)]
      exact ⟨k + 1, us, fun w hw => hu w (List.mem_cons_of_mem _ hw), rfl⟩
  · rintro sl s1 ⟨k, us, o1, o2, hu, hx, rfl, rfl⟩
    have e4 : compL (.nm 2) (fun _ => true) (evIf md.tb (md.call (n + 1)) .nil) (evE md.tb (md.call (n + 1)) (.tup (.cons (.blt .len (.cons (.v 2) (.nil))) (.cons (.meth .endswith (.v 2) (.cons (.c (.str ⟨#[47]⟩)) (.nil))) (.nil))))) (wipeS [some d, o1, o2] [2]) (ws.map strD) st.enter = some (ws.map pairD, st.enter) := by
      have q := comp_map (t := .nm 2) (g := fun _ => true) (dt := evIf md.tb (md.call (n + 1)) .nil) (de := evE md.tb (md.call (n + 1)) (.tup (.cons (.blt .len (.cons (.v 2) (.nil))) (.cons (.meth .endswith (.v 2) (.cons (.c (.str ⟨#[47]⟩)) (.nil))) (.nil))))) (sl := wipeS [some d, o1, o2] [2]) (st := st.enter) rfl (fun x => match x with
        | .str z => .tup [.int (z.length : Int), .bl (Txt.endswith z ⟨#[47]⟩)]
        | _ => .non) (xs := ws.map strD) fun x hx => by
          obtain ⟨w, hw', rfl⟩ := List.mem_map.mp hx
          have ok := hw w hw'
          refine ⟨_, rfl, rfl, ?_⟩
          have : wE (evE md.tb (md.call (n + 1)) (.tup (.cons (.blt .len (.cons (.v 2) (.nil))) (.cons (.meth .endswith (.v 2) (.cons (.c (.str ⟨#[47]⟩)) (.nil))) (.nil))))) [some d, o1, some (strD w)] st.enter fun r s => r = .ok (.tup [.int (w.s.length : Int), .bl (Txt.endswith w.s ⟨#[47]⟩)]) ∧ s = st.enter := by
            simp only [strD, onok_ok, onok_ex, onokS_ok, onokS_ex, onnx_nx, onnx_rt, onnx_bk, onnx_ct, onnx_ex, wc_ok, we_v, we_c, we_g, we_bin, we_cmp, we_ix, we_neg, we_not, we_ite, we_andv, we_orv, we_and1, we_or1, we_and, we_or, we_tup, we_frz, we_alc, we_blt, we_call, we_meth, we_sl, we_isi, we_isi2, we_dsp, we_newd, wt_val, wt_cmp, wt_not, wt_andv, wt_orv, wt_and1, wt_or1, wt_and, wt_or, wa_nil, wa_cons, wn_disp, wn_lis, wn_comp, wi_rng, wi_enu, wi_one, wo_non, wo_some, ws_nop, ws_nil, ws_brk, ws_cnt, ws_retn, ws_exp, ws_ret, ws_raise, ws_ite, ws_set, ws_set, ws_setcF, ws_setcT, ws_par, ws_put, ws_seq, ws_for, ws_while, ws_try, List.getElem?_cons_zero, List.getElem?_cons_succ, Option.some.injEq, exists_eq_left', exists_eq_left, true_implies, forall_const, Bool.true_eq_false, Bool.false_eq_true, false_implies, and_true, true_and, setT, List.set_cons_zero, List.set_cons_succ, List.length_cons, List.length_nil, setAll, Option.bind_some, asB, Bool.not_true, Bool.not_false, o_add_i, o_add_s, o_add_t, o_add_l, o_sub_i, o_mul_i, o_fdv_i, o_mod_i, o_pow_i, o_neg_i, o_lt_i, o_le_i, o_gt_i, o_ge_i, o_is_n, o_isn_n, o_eq_d, o_ne_d, o_in_d, o_nin_d, bx_len, bx_int, bx_min, bx_max, bx_sum, bx_all, bx_any, bx_tuple, b_min_i, b_max_i, b_int_i, b_int_b, b_len_t, b_len_l, b_len_c, b_len_s, b_tup_t, b_tup_l, b_lis_t, b_lis_l, isa_tab, ty_non, ty_bl, ty_int, ty_str, ty_tup, ty_lst, ty_scr, ty_dic, tr_non, tr_bl, tr_int, tr_tup, tr_lst, tr_scr, nm_set, tp_set, ix_t, ix_l, ix_c, at_0, at_1, at_2, at_3, at_m, at_m1, range1, items_t, items_l, items_s, enu_t, enu_l, bel_int, bel_str, bel_bl, bel_non, out_bl, out_int, out_str, out_non, out_nx, mk_ends, mk_join, g_ends, fEq_i, fEq_b, rI_l, rI_d, rS_d, rL_l, r_pop, r_pop1, r_app, rr_q, rr_ix, rr_ixs, rr_len, rr_tup, rr_tru, rr_mkp, rr_mka, rr_pop, rr_app, rr_put, ok_put, out_rt, out_ex, Prod.mk.injEq, exists_eq, exists_and_left, exists_eq', bne_self_eq_false, Int.reduceBNe, Bool.true_and, and_assoc, Rs.ok.injEq, D.tup.injEq, D.bl.injEq, D.int.injEq, List.cons.injEq, enter_bs, D.bel, D.bels, List.cons_append, List.nil_append, startS, List.map_cons, List.map_nil, List.replicate_succ, List.replicate_zero, Nat.reduceSub, Nat.reduceAdd, Bool.or_false, Bool.false_or, Bool.or_true, Bool.true_or, Bool.and_true, Bool.and_false, Bool.true_and, Bool.false_and, if_true, if_false, reduceCtorEq, Bool.not_eq_true, decide_eq_true_eq, decide_eq_false_iff_not, and_self, onok, onokS, onnx, ite_true, ite_false, reduceIte, b_len_s ok.short]
          obtain ⟨r, s, e, rfl, rfl⟩ := this
          exact e
      rw [q, List.map_map]
      congr 2
      refine List.map_congr_left fun w hw' => ?_
      have ok := hw w hw'
      show D.tup [.int (w.s.length : Int), .bl (Txt.endswith w.s ⟨#[47]⟩)] = _
      rw [ok.ends, w.len]
      rfl
    simp only [onok_ok, onok_ex, onokS_ok, onokS_ex, onnx_nx, onnx_rt, onnx_bk, onnx_ct, onnx_ex, wc_ok, we_v, we_c, we_g, we_bin, we_cmp, we_ix, we_neg, we_not, we_ite, we_andv, we_orv, we_and1, we_or1, we_and, we_or, we_tup, we_frz, we_alc, we_blt, we_call, we_meth, we_sl, we_isi, we_isi2, we_dsp, we_newd, wt_val, wt_cmp, wt_not, wt_andv, wt_orv, wt_and1, wt_or1, wt_and, wt_or, wa_nil, wa_cons, wn_disp, wn_lis, wn_comp, wi_rng, wi_enu, wi_one, wo_non, wo_some, ws_nop, ws_nil, ws_brk, ws_cnt, ws_retn, ws_exp, ws_ret, ws_raise, ws_ite, ws_set, ws_set, ws_setcF, ws_setcT, ws_par, ws_put, ws_seq, ws_for, ws_while, ws_try, List.getElem?_cons_zero, List.getElem?_cons_succ, Option.some.injEq, exists_eq_left', exists_eq_left, true_implies, forall_const, Bool.true_eq_false, Bool.false_eq_true, false_implies, and_true, true_and, setT, List.set_cons_zero, List.set_cons_succ, List.length_cons, List.length_nil, setAll, Option.bind_some, asB, Bool.not_true, Bool.not_false, o_add_i, o_add_s, o_add_t, o_add_l, o_sub_i, o_mul_i, o_fdv_i, o_mod_i, o_pow_i, o_neg_i, o_lt_i, o_le_i, o_gt_i, o_ge_i, o_is_n, o_isn_n, o_eq_d, o_ne_d, o_in_d, o_nin_d, bx_len, bx_int, bx_min, bx_max, bx_sum, bx_all, bx_any, bx_tuple, b_min_i, b_max_i, b_int_i, b_int_b, b_len_t, b_len_l, b_len_c, b_len_s, b_tup_t, b_tup_l, b_lis_t, b_lis_l, isa_tab, ty_non, ty_bl, ty_int, ty_str, ty_tup, ty_lst, ty_scr, ty_dic, tr_non, tr_bl, tr_int, tr_tup, tr_lst, tr_scr, nm_set, tp_set, ix_t, ix_l, ix_c, at_0, at_1, at_2, at_3, at_m, at_m1, range1, items_t, items_l, items_s, enu_t, enu_l, bel_int, bel_str, bel_bl, bel_non, out_bl, out_int, out_str, out_non, out_nx, mk_ends, mk_join, g_ends, fEq_i, fEq_b, rI_l, rI_d, rS_d, rL_l, r_pop, r_pop1, r_app, rr_q, rr_ix, rr_ixs, rr_len, rr_tup, rr_tru, rr_mkp, rr_mka, rr_pop, rr_app, rr_put, ok_put, out_rt, out_ex, Prod.mk.injEq, exists_eq, exists_and_left, exists_eq', bne_self_eq_false, Int.reduceBNe, Bool.true_and, and_assoc, Rs.ok.injEq, D.tup.injEq, D.bl.injEq, D.int.injEq, List.cons.injEq, enter_bs, D.bel, D.bels, List.cons_append, List.nil_append, startS, List.map_cons, List.map_nil, List.replicate_succ, List.replicate_zero, Nat.reduceSub, Nat.reduceAdd, Bool.or_false, Bool.false_or, Bool.or_true, Bool.true_or, Bool.and_true, Bool.and_false, Bool.true_and, Bool.false_and, if_true, if_false, reduceCtorEq, Bool.not_eq_true, decide_eq_true_eq, decide_eq_false_iff_not, and_self, onok, onokS, onnx, ite_true, ite_false, reduceIte, e3, e4, List.length_map, hls, bel]
theorem c_check_texts_l (n : Nat) (ws : List Wd) (hw : ∀ w ∈ ws, w.Ok) (hl : ws.length ≤ 1000) (st : Sto) : md.call (n + 2) 7 [.lst (ws.map strD)] st = some (.ok (.lst (ws.map pairD)), st) := c_check_texts_go n ws hw hl _ (.inr rfl) st
theorem c_check_texts_t (n : Nat) (ws : List Wd) (hw : ∀ w ∈ ws, w.Ok) (hl : ws.length ≤ 1000) (st : Sto) : md.call (n + 2) 7 [.tup (ws.map strD)] st = some (.ok (.lst (ws.map pairD)), st) := c_check_texts_go n ws hw hl _ (.inl rfl) st
/-- a row of texts said -/
def rowF (h : Ho) : List Wd → Int → Int → Int × Int
  | [], g, m => (g, m)
  | w :: ws, g, m => rowF h ws (h.say g w.cs.length w.b).1 (if (h.say g w.cs.length w.b).2 = true then m + 1 else m)
def outI (r : Int × Int) : D := .tup [.int r.1, .int r.2]
theorem out_oI {st : Sto} {r : Int × Int} : outF false st st.enter (.rt (outI r)) = some (.ok (outI r), st) := out_rt rfl
theorem c_say_sizes (n : Nat) (h : Ho) (k : Int) (ws : List Wd) (st : Sto) : md.call (n + 3) 13 [h.k, .int k, .lst (ws.map pairD)] st = some (.ok (outI (rowF h ws k 0)), st) := by
  refine run_to (d := ⟨_, _, _, f_say_sizes⟩) rfl rfl ?_
  simp only [f_say_sizes, b_say_sizes, onok_ok, onok_ex, onokS_ok, onokS_ex, onnx_nx, onnx_rt, onnx_bk, onnx_ct, onnx_ex, wc_ok, we_v, we_c, we_g, we_bin, we_cmp, we_ix, we_neg, we_not, we_ite, we_andv, we_orv, we_and1, we_or1, we_and, we_or, we_tup, we_frz, we_alc, we_blt, we_call, we_meth, we_sl, we_isi, we_isi2, we_dsp, we_newd, wt_val, wt_cmp, wt_not, wt_andv, wt_orv, wt_and1, wt_or1, wt_and, wt_or, wa_nil, wa_cons, wn_disp, wn_lis, wn_comp, wi_rng, wi_enu, wi_one, wo_non, wo_some, ws_nop, ws_nil, ws_brk, ws_cnt, ws_retn, ws_exp, ws_ret, ws_raise, ws_ite, ws_set, ws_set, ws_setcF, ws_setcT, ws_par, ws_put, ws_seq, ws_for, ws_while, ws_try, List.getElem?_cons_zero, List.getElem?_cons_succ, Option.some.injEq, exists_eq_left', exists_eq_left, true_implies, forall_const, Bool.true_eq_false, Bool.false_eq_true, false_implies, and_true, true_and, setT, List.set_cons_zero, List.set_cons_succ, List.length_cons, List.length_nil, setAll, Option.bind_some, asB, Bool.not_true, Bool.not_false, o_add_i, o_add_s, o_add_t, o_add_l, o_sub_i, o_mul_i, o_fdv_i, o_mod_i, o_pow_i, o_neg_i, o_lt_i, o_le_i, o_gt_i, o_ge_i, o_is_n, o_isn_n, o_eq_d, o_ne_d, o_in_d, o_nin_d, bx_len, bx_int, bx_min, bx_max, bx_sum, bx_all, bx_any, bx_tuple, b_min_i, b_max_i, b_int_i, b_int_b, b_len_t, b_len_l, b_len_c, b_len_s, b_tup_t, b_tup_l, b_lis_t, b_lis_l, isa_tab, ty_non, ty_bl, ty_int, ty_str, ty_tup, ty_lst, ty_scr, ty_dic, tr_non, tr_bl, tr_int, tr_tup, tr_lst, tr_scr, nm_set, tp_set, ix_t, ix_l, ix_c, at_0, at_1, at_2, at_3, at_m, at_m1, range1, items_t, items_l, items_s, enu_t, enu_l, bel_int, bel_str, bel_bl, bel_non, out_bl, out_int, out_str, out_non, out_nx, mk_ends, mk_join, g_ends, fEq_i, fEq_b, rI_l, rI_d, rS_d, rL_l, r_pop, r_pop1, r_app, rr_q, rr_ix, rr_ixs, rr_len, rr_tup, rr_tru, rr_mkp, rr_mka, rr_pop, rr_app, rr_put, ok_put, out_rt, out_ex, Prod.mk.injEq, exists_eq, exists_and_left, exists_eq', bne_self_eq_false, Int.reduceBNe, Bool.true_and, and_assoc, Rs.ok.injEq, D.tup.injEq, D.bl.injEq, D.int.injEq, List.cons.injEq, enter_bs, D.bel, D.bels, List.cons_append, List.nil_append, startS, List.map_cons, List.map_nil, List.replicate_succ, List.replicate_zero, Nat.reduceSub, Nat.reduceAdd, Bool.or_false, Bool.false_or, Bool.or_true, Bool.true_or, Bool.and_true, Bool.and_false, Bool.true_and, Bool.false_and, if_true, if_false, reduceCtorEq, Bool.not_eq_true, decide_eq_true_eq, decide_eq_false_iff_not, and_self, onok, onokS, onnx, ite_true, ite_false, reduceIte]
  refine for_inv (fun xs sl s1 => ∃ us g m o5 o6 o7, xs = us.map pairD ∧ rowF h us g m = rowF h ws k 0 ∧ sl = [some h.k, some (.int k), some (.lst (ws.map pairD)), some (.int g), some (.int m), o5, o6, o7] ∧ s1 = st.enter) (fun _ _ _ _ => rfl) ?_ ?_ ⟨ws, k, 0, none, none, none, rfl, rfl, rfl, rfl⟩
  · rintro x r sl s1 ⟨us, g, m, o5, o6, o7, hx, hr, rfl, rfl⟩
    cases us with
    | nil => cases hx
    | cons u us =>
      obtain ⟨rfl, rfl⟩ := List.cons.inj hx
      refine ⟨_, rfl, ?_⟩
      simp only [pairD, setAll, onok_ok, onok_ex, onokS_ok, onokS_ex, onnx_nx, onnx_rt, onnx_bk, onnx_ct, onnx_ex, wc_ok, we_v, we_c, we_g, we_bin, we_cmp, we_ix, we_neg, we_not, we_ite, we_andv, we_orv, we_and1, we_or1, we_and, we_or, we_tup, we_frz, we_alc, we_blt, we_call, we_meth, we_sl, we_isi, we_isi2, we_dsp, we_newd, wt_val, wt_cmp, wt_not, wt_andv, wt_orv, wt_and1, wt_or1, wt_and, wt_or, wa_nil, wa_cons, wn_disp, wn_lis, wn_comp, wi_rng, wi_enu, wi_one, wo_non, wo_some, ws_nop, ws_nil, ws_brk, ws_cnt, ws_retn, ws_exp, ws_ret, ws_raise, ws_ite, ws_set, ws_set, ws_setcF, ws_setcT, ws_par, ws_put, ws_seq, ws_for, ws_while, ws_try, List.getElem?_cons_zero, List.getElem?_cons_succ, Option.some.injEq, exists_eq_left', exists_eq_left, true_implies, forall_const, Bool.true_eq_false, Bool.false_eq_true, false_implies, and_true, true_and, setT, List.set_cons_zero, List.set_cons_succ, List.length_cons, List.length_nil, setAll, Option.bind_some, asB, Bool.not_true, Bool.not_false, o_add_i, o_add_s, o_add_t, o_add_l, o_sub_i, o_mul_i, o_fdv_i, o_mod_i, o_pow_i, o_neg_i, o_lt_i, o_le_i, o_gt_i, o_ge_i, o_is_n, o_isn_n, o_eq_d, o_ne_d, o_in_d, o_nin_d, bx_len, bx_int, bx_min, bx_max, bx_sum, bx_all, bx_any, bx_tuple, b_min_i, b_max_i, b_int_i, b_int_b, b_len_t, b_len_l, b_len_c, b_len_s, b_tup_t, b_tup_l, b_lis_t, b_lis_l, isa_tab, ty_non, ty_bl, ty_int, ty_str, ty_tup, ty_lst, ty_scr, ty_dic, tr_non, tr_bl, tr_int, tr_tup, tr_lst, tr_scr, nm_set, tp_set, ix_t, ix_l, ix_c, at_0, at_1, at_2, at_3, at_m, at_m1, range1, items_t, items_l, items_s, enu_t, enu_l, bel_int, bel_str, bel_bl, bel_non, out_bl, out_int, out_str, out_non, out_nx, mk_ends, mk_join, g_ends, fEq_i, fEq_b, rI_l, rI_d, rS_d, rL_l, r_pop, r_pop1, r_app, rr_q, rr_ix, rr_ixs, rr_len, rr_tup, rr_tru, rr_mkp, rr_mka, rr_pop, rr_app, rr_put, ok_put, out_rt, out_ex, Prod.mk.injEq, exists_eq, exists_and_left, exists_eq', bne_self_eq_false, Int.reduceBNe, Bool.true_and, and_assoc, Rs.ok.injEq, D.tup.injEq, D.bl.injEq, D.int.injEq, List.cons.injEq, enter_bs, D.bel, D.bels, List.cons_append, List.nil_append, startS, List.map_cons, List.map_nil, List.replicate_succ, List.replicate_zero, Nat.reduceSub, Nat.reduceAdd, Bool.or_false, Bool.false_or, Bool.or_true, Bool.true_or, Bool.and_true, Bool.and_false, Bool.true_and, Bool.false_and, if_true, if_false, reduceCtorEq, Bool.not_eq_true, decide_eq_true_eq, decide_eq_false_iff_not, and_self, onok, onokS, onnx, ite_true, ite_false, reduceIte, c_say, out2]
      have hr : rowF h us (h.say g u.cs.length u.b).1 (if (h.say g u.cs.length u.b).2 = true then m + 1 else m) = rowF h ws k 0 := hr
      cases hb : (h.say g u.cs.length u.b).2 with
      | true =>
        rw [hb] at hr
        simp only [onok_ok, onok_ex, onokS_ok, onokS_ex, onnx_nx, onnx_rt, onnx_bk, onnx_ct, onnx_ex, wc_ok, we_v, we_c, we_g, we_bin, we_cmp, we_ix, we_neg, we_not, we_ite, we_andv, we_orv, we_and1, we_or1, we_and, we_or, we_tup, we_frz, we_alc, we_blt, we_call, we_meth, we_sl, we_isi, we_isi2, we_dsp, we_newd, wt_val, wt_cmp, wt_not, wt_andv, wt_orv, wt_and1, wt_or1, wt_and, wt_or, wa_nil, wa_cons, wn_disp, wn_lis, wn_comp, wi_rng, wi_enu, wi_one, wo_non, wo_some, ws_nop, ws_nil, ws_brk, ws_cnt, ws_retn, ws_exp, ws_ret, ws_raise, ws_ite, ws_set, ws_set, ws_setcF, ws_setcT, ws_par, ws_put, ws_seq, ws_for, ws_while, ws_try, List.getElem?_cons_zero, List.getElem?_cons_succ, Option.some.injEq, exists_eq_left', exists_eq_left, true_implies, forall_const, Bool.true_eq_false, Bool.false_eq_true, false_implies, and_true, true_and, setT, List.set_cons_zero, List.set_cons_succ, List.length_cons, List.length_nil, setAll, Option.bind_some, asB, Bool.not_true, Bool.not_false, o_add_i, o_add_s, o_add_t, o_add_l, o_sub_i, o_mul_i, o_fdv_i, o_mod_i, o_pow_i, o_neg_i, o_lt_i, o_le_i, o_gt_i, o_ge_i, o_is_n, o_isn_n, o_eq_d, o_ne_d, o_in_d, o_nin_d, bx_len, bx_int, bx_min, bx_max, bx_sum, bx_all, bx_any, bx_tuple, b_min_i, b_max_i, b_int_i, b_int_b, b_len_t, b_len_l, b_len_c, b_len_s, b_tup_t, b_tup_l, b_lis_t, b_lis_l, isa_tab, ty_non, ty_bl, ty_int, ty_str, ty_tup, ty_lst, ty_scr, ty_dic, tr_non, tr_bl, tr_int, tr_tup, tr_lst, tr_scr, nm_set, tp_set, ix_t, ix_l, ix_c, at_0, at_1, at_2, at_3, at_m, at_m1, range1, items_t, items_l, items_s, enu_t, enu_l, bel_int, bel_str, bel_bl, bel_non, out_bl, out_int, out_str, out_non, out_nx, mk_ends, mk_join, g_ends, fEq_i, fEq_b, rI_l, rI_d, rS_d, rL_l, r_pop, r_pop1, r_app, rr_q, rr_ix, rr_ixs, rr_len, rr_tup, rr_tru, rr_mkp, rr_mka, rr_pop, rr_app, rr_put, ok_put, out_rt, out_ex, Prod.mk.injEq, exists_eq, exists_and_left, exists_eq', bne_self_eq_false, Int.reduceBNe, Bool.true_and, and_assoc, Rs.ok.injEq, D.tup.injEq, D.bl.injEq, D.int.injEq, List.cons.injEq, enter_bs, D.bel, D.bels, List.cons_append, List.nil_append, startS, List.map_cons, List.map_nil, List.replicate_succ, List.replicate_zero, Nat.reduceSub, Nat.reduceAdd, Bool.or_false, Bool.false_or, Bool.or_true, Bool.true_or, Bool.and_true, Bool.and_false, Bool.true_and, Bool.false_and, if_true, if_false, reduceCtorEq, Bool.not_eq_true, decide_eq_true_eq, decide_eq_false_iff_not, and_self, onok, onokS, onnx, ite_true, ite_false, reduceIte]
        exact ⟨us, rfl, _, _, hr, rfl, rfl⟩
      | false =>
        rw [hb] at hr
        simp only [onok_ok, onok_ex, onokS_ok, onokS_ex, onnx_nx, onnx_rt, onnx_bk, onnx_ct, onnx_ex, wc_ok, we_v, we_c, we_g, we_bin, we_cmp, we_ix, we_neg, we_not, we_ite, we_andv, we_orv, we_and1, we_or1, we_and, we_or, we_tup, we_frz, we_alc, we_blt, we_call, we_meth, we_sl, we_isi, we_isi2, we_dsp, we_newd, wt_val, wt_cmp, wt_not, wt_andv, wt_orv, wt_and1, wt_or1, wt_and, wt_or, wa_nil, wa_cons, wn_disp, wn_lis, wn_comp, wi_rng, wi_enu, wi_one, wo_non, wo_some, ws_nop, ws_nil, ws_brk, ws_cnt, ws_retn, ws_exp, ws_ret, ws_raise, ws_ite, ws_set, ws_set, ws_setcF, ws_setcT, ws_par, ws_put, ws_seq, ws_for, ws_while, ws_try, List.getElem?_cons_zero, List.getElem?_cons_succ, Option.some.injEq, exists_eq_left', exists_eq_left, true_implies, forall_const, Bool.true_eq_false, Bool.false_eq_true, false_implies, and_true, true_and, setT, List.set_cons_zero, List.set_cons_succ, List.length_cons, List.length_nil, setAll, Option.bind_some, asB, Bool.not_true, Bool.not_false, o_add_i, o_add_s, o_add_t, o_add_l, o_sub_i, o_mul_i, o_fdv_i, o_mod_i, o_pow_i, o_neg_i, o_lt_i, o_le_i, o_gt_i, o_ge_i, o_is_n, o_isn_n, o_eq_d, o_ne_d, o_in_d, o_nin_d, bx_len, bx_int, bx_min, bx_max, bx_sum, bx_all, bx_any, bx_tuple, b_min_i, b_max_i, b_int_i, b_int_b, b_len_t, b_len_l, b_len_c, b_len_s, b_tup_t, b_tup_l, b_lis_t, b_lis_l, isa_tab, ty_non, ty_bl, ty_int, ty_str, ty_tup, ty_lst, ty_scr, ty_dic, tr_non, tr_bl, tr_int, tr_tup, tr_lst, tr_scr, nm_set, tp_set, ix_t, ix_l, ix_c, at_0, at_1, at_2, at_3, at_m, at_m1, range1, items_t, items_l, items_s, enu_t, enu_l, bel_int, bel_str, bel_bl, bel_non, out_bl, out_int, out_str, out_non, out_nx, mk_ends, mk_join, g_ends, fEq_i, fEq_b, rI_l, rI_d, rS_d, rL_l, r_pop, r_pop1, r_app, rr_q, rr_ix, rr_ixs, rr_len, rr_tup, rr_tru, rr_mkp, rr_mka, rr_pop, rr_app, rr_put, ok_put, out_rt, out_ex, Prod.mk.injEq, exists_eq, exists_and_left, exists_eq', bne_self_eq_false, Int.reduceBNe, Bool.true_and, and_assoc, Rs.ok.injEq, D.tup.injEq, D.bl.injEq, D.int.injEq, List.cons.injEq, enter_bs, D.bel, D.bels, List.cons_append, List.nil_append, startS, List.map_cons, List.map_nil, List.replicate_succ, List.replicate_zero, Nat.reduceSub, Nat.reduceAdd, Bool.or_false, Bool.false_or, Bool.or_true, Bool.true_or, Bool.and_true, Bool.and_false, Bool.true_and, Bool.false_and, if_true, if_false, reduceCtorEq, Bool.not_eq_true, decide_eq_true_eq, decide_eq_false_iff_not, and_self, onok, onokS, onnx, ite_true, ite_false, reduceIte]
        exact ⟨us, rfl, _, _, hr, rfl, rfl⟩
  · rintro sl s1 ⟨us, g, m, o5, o6, o7, hx, hr, rfl, rfl⟩
    cases us with
    | cons _ _ => cases hx
    | nil =>
      have hr : (g, m) = rowF h ws k 0 := hr
      rw [← hr]
      simp only [outI, onok_ok, onok_ex, onokS_ok, onokS_ex, onnx_nx, onnx_rt, onnx_bk, onnx_ct, onnx_ex, wc_ok, we_v, we_c, we_g, we_bin, we_cmp, we_ix, we_neg, we_not, we_ite, we_andv, we_orv, we_and1, we_or1, we_and, we_or, we_tup, we_frz, we_alc, we_blt, we_call, we_meth, we_sl, we_isi, we_isi2, we_dsp, we_newd, wt_val, wt_cmp, wt_not, wt_andv, wt_orv, wt_and1, wt_or1, wt_and, wt_or, wa_nil, wa_cons, wn_disp, wn_lis, wn_comp, wi_rng, wi_enu, wi_one, wo_non, wo_some, ws_nop, ws_nil, ws_brk, ws_cnt, ws_retn, ws_exp, ws_ret, ws_raise, ws_ite, ws_set, ws_set, ws_setcF, ws_setcT, ws_par, ws_put, ws_seq, ws_for, ws_while, ws_try, List.getElem?_cons_zero, List.getElem?_cons_succ, Option.some.injEq, exists_eq_left', exists_eq_left, true_implies, forall_const, Bool.true_eq_false, Bool.false_eq_true, false_implies, and_true, true_and, setT, List.set_cons_zero, List.set_cons_succ, List.length_cons, List.length_nil, setAll, Option.bind_some, asB, Bool.not_true, Bool.not_false, o_add_i, o_add_s, o_add_t, o_add_l, o_sub_i, o_mul_i, o_fdv_i, o_mod_i, o_pow_i, o_neg_i, o_lt_i, o_le_i, o_gt_i, o_ge_i, o_is_n, o_isn_n, o_eq_d, o_ne_d, o_in_d, o_nin_d, bx_len, bx_int, bx_min, bx_max, bx_sum, bx_all, bx_any, bx_tuple, b_min_i, b_max_i, b_int_i, b_int_b, b_len_t, b_len_l, b_len_c, b_len_s, b_tup_t, b_tup_l, b_lis_t, b_lis_l, isa_tab, ty_non, ty_bl, ty_int, ty_str, ty_tup, ty_lst, ty_scr, ty_dic, tr_non, tr_bl, tr_int, tr_tup, tr_lst, tr_scr, nm_set, tp_set, ix_t, ix_l, ix_c, at_0, at_1, at_2, at_3, at_m, at_m1, range1, items_t, items_l, items_s, enu_t, enu_l, bel_int, bel_str, bel_bl, bel_non, out_bl, out_int, out_str, out_non, out_nx, mk_ends, mk_join, g_ends, fEq_i, fEq_b, rI_l, rI_d, rS_d, rL_l, r_pop, r_pop1, r_app, rr_q, rr_ix, rr_ixs, rr_len, rr_tup, rr_tru, rr_mkp, rr_mka, rr_pop, rr_app, rr_put, ok_put, out_rt, out_ex, Prod.mk.injEq, exists_eq, exists_and_left, exists_eq', bne_self_eq_false, Int.reduceBNe, Bool.true_and, and_assoc, Rs.ok.injEq, D.tup.injEq, D.bl.injEq, D.int.injEq, List.cons.injEq, enter_bs, D.bel, D.bels, List.cons_append, List.nil_append, startS, List.map_cons, List.map_nil, List.replicate_succ, List.replicate_zero, Nat.reduceSub, Nat.reduceAdd, Bool.or_false, Bool.false_or, Bool.or_true, Bool.true_or, Bool.and_true, Bool.and_false, Bool.true_and, Bool.false_and, if_true, if_false, reduceCtorEq, Bool.not_eq_true, decide_eq_true_eq, decide_eq_false_iff_not, and_self, onok, onokS, onnx, ite_true, ite_false, reduceIte]
theorem c_said_row (n : Nat) (h : Ho) (hh : h.Ok) (k : Int) (hk : h.may k) (ws : List Wd) (hw : ∀ w ∈ ws, w.Ok) (hl : ws.length ≤ 1000) (d : D) (hd : d = .tup (ws.map strD) ∨ d = .lst (ws.map strD)) (st : Sto) : md.call (n + 4) 16 [h.d, .int k, d] st = some (.ok (outI (rowF h ws k 0)), st) := by
  refine run_to (d := ⟨_, _, _, f_said_row⟩) rfl rfl ?_
  simp only [f_said_row, b_said_row, onok_ok, onok_ex, onokS_ok, onokS_ex, onnx_nx, onnx_rt, onnx_bk, onnx_ct, onnx_ex, wc_ok, we_v, we_c, we_g, we_bin, we_cmp, we_ix, we_neg, we_not, we_ite, we_andv, we_orv, we_and1, we_or1, we_and, we_or, we_tup, we_frz, we_alc, we_blt, we_call, we_meth, we_sl, we_isi, we_isi2, we_dsp, we_newd, wt_val, wt_cmp, wt_not, wt_andv, wt_orv, wt_and1, wt_or1, wt_and, wt_or, wa_nil, wa_cons, wn_disp, wn_lis, wn_comp, wi_rng, wi_enu, wi_one, wo_non, wo_some, ws_nop, ws_nil, ws_brk, ws_cnt, ws_retn, ws_exp, ws_ret, ws_raise, ws_ite, ws_set, ws_set, ws_setcF, ws_setcT, ws_par, ws_put, ws_seq, ws_for, ws_while, ws_try, List.getElem?_cons_zero, List.getElem?_cons_succ, Option.some.injEq, exists_eq_left', exists_eq_left, true_implies, forall_const, Bool.true_eq_false, Bool.false_eq_true, false_implies, and_true, true_and, setT, List.set_cons_zero, List.set_cons_succ, List.length_cons, List.length_nil, setAll, Option.bind_some, asB, Bool.not_true, Bool.not_false, o_add_i, o_add_s, o_add_t, o_add_l, o_sub_i, o_mul_i, o_fdv_i, o_mod_i, o_pow_i, o_neg_i, o_lt_i, o_le_i, o_gt_i, o_ge_i, o_is_n, o_isn_n, o_eq_d, o_ne_d, o_in_d, o_nin_d, bx_len, bx_int, bx_min, bx_max, bx_sum, bx_all, bx_any, bx_tuple, b_min_i, b_max_i, b_int_i, b_int_b, b_len_t, b_len_l, b_len_c, b_len_s, b_tup_t, b_tup_l, b_lis_t, b_lis_l, isa_tab, ty_non, ty_bl, ty_int, ty_str, ty_tup, ty_lst, ty_scr, ty_dic, tr_non, tr_bl, tr_int, tr_tup, tr_lst, tr_scr, nm_set, tp_set, ix_t, ix_l, ix_c, at_0, at_1, at_2, at_3, at_m, at_m1, range1, items_t, items_l, items_s, enu_t, enu_l, bel_int, bel_str, bel_bl, bel_non, out_bl, out_int, out_str, out_non, out_nx, mk_ends, mk_join, g_ends, fEq_i, fEq_b, rI_l, rI_d, rS_d, rL_l, r_pop, r_pop1, r_app, rr_q, rr_ix, rr_ixs, rr_len, rr_tup, rr_tru, rr_mkp, rr_mka, rr_pop, rr_app, rr_put, ok_put, out_rt, out_ex, Prod.mk.injEq, exists_eq, exists_and_left, exists_eq', bne_self_eq_false, Int.reduceBNe, Bool.true_and, and_assoc, Rs.ok.injEq, D.tup.injEq, D.bl.injEq, D.int.injEq, List.cons.injEq, enter_bs, D.bel, D.bels, List.cons_append, List.nil_append, startS, List.map_cons, List.map_nil, List.replicate_succ, List.replicate_zero, Nat.reduceSub, Nat.reduceAdd, Bool.or_false, Bool.false_or, Bool.or_true, Bool.true_or, Bool.and_true, Bool.and_false, Bool.true_and, Bool.false_and, if_true, if_false, reduceCtorEq, Bool.not_eq_true, decide_eq_true_eq, decide_eq_false_iff_not, and_self, onok, onokS, onnx, ite_true, ite_false, reduceIte, c_check_hold _ _ hh, c_check_held _ _ _ hk, c_check_texts_go _ _ hw hl _ hd, c_say_sizes, out_oI]
end K00

set_option Elab.async false
set_option linter.all false
set_option maxRecDepth 100000
set_option maxHeartbeats 0
namespace K00
open PySem Hb L2
theorem fNe_s {x y : Str} {st : Sto} (hx : PyData.canLay0 (.str x) = true) (hy : PyData.canLay0 (.str y) = true) {r : Bool} (e : decide (x = y) = r) : fNe (.str x) (.str y) st = some (.bl (!r)) := by
  rw [← e]; exact fNe_of (fEq_s hx hy)
theorem fEq_s' {x y : Str} {st : Sto} (hx : PyData.canLay0 (.str x) = true) (hy : PyData.canLay0 (.str y) = true) {r : Bool} (e : decide (x = y) = r) : fEq (.str x) (.str y) st = some (.bl r) := by
  rw [← e]; exact fEq_s hx hy
abbrev kB : Str := ⟨#[98, 111, 111, 108]⟩
abbrev kI : Str := ⟨#[105, 110, 116]⟩
abbrev kS : Str := ⟨#[115, 116, 114]⟩
abbrev kT : Str := ⟨#[116, 117, 112, 108, 101]⟩
abbrev kN : Str := ⟨#[110, 111, 110, 101]⟩
abbrev kO : Str := ⟨#[111, 116, 104, 101, 114]⟩
theorem k_b (n : Nat) (b : Bool) (st : Sto) : md.call (n + 1) 20 [.bl b] st = some (.ok (.str kB), st) := by
  refine run_to (d := ⟨_, _, _, f__law_kind⟩) rfl rfl ?_
  simp only [f__law_kind, b__law_kind, onok_ok, onok_ex, onokS_ok, onokS_ex, onnx_nx, onnx_rt, onnx_bk, onnx_ct, onnx_ex, wc_ok, we_v, we_c, we_g, we_bin, we_cmp, we_ix, we_neg, we_not, we_ite, we_andv, we_orv, we_and1, we_or1, we_and, we_or, we_tup, we_frz, we_alc, we_blt, we_call, we_meth, we_sl, we_isi, we_isi2, we_dsp, we_newd, wt_val, wt_cmp, wt_not, wt_andv, wt_orv, wt_and1, wt_or1, wt_and, wt_or, wa_nil, wa_cons, wn_disp, wn_lis, wn_comp, wi_rng, wi_enu, wi_one, wo_non, wo_some, ws_nop, ws_nil, ws_brk, ws_cnt, ws_retn, ws_exp, ws_ret, ws_raise, ws_ite, ws_set, ws_set, ws_setcF, ws_setcT, ws_par, ws_put, ws_seq, ws_for, ws_while, ws_try, List.getElem?_cons_zero, List.getElem?_cons_succ, Option.some.injEq, exists_eq_left', exists_eq_left, true_implies, forall_const, Bool.true_eq_false, Bool.false_eq_true, false_implies, and_true, true_and, setT, List.set_cons_zero, List.set_cons_succ, List.length_cons, List.length_nil, setAll, Option.bind_some, asB, Bool.not_true, Bool.not_false, o_add_i, o_add_s, o_add_t, o_add_l, o_sub_i, o_mul_i, o_fdv_i, o_mod_i, o_pow_i, o_neg_i, o_lt_i, o_le_i, o_gt_i, o_ge_i, o_is_n, o_isn_n, o_eq_d, o_ne_d, o_in_d, o_nin_d, bx_len, bx_int, bx_min, bx_max, bx_sum, bx_all, bx_any, bx_tuple, b_min_i, b_max_i, b_int_i, b_int_b, b_len_t, b_len_l, b_len_c, b_len_s, b_tup_t, b_tup_l, b_lis_t, b_lis_l, isa_tab, ty_non, ty_bl, ty_int, ty_str, ty_tup, ty_lst, ty_scr, ty_dic, tr_non, tr_bl, tr_int, tr_tup, tr_lst, tr_scr, nm_set, tp_set, ix_t, ix_l, ix_c, at_0, at_1, at_2, at_3, at_m, at_m1, range1, items_t, items_l, items_s, enu_t, enu_l, bel_int, bel_str, bel_bl, bel_non, out_bl, out_int, out_str, out_non, out_nx, mk_ends, mk_join, g_ends, fEq_i, fEq_b, rI_l, rI_d, rS_d, rL_l, r_pop, r_pop1, r_app, rr_q, rr_ix, rr_ixs, rr_len, rr_tup, rr_tru, rr_mkp, rr_mka, rr_pop, rr_app, rr_put, ok_put, out_rt, out_ex, Prod.mk.injEq, exists_eq, exists_and_left, exists_eq', bne_self_eq_false, Int.reduceBNe, Bool.true_and, and_assoc, Rs.ok.injEq, D.tup.injEq, D.bl.injEq, D.int.injEq, List.cons.injEq, enter_bs, D.bel, D.bels, List.cons_append, List.nil_append, startS, List.map_cons, List.map_nil, List.replicate_succ, List.replicate_zero, Nat.reduceSub, Nat.reduceAdd, Bool.or_false, Bool.false_or, Bool.or_true, Bool.true_or, Bool.and_true, Bool.and_false, Bool.true_and, Bool.false_and, if_true, if_false, reduceCtorEq, Bool.not_eq_true, decide_eq_true_eq, decide_eq_false_iff_not, and_self, onok, onokS, onnx, ite_true, ite_false, reduceIte]
theorem k_i (n : Nat) (b : Int) (st : Sto) : md.call (n + 1) 20 [.int b] st = some (.ok (.str kI), st) := by
  refine run_to (d := ⟨_, _, _, f__law_kind⟩) rfl rfl ?_
  simp only [f__law_kind, b__law_kind, onok_ok, onok_ex, onokS_ok, onokS_ex, onnx_nx, onnx_rt, onnx_bk, onnx_ct, onnx_ex, wc_ok, we_v, we_c, we_g, we_bin, we_cmp, we_ix, we_neg, we_not, we_ite, we_andv, we_orv, we_and1, we_or1, we_and, we_or, we_tup, we_frz, we_alc, we_blt, we_call, we_meth, we_sl, we_isi, we_isi2, we_dsp, we_newd, wt_val, wt_cmp, wt_not, wt_andv, wt_orv, wt_and1, wt_or1, wt_and, wt_or, wa_nil, wa_cons, wn_disp, wn_lis, wn_comp, wi_rng, wi_enu, wi_one, wo_non, wo_some, ws_nop, ws_nil, ws_brk, ws_cnt, ws_retn, ws_exp, ws_ret, ws_raise, ws_ite, ws_set, ws_set, ws_setcF, ws_setcT, ws_par, ws_put, ws_seq, ws_for, ws_while, ws_try, List.getElem?_cons_zero, List.getElem?_cons_succ, Option.some.injEq, exists_eq_left', exists_eq_left, true_implies, forall_const, Bool.true_eq_false, Bool.false_eq_true, false_implies, and_true, true_and, setT, List.set_cons_zero, List.set_cons_succ, List.length_cons, List.length_nil, setAll, Option.bind_some, asB, Bool.not_true, Bool.not_false, o_add_i, o_add_s, o_add_t, o_add_l, o_sub_i, o_mul_i, o_fdv_i, o_mod_i, o_pow_i, o_neg_i, o_lt_i, o_le_i, o_gt_i, o_ge_i, o_is_n, o_isn_n, o_eq_d, o_ne_d, o_in_d, o_nin_d, bx_len, bx_int, bx_min, bx_max, bx_sum, bx_all, bx_any, bx_tuple, b_min_i, b_max_i, b_int_i, b_int_b, b_len_t, b_len_l, b_len_c, b_len_s, b_tup_t, b_tup_l, b_lis_t, b_lis_l, isa_tab, ty_non, ty_bl, ty_int, ty_str, ty_tup, ty_lst, ty_scr, ty_dic, tr_non, tr_bl, tr_int, tr_tup, tr_lst, tr_scr, nm_set, tp_set, ix_t, ix_l, ix_c, at_0, at_1, at_2, at_3, at_m, at_m1, range1, items_t, items_l, items_s, enu_t, enu_l, bel_int, bel_str, bel_bl, bel_non, out_bl, out_int, out_str, out_non, out_nx, mk_ends, mk_join, g_ends, fEq_i, fEq_b, rI_l, rI_d, rS_d, rL_l, r_pop, r_pop1, r_app, rr_q, rr_ix, rr_ixs, rr_len, rr_tup, rr_tru, rr_mkp, rr_mka, rr_pop, rr_app, rr_put, ok_put, out_rt, out_ex, Prod.mk.injEq, exists_eq, exists_and_left, exists_eq', bne_self_eq_false, Int.reduceBNe, Bool.true_and, and_assoc, Rs.ok.injEq, D.tup.injEq, D.bl.injEq, D.int.injEq, List.cons.injEq, enter_bs, D.bel, D.bels, List.cons_append, List.nil_append, startS, List.map_cons, List.map_nil, List.replicate_succ, List.replicate_zero, Nat.reduceSub, Nat.reduceAdd, Bool.or_false, Bool.false_or, Bool.or_true, Bool.true_or, Bool.and_true, Bool.and_false, Bool.true_and, Bool.false_and, if_true, if_false, reduceCtorEq, Bool.not_eq_true, decide_eq_true_eq, decide_eq_false_iff_not, and_self, onok, onokS, onnx, ite_true, ite_false, reduceIte]
theorem k_s (n : Nat) (b : Str) (st : Sto) : md.call (n + 1) 20 [.str b] st = some (.ok (.str kS), st) := by
  refine run_to (d := ⟨_, _, _, f__law_kind⟩) rfl rfl ?_
  simp only [f__law_kind, b__law_kind, onok_ok, onok_ex, onokS_ok, onokS_ex, onnx_nx, onnx_rt, onnx_bk, onnx_ct, onnx_ex, wc_ok, we_v, we_c, we_g, we_bin, we_cmp, we_ix, we_neg, we_not, we_ite, we_andv, we_orv, we_and1, we_or1, we_and, we_or, we_tup, we_frz, we_alc, we_blt, we_call, we_meth, we_sl, we_isi, we_isi2, we_dsp, we_newd, wt_val, wt_cmp, wt_not, wt_andv, wt_orv, wt_and1, wt_or1, wt_and, wt_or, wa_nil, wa_cons, wn_disp, wn_lis, wn_comp, wi_rng, wi_enu, wi_one, wo_non, wo_some, ws_nop, ws_nil, ws_brk, ws_cnt, ws_retn, ws_exp, ws_ret, ws_raise, ws_ite, ws_set, ws_set, ws_setcF, ws_setcT, ws_par, ws_put, ws_seq, ws_for, ws_while, ws_try, List.getElem?_cons_zero, List.getElem?_cons_succ, Option.some.injEq, exists_eq_left', exists_eq_left, true_implies, forall_const, Bool.true_eq_false, Bool.false_eq_true, false_implies, and_true, true_and, setT, List.set_cons_zero, List.set_cons_succ, List.length_cons, List.length_nil, setAll, Option.bind_some, asB, Bool.not_true, Bool.not_false, o_add_i, o_add_s, o_add_t, o_add_l, o_sub_i, o_mul_i, o_fdv_i, o_mod_i, o_pow_i, o_neg_i, o_lt_i, o_le_i, o_gt_i, o_ge_i, o_is_n, o_isn_n, o_eq_d, o_ne_d, o_in_d, o_nin_d, bx_len, bx_int, bx_min, bx_max, bx_sum, bx_all, bx_any, bx_tuple, b_min_i, b_max_i, b_int_i, b_int_b, b_len_t, b_len_l, b_len_c, b_len_s, b_tup_t, b_tup_l, b_lis_t, b_lis_l, isa_tab, ty_non, ty_bl, ty_int, ty_str, ty_tup, ty_lst, ty_scr, ty_dic, tr_non, tr_bl, tr_int, tr_tup, tr_lst, tr_scr, nm_set, tp_set, ix_t, ix_l, ix_c, at_0, at_1, at_2, at_3, at_m, at_m1, range1, items_t, items_l, items_s, enu_t, enu_l, bel_int, bel_str, bel_bl, bel_non, out_bl, out_int, out_str, out_non, out_nx, mk_ends, mk_join, g_ends, fEq_i, fEq_b, rI_l, rI_d, rS_d, rL_l, r_pop, r_pop1, r_app, rr_q, rr_ix, rr_ixs, rr_len, rr_tup, rr_tru, rr_mkp, rr_mka, rr_pop, rr_app, rr_put, ok_put, out_rt, out_ex, Prod.mk.injEq, exists_eq, exists_and_left, exists_eq', bne_self_eq_false, Int.reduceBNe, Bool.true_and, and_assoc, Rs.ok.injEq, D.tup.injEq, D.bl.injEq, D.int.injEq, List.cons.injEq, enter_bs, D.bel, D.bels, List.cons_append, List.nil_append, startS, List.map_cons, List.map_nil, List.replicate_succ, List.replicate_zero, Nat.reduceSub, Nat.reduceAdd, Bool.or_false, Bool.false_or, Bool.or_true, Bool.true_or, Bool.and_true, Bool.and_false, Bool.true_and, Bool.false_and, if_true, if_false, reduceCtorEq, Bool.not_eq_true, decide_eq_true_eq, decide_eq_false_iff_not, and_self, onok, onokS, onnx, ite_true, ite_false, reduceIte]
theorem k_t (n : Nat) (b : List D) (st : Sto) : md.call (n + 1) 20 [.tup b] st = some (.ok (.str kT), st) := by
  refine run_to (d := ⟨_, _, _, f__law_kind⟩) rfl rfl ?_
  simp only [f__law_kind, b__law_kind, onok_ok, onok_ex, onokS_ok, onokS_ex, onnx_nx, onnx_rt, onnx_bk, onnx_ct, onnx_ex, wc_ok, we_v, we_c, we_g, we_bin, we_cmp, we_ix, we_neg, we_not, we_ite, we_andv, we_orv, we_and1, we_or1, we_and, we_or, we_tup, we_frz, we_alc, we_blt, we_call, we_meth, we_sl, we_isi, we_isi2, we_dsp, we_newd, wt_val, wt_cmp, wt_not, wt_andv, wt_orv, wt_and1, wt_or1, wt_and, wt_or, wa_nil, wa_cons, wn_disp, wn_lis, wn_comp, wi_rng, wi_enu, wi_one, wo_non, wo_some, ws_nop, ws_nil, ws_brk, ws_cnt, ws_retn, ws_exp, ws_ret, ws_raise, ws_ite, ws_set, ws_set, ws_setcF, ws_setcT, ws_par, ws_put, ws_seq, ws_for, ws_while, ws_try, List.getElem?_cons_zero, List.getElem?_cons_succ, Option.some.injEq, exists_eq_left', exists_eq_left, true_implies, forall_const, Bool.true_eq_false, Bool.false_eq_true, false_implies, and_true, true_and, setT, List.set_cons_zero, List.set_cons_succ, List.length_cons, List.length_nil, setAll, Option.bind_some, asB, Bool.not_true, Bool.not_false, o_add_i, o_add_s, o_add_t, o_add_l, o_sub_i, o_mul_i, o_fdv_i, o_mod_i, o_pow_i, o_neg_i, o_lt_i, o_le_i, o_gt_i, o_ge_i, o_is_n, o_isn_n, o_eq_d, o_ne_d, o_in_d, o_nin_d, bx_len, bx_int, bx_min, bx_max, bx_sum, bx_all, bx_any, bx_tuple, b_min_i, b_max_i, b_int_i, b_int_b, b_len_t, b_len_l, b_len_c, b_len_s, b_tup_t, b_tup_l, b_lis_t, b_lis_l, isa_tab, ty_non, ty_bl, ty_int, ty_str, ty_tup, ty_lst, ty_scr, ty_dic, tr_non, tr_bl, tr_int, tr_tup, tr_lst, tr_scr, nm_set, tp_set, ix_t, ix_l, ix_c, at_0, at_1, at_2, at_3, at_m, at_m1, range1, items_t, items_l, items_s, enu_t, enu_l, bel_int, bel_str, bel_bl, bel_non, out_bl, out_int, out_str, out_non, out_nx, mk_ends, mk_join, g_ends, fEq_i, fEq_b, rI_l, rI_d, rS_d, rL_l, r_pop, r_pop1, r_app, rr_q, rr_ix, rr_ixs, rr_len, rr_tup, rr_tru, rr_mkp, rr_mka, rr_pop, rr_app, rr_put, ok_put, out_rt, out_ex, Prod.mk.injEq, exists_eq, exists_and_left, exists_eq', bne_self_eq_false, Int.reduceBNe, Bool.true_and, and_assoc, Rs.ok.injEq, D.tup.injEq, D.bl.injEq, D.int.injEq, List.cons.injEq, enter_bs, D.bel, D.bels, List.cons_append, List.nil_append, startS, List.map_cons, List.map_nil, List.replicate_succ, List.replicate_zero, Nat.reduceSub, Nat.reduceAdd, Bool.or_false, Bool.false_or, Bool.or_true, Bool.true_or, Bool.and_true, Bool.and_false, Bool.true_and, Bool.false_and, if_true, if_false, reduceCtorEq, Bool.not_eq_true, decide_eq_true_eq, decide_eq_false_iff_not, and_self, onok, onokS, onnx, ite_true, ite_false, reduceIte]
theorem k_n (n : Nat) (st : Sto) : md.call (n + 1) 20 [.non] st = some (.ok (.str kN), st) := by
  refine run_to (d := ⟨_, _, _, f__law_kind⟩) rfl rfl ?_
  simp only [f__law_kind, b__law_kind, Hb.isNon, onok_ok, onok_ex, onokS_ok, onokS_ex, onnx_nx, onnx_rt, onnx_bk, onnx_ct, onnx_ex, wc_ok, we_v, we_c, we_g, we_bin, we_cmp, we_ix, we_neg, we_not, we_ite, we_andv, we_orv, we_and1, we_or1, we_and, we_or, we_tup, we_frz, we_alc, we_blt, we_call, we_meth, we_sl, we_isi, we_isi2, we_dsp, we_newd, wt_val, wt_cmp, wt_not, wt_andv, wt_orv, wt_and1, wt_or1, wt_and, wt_or, wa_nil, wa_cons, wn_disp, wn_lis, wn_comp, wi_rng, wi_enu, wi_one, wo_non, wo_some, ws_nop, ws_nil, ws_brk, ws_cnt, ws_retn, ws_exp, ws_ret, ws_raise, ws_ite, ws_set, ws_set, ws_setcF, ws_setcT, ws_par, ws_put, ws_seq, ws_for, ws_while, ws_try, List.getElem?_cons_zero, List.getElem?_cons_succ, Option.some.injEq, exists_eq_left', exists_eq_left, true_implies, forall_const, Bool.true_eq_false, Bool.false_eq_true, false_implies, and_true, true_and, setT, List.set_cons_zero, List.set_cons_succ, List.length_cons, List.length_nil, setAll, Option.bind_some, asB, Bool.not_true, Bool.not_false, o_add_i, o_add_s, o_add_t, o_add_l, o_sub_i, o_mul_i, o_fdv_i, o_mod_i, o_pow_i, o_neg_i, o_lt_i, o_le_i, o_gt_i, o_ge_i, o_is_n, o_isn_n, o_eq_d, o_ne_d, o_in_d, o_nin_d, bx_len, bx_int, bx_min, bx_max, bx_sum, bx_all, bx_any, bx_tuple, b_min_i, b_max_i, b_int_i, b_int_b, b_len_t, b_len_l, b_len_c, b_len_s, b_tup_t, b_tup_l, b_lis_t, b_lis_l, isa_tab, ty_non, ty_bl, ty_int, ty_str, ty_tup, ty_lst, ty_scr, ty_dic, tr_non, tr_bl, tr_int, tr_tup, tr_lst, tr_scr, nm_set, tp_set, ix_t, ix_l, ix_c, at_0, at_1, at_2, at_3, at_m, at_m1, range1, items_t, items_l, items_s, enu_t, enu_l, bel_int, bel_str, bel_bl, bel_non, out_bl, out_int, out_str, out_non, out_nx, mk_ends, mk_join, g_ends, fEq_i, fEq_b, rI_l, rI_d, rS_d, rL_l, r_pop, r_pop1, r_app, rr_q, rr_ix, rr_ixs, rr_len, rr_tup, rr_tru, rr_mkp, rr_mka, rr_pop, rr_app, rr_put, ok_put, out_rt, out_ex, Prod.mk.injEq, exists_eq, exists_and_left, exists_eq', bne_self_eq_false, Int.reduceBNe, Bool.true_and, and_assoc, Rs.ok.injEq, D.tup.injEq, D.bl.injEq, D.int.injEq, List.cons.injEq, enter_bs, D.bel, D.bels, List.cons_append, List.nil_append, startS, List.map_cons, List.map_nil, List.replicate_succ, List.replicate_zero, Nat.reduceSub, Nat.reduceAdd, Bool.or_false, Bool.false_or, Bool.or_true, Bool.true_or, Bool.and_true, Bool.and_false, Bool.true_and, Bool.false_and, if_true, if_false, reduceCtorEq, Bool.not_eq_true, decide_eq_true_eq, decide_eq_false_iff_not, and_self, onok, onokS, onnx, ite_true, ite_false, reduceIte]
theorem ne_bb {st : Sto} : fNe (.str kB) (.str kB) st = some (.bl false) := fNe_s (by decide +kernel) (by decide +kernel) (r := true) (by decide)
theorem ne_ii {st : Sto} : fNe (.str kI) (.str kI) st = some (.bl false) := fNe_s (by decide +kernel) (by decide +kernel) (r := true) (by decide)
theorem ne_ss {st : Sto} : fNe (.str kS) (.str kS) st = some (.bl false) := fNe_s (by decide +kernel) (by decide +kernel) (r := true) (by decide)
theorem ne_tt {st : Sto} : fNe (.str kT) (.str kT) st = some (.bl false) := fNe_s (by decide +kernel) (by decide +kernel) (r := true) (by decide)
theorem ne_nn {st : Sto} : fNe (.str kN) (.str kN) st = some (.bl false) := fNe_s (by decide +kernel) (by decide +kernel) (r := true) (by decide)
theorem eq_bo {st : Sto} : fEq (.str kB) (.str kO) st = some (.bl false) := fEq_s' (by decide +kernel) (by decide +kernel) (by decide)
theorem eq_io {st : Sto} : fEq (.str kI) (.str kO) st = some (.bl false) := fEq_s' (by decide +kernel) (by decide +kernel) (by decide)
theorem eq_so {st : Sto} : fEq (.str kS) (.str kO) st = some (.bl false) := fEq_s' (by decide +kernel) (by decide +kernel) (by decide)
theorem eq_to {st : Sto} : fEq (.str kT) (.str kO) st = some (.bl false) := fEq_s' (by decide +kernel) (by decide +kernel) (by decide)
theorem eq_no {st : Sto} : fEq (.str kN) (.str kO) st = some (.bl false) := fEq_s' (by decide +kernel) (by decide +kernel) (by decide)
theorem ne_bt {st : Sto} : fNe (.str kB) (.str kT) st = some (.bl true) := fNe_s (by decide +kernel) (by decide +kernel) (r := false) (by decide)
theorem ne_it {st : Sto} : fNe (.str kI) (.str kT) st = some (.bl true) := fNe_s (by decide +kernel) (by decide +kernel) (r := false) (by decide)
theorem ne_st {st : Sto} : fNe (.str kS) (.str kT) st = some (.bl true) := fNe_s (by decide +kernel) (by decide +kernel) (r := false) (by decide)
theorem ne_nt {st : Sto} : fNe (.str kN) (.str kT) st = some (.bl true) := fNe_s (by decide +kernel) (by decide +kernel) (r := false) (by decide)
theorem fNe_i {i j : Int} {st : Sto} : fNe (.int i) (.int j) st = some (.bl (!decide (i = j))) := fNe_of fEq_i
/-- what the law's own equality finds equal to itself, within k -/
def eqOk : Nat → D → Bool
  | 0, d => (match d with
    | .non => true
    | .bl _ => true
    | .int _ => true
    | .str x => PyData.canLay0 (.str x)
    | .tup xs => xs.isEmpty
    | _ => false)
  | k + 1, d => (match d with
    | .non => true
    | .bl _ => true
    | .int _ => true
    | .str x => PyData.canLay0 (.str x)
    | .tup xs => decide (xs.length ≤ 1000) && xs.all (eqOk k)
    | _ => false)
theorem c_equal : ∀ (k n : Nat) (v : D) (st : Sto), eqOk k v = true → md.call (n + k + 2) 21 [v, v, .int (k : Nat)] st = some (.ok (.bl true), st) := by
  intro k
  induction k with
  | zero =>
    intro n v st h
    refine run_to (d := ⟨_, _, _, f__law_equal⟩) rfl rfl ?_
    have hk : ¬ (((0 : Nat) : Int) < 0) := by omega
    cases v with
    | non =>
      have e : fEq .non .non st.enter = some (.bl true) := rfl
      simp only [f__law_equal, b__law_equal, onok_ok, onok_ex, onokS_ok, onokS_ex, onnx_nx, onnx_rt, onnx_bk, onnx_ct, onnx_ex, wc_ok, we_v, we_c, we_g, we_bin, we_cmp, we_ix, we_neg, we_not, we_ite, we_andv, we_orv, we_and1, we_or1, we_and, we_or, we_tup, we_frz, we_alc, we_blt, we_call, we_meth, we_sl, we_isi, we_isi2, we_dsp, we_newd, wt_val, wt_cmp, wt_not, wt_andv, wt_orv, wt_and1, wt_or1, wt_and, wt_or, wa_nil, wa_cons, wn_disp, wn_lis, wn_comp, wi_rng, wi_enu, wi_one, wo_non, wo_some, ws_nop, ws_nil, ws_brk, ws_cnt, ws_retn, ws_exp, ws_ret, ws_raise, ws_ite, ws_set, ws_set, ws_setcF, ws_setcT, ws_par, ws_put, ws_seq, ws_for, ws_while, ws_try, List.getElem?_cons_zero, List.getElem?_cons_succ, Option.some.injEq, exists_eq_left', exists_eq_left, true_implies, forall_const, Bool.true_eq_false, Bool.false_eq_true, false_implies, and_true, true_and, setT, List.set_cons_zero, List.set_cons_succ, List.length_cons, List.length_nil, setAll, Option.bind_some, asB, Bool.not_true, Bool.not_false, o_add_i, o_add_s, o_add_t, o_add_l, o_sub_i, o_mul_i, o_fdv_i, o_mod_i, o_pow_i, o_neg_i, o_lt_i, o_le_i, o_gt_i, o_ge_i, o_is_n, o_isn_n, o_eq_d, o_ne_d, o_in_d, o_nin_d, bx_len, bx_int, bx_min, bx_max, bx_sum, bx_all, bx_any, bx_tuple, b_min_i, b_max_i, b_int_i, b_int_b, b_len_t, b_len_l, b_len_c, b_len_s, b_tup_t, b_tup_l, b_lis_t, b_lis_l, isa_tab, ty_non, ty_bl, ty_int, ty_str, ty_tup, ty_lst, ty_scr, ty_dic, tr_non, tr_bl, tr_int, tr_tup, tr_lst, tr_scr, nm_set, tp_set, ix_t, ix_l, ix_c, at_0, at_1, at_2, at_3, at_m, at_m1, range1, items_t, items_l, items_s, enu_t, enu_l, bel_int, bel_str, bel_bl, bel_non, out_bl, out_int, out_str, out_non, out_nx, mk_ends, mk_join, g_ends, fEq_i, fEq_b, rI_l, rI_d, rS_d, rL_l, r_pop, r_pop1, r_app, rr_q, rr_ix, rr_ixs, rr_len, rr_tup, rr_tru, rr_mkp, rr_mka, rr_pop, rr_app, rr_put, ok_put, out_rt, out_ex, Prod.mk.injEq, exists_eq, exists_and_left, exists_eq', bne_self_eq_false, Int.reduceBNe, Bool.true_and, and_assoc, Rs.ok.injEq, D.tup.injEq, D.bl.injEq, D.int.injEq, List.cons.injEq, enter_bs, D.bel, D.bels, List.cons_append, List.nil_append, startS, List.map_cons, List.map_nil, List.replicate_succ, List.replicate_zero, Nat.reduceSub, Nat.reduceAdd, Bool.or_false, Bool.false_or, Bool.or_true, Bool.true_or, Bool.and_true, Bool.and_false, Bool.true_and, Bool.false_and, if_true, if_false, reduceCtorEq, Bool.not_eq_true, decide_eq_true_eq, decide_eq_false_iff_not, and_self, onok, onokS, onnx, ite_true, ite_false, reduceIte, k_n, ne_nn, eq_no, ne_nt, hk, decide_false, e]
    | bl b => simp only [f__law_equal, b__law_equal, onok_ok, onok_ex, onokS_ok, onokS_ex, onnx_nx, onnx_rt, onnx_bk, onnx_ct, onnx_ex, wc_ok, we_v, we_c, we_g, we_bin, we_cmp, we_ix, we_neg, we_not, we_ite, we_andv, we_orv, we_and1, we_or1, we_and, we_or, we_tup, we_frz, we_alc, we_blt, we_call, we_meth, we_sl, we_isi, we_isi2, we_dsp, we_newd, wt_val, wt_cmp, wt_not, wt_andv, wt_orv, wt_and1, wt_or1, wt_and, wt_or, wa_nil, wa_cons, wn_disp, wn_lis, wn_comp, wi_rng, wi_enu, wi_one, wo_non, wo_some, ws_nop, ws_nil, ws_brk, ws_cnt, ws_retn, ws_exp, ws_ret, ws_raise, ws_ite, ws_set, ws_set, ws_setcF, ws_setcT, ws_par, ws_put, ws_seq, ws_for, ws_while, ws_try, List.getElem?_cons_zero, List.getElem?_cons_succ, Option.some.injEq, exists_eq_left', exists_eq_left, true_implies, forall_const, Bool.true_eq_false, Bool.false_eq_true, false_implies, and_true, true_and, setT, List.set_cons_zero, List.set_cons_succ, List.length_cons, List.length_nil, setAll, Option.bind_some, asB, Bool.not_true, Bool.not_false, o_add_i, o_add_s, o_add_t, o_add_l, o_sub_i, o_mul_i, o_fdv_i, o_mod_i, o_pow_i, o_neg_i, o_lt_i, o_le_i, o_gt_i, o_ge_i, o_is_n, o_isn_n, o_eq_d, o_ne_d, o_in_d, o_nin_d, bx_len, bx_int, bx_min, bx_max, bx_sum, bx_all, bx_any, bx_tuple, b_min_i, b_max_i, b_int_i, b_int_b, b_len_t, b_len_l, b_len_c, b_len_s, b_tup_t, b_tup_l, b_lis_t, b_lis_l, isa_tab, ty_non, ty_bl, ty_int, ty_str, ty_tup, ty_lst, ty_scr, ty_dic, tr_non, tr_bl, tr_int, tr_tup, tr_lst, tr_scr, nm_set, tp_set, ix_t, ix_l, ix_c, at_0, at_1, at_2, at_3, at_m, at_m1, range1, items_t, items_l, items_s, enu_t, enu_l, bel_int, bel_str, bel_bl, bel_non, out_bl, out_int, out_str, out_non, out_nx, mk_ends, mk_join, g_ends, fEq_i, fEq_b, rI_l, rI_d, rS_d, rL_l, r_pop, r_pop1, r_app, rr_q, rr_ix, rr_ixs, rr_len, rr_tup, rr_tru, rr_mkp, rr_mka, rr_pop, rr_app, rr_put, ok_put, out_rt, out_ex, Prod.mk.injEq, exists_eq, exists_and_left, exists_eq', bne_self_eq_false, Int.reduceBNe, Bool.true_and, and_assoc, Rs.ok.injEq, D.tup.injEq, D.bl.injEq, D.int.injEq, List.cons.injEq, enter_bs, D.bel, D.bels, List.cons_append, List.nil_append, startS, List.map_cons, List.map_nil, List.replicate_succ, List.replicate_zero, Nat.reduceSub, Nat.reduceAdd, Bool.or_false, Bool.false_or, Bool.or_true, Bool.true_or, Bool.and_true, Bool.and_false, Bool.true_and, Bool.false_and, if_true, if_false, reduceCtorEq, Bool.not_eq_true, decide_eq_true_eq, decide_eq_false_iff_not, and_self, onok, onokS, onnx, ite_true, ite_false, reduceIte, k_b, ne_bb, eq_bo, ne_bt, hk, decide_false, fEq_b, decide_true]
    | int i => simp only [f__law_equal, b__law_equal, onok_ok, onok_ex, onokS_ok, onokS_ex, onnx_nx, onnx_rt, onnx_bk, onnx_ct, onnx_ex, wc_ok, we_v, we_c, we_g, we_bin, we_cmp, we_ix, we_neg, we_not, we_ite, we_andv, we_orv, we_and1, we_or1, we_and, we_or, we_tup, we_frz, we_alc, we_blt, we_call, we_meth, we_sl, we_isi, we_isi2, we_dsp, we_newd, wt_val, wt_cmp, wt_not, wt_andv, wt_orv, wt_and1, wt_or1, wt_and, wt_or, wa_nil, wa_cons, wn_disp, wn_lis, wn_comp, wi_rng, wi_enu, wi_one, wo_non, wo_some, ws_nop, ws_nil, ws_brk, ws_cnt, ws_retn, ws_exp, ws_ret, ws_raise, ws_ite, ws_set, ws_set, ws_setcF, ws_setcT, ws_par, ws_put, ws_seq, ws_for, ws_while, ws_try, List.getElem?_cons_zero, List.getElem?_cons_succ, Option.some.injEq, exists_eq_left', exists_eq_left, true_implies, forall_const, Bool.true_eq_false, Bool.false_eq_true, false_implies, and_true, true_and, setT, List.set_cons_zero, List.set_cons_succ, List.length_cons, List.length_nil, setAll, Option.bind_some, asB, Bool.not_true, Bool.not_false, o_add_i, o_add_s, o_add_t, o_add_l, o_sub_i, o_mul_i, o_fdv_i, o_mod_i, o_pow_i, o_neg_i, o_lt_i, o_le_i, o_gt_i, o_ge_i, o_is_n, o_isn_n, o_eq_d, o_ne_d, o_in_d, o_nin_d, bx_len, bx_int, bx_min, bx_max, bx_sum, bx_all, bx_any, bx_tuple, b_min_i, b_max_i, b_int_i, b_int_b, b_len_t, b_len_l, b_len_c, b_len_s, b_tup_t, b_tup_l, b_lis_t, b_lis_l, isa_tab, ty_non, ty_bl, ty_int, ty_str, ty_tup, ty_lst, ty_scr, ty_dic, tr_non, tr_bl, tr_int, tr_tup, tr_lst, tr_scr, nm_set, tp_set, ix_t, ix_l, ix_c, at_0, at_1, at_2, at_3, at_m, at_m1, range1, items_t, items_l, items_s, enu_t, enu_l, bel_int, bel_str, bel_bl, bel_non, out_bl, out_int, out_str, out_non, out_nx, mk_ends, mk_join, g_ends, fEq_i, fEq_b, rI_l, rI_d, rS_d, rL_l, r_pop, r_pop1, r_app, rr_q, rr_ix, rr_ixs, rr_len, rr_tup, rr_tru, rr_mkp, rr_mka, rr_pop, rr_app, rr_put, ok_put, out_rt, out_ex, Prod.mk.injEq, exists_eq, exists_and_left, exists_eq', bne_self_eq_false, Int.reduceBNe, Bool.true_and, and_assoc, Rs.ok.injEq, D.tup.injEq, D.bl.injEq, D.int.injEq, List.cons.injEq, enter_bs, D.bel, D.bels, List.cons_append, List.nil_append, startS, List.map_cons, List.map_nil, List.replicate_succ, List.replicate_zero, Nat.reduceSub, Nat.reduceAdd, Bool.or_false, Bool.false_or, Bool.or_true, Bool.true_or, Bool.and_true, Bool.and_false, Bool.true_and, Bool.false_and, if_true, if_false, reduceCtorEq, Bool.not_eq_true, decide_eq_true_eq, decide_eq_false_iff_not, and_self, onok, onokS, onnx, ite_true, ite_false, reduceIte, k_i, ne_ii, eq_io, ne_it, hk, decide_false, fEq_i, decide_true]
    | str x =>
      have h : PyData.canLay0 (.str x) = true := h
      simp only [f__law_equal, b__law_equal, onok_ok, onok_ex, onokS_ok, onokS_ex, onnx_nx, onnx_rt, onnx_bk, onnx_ct, onnx_ex, wc_ok, we_v, we_c, we_g, we_bin, we_cmp, we_ix, we_neg, we_not, we_ite, we_andv, we_orv, we_and1, we_or1, we_and, we_or, we_tup, we_frz, we_alc, we_blt, we_call, we_meth, we_sl, we_isi, we_isi2, we_dsp, we_newd, wt_val, wt_cmp, wt_not, wt_andv, wt_orv, wt_and1, wt_or1, wt_and, wt_or, wa_nil, wa_cons, wn_disp, wn_lis, wn_comp, wi_rng, wi_enu, wi_one, wo_non, wo_some, ws_nop, ws_nil, ws_brk, ws_cnt, ws_retn, ws_exp, ws_ret, ws_raise, ws_ite, ws_set, ws_set, ws_setcF, ws_setcT, ws_par, ws_put, ws_seq, ws_for, ws_while, ws_try, List.getElem?_cons_zero, List.getElem?_cons_succ, Option.some.injEq, exists_eq_left', exists_eq_left, true_implies, forall_const, Bool.true_eq_false, Bool.false_eq_true, false_implies, and_true, true_and, setT, List.set_cons_zero, List.set_cons_succ, List.length_cons, List.length_nil, setAll, Option.bind_some, asB, Bool.not_true, Bool.not_false, o_add_i, o_add_s, o_add_t, o_add_l, o_sub_i, o_mul_i, o_fdv_i, o_mod_i, o_pow_i, o_neg_i, o_lt_i, o_le_i, o_gt_i, o_ge_i, o_is_n, o_isn_n, o_eq_d, o_ne_d, o_in_d, o_nin_d, bx_len, bx_int, bx_min, bx_max, bx_sum, bx_all, bx_any, bx_tuple, b_min_i, b_max_i, b_int_i, b_int_b, b_len_t, b_len_l, b_len_c, b_len_s, b_tup_t, b_tup_l, b_lis_t, b_lis_l, isa_tab, ty_non, ty_bl, ty_int, ty_str, ty_tup, ty_lst, ty_scr, ty_dic, tr_non, tr_bl, tr_int, tr_tup, tr_lst, tr_scr, nm_set, tp_set, ix_t, ix_l, ix_c, at_0, at_1, at_2, at_3, at_m, at_m1, range1, items_t, items_l, items_s, enu_t, enu_l, bel_int, bel_str, bel_bl, bel_non, out_bl, out_int, out_str, out_non, out_nx, mk_ends, mk_join, g_ends, fEq_i, fEq_b, rI_l, rI_d, rS_d, rL_l, r_pop, r_pop1, r_app, rr_q, rr_ix, rr_ixs, rr_len, rr_tup, rr_tru, rr_mkp, rr_mka, rr_pop, rr_app, rr_put, ok_put, out_rt, out_ex, Prod.mk.injEq, exists_eq, exists_and_left, exists_eq', bne_self_eq_false, Int.reduceBNe, Bool.true_and, and_assoc, Rs.ok.injEq, D.tup.injEq, D.bl.injEq, D.int.injEq, List.cons.injEq, enter_bs, D.bel, D.bels, List.cons_append, List.nil_append, startS, List.map_cons, List.map_nil, List.replicate_succ, List.replicate_zero, Nat.reduceSub, Nat.reduceAdd, Bool.or_false, Bool.false_or, Bool.or_true, Bool.true_or, Bool.and_true, Bool.and_false, Bool.true_and, Bool.false_and, if_true, if_false, reduceCtorEq, Bool.not_eq_true, decide_eq_true_eq, decide_eq_false_iff_not, and_self, onok, onokS, onnx, ite_true, ite_false, reduceIte, k_s, ne_ss, eq_so, ne_st, hk, decide_false, fEq_s h h, decide_true]
    | tup xs =>
      have h : xs = [] := by simpa [eqOk] using h
      subst h
      simp only [f__law_equal, b__law_equal, onok_ok, onok_ex, onokS_ok, onokS_ex, onnx_nx, onnx_rt, onnx_bk, onnx_ct, onnx_ex, wc_ok, we_v, we_c, we_g, we_bin, we_cmp, we_ix, we_neg, we_not, we_ite, we_andv, we_orv, we_and1, we_or1, we_and, we_or, we_tup, we_frz, we_alc, we_blt, we_call, we_meth, we_sl, we_isi, we_isi2, we_dsp, we_newd, wt_val, wt_cmp, wt_not, wt_andv, wt_orv, wt_and1, wt_or1, wt_and, wt_or, wa_nil, wa_cons, wn_disp, wn_lis, wn_comp, wi_rng, wi_enu, wi_one, wo_non, wo_some, ws_nop, ws_nil, ws_brk, ws_cnt, ws_retn, ws_exp, ws_ret, ws_raise, ws_ite, ws_set, ws_set, ws_setcF, ws_setcT, ws_par, ws_put, ws_seq, ws_for, ws_while, ws_try, List.getElem?_cons_zero, List.getElem?_cons_succ, Option.some.injEq, exists_eq_left', exists_eq_left, true_implies, forall_const, Bool.true_eq_false, Bool.false_eq_true, false_implies, and_true, true_and, setT, List.set_cons_zero, List.set_cons_succ, List.length_cons, List.length_nil, setAll, Option.bind_some, asB, Bool.not_true, Bool.not_false, o_add_i, o_add_s, o_add_t, o_add_l, o_sub_i, o_mul_i, o_fdv_i, o_mod_i, o_pow_i, o_neg_i, o_lt_i, o_le_i, o_gt_i, o_ge_i, o_is_n, o_isn_n, o_eq_d, o_ne_d, o_in_d, o_nin_d, bx_len, bx_int, bx_min, bx_max, bx_sum, bx_all, bx_any, bx_tuple, b_min_i, b_max_i, b_int_i, b_int_b, b_len_t, b_len_l, b_len_c, b_len_s, b_tup_t, b_tup_l, b_lis_t, b_lis_l, isa_tab, ty_non, ty_bl, ty_int, ty_str, ty_tup, ty_lst, ty_scr, ty_dic, tr_non, tr_bl, tr_int, tr_tup, tr_lst, tr_scr, nm_set, tp_set, ix_t, ix_l, ix_c, at_0, at_1, at_2, at_3, at_m, at_m1, range1, items_t, items_l, items_s, enu_t, enu_l, bel_int, bel_str, bel_bl, bel_non, out_bl, out_int, out_str, out_non, out_nx, mk_ends, mk_join, g_ends, fEq_i, fEq_b, rI_l, rI_d, rS_d, rL_l, r_pop, r_pop1, r_app, rr_q, rr_ix, rr_ixs, rr_len, rr_tup, rr_tru, rr_mkp, rr_mka, rr_pop, rr_app, rr_put, ok_put, out_rt, out_ex, Prod.mk.injEq, exists_eq, exists_and_left, exists_eq', bne_self_eq_false, Int.reduceBNe, Bool.true_and, and_assoc, Rs.ok.injEq, D.tup.injEq, D.bl.injEq, D.int.injEq, List.cons.injEq, enter_bs, D.bel, D.bels, List.cons_append, List.nil_append, startS, List.map_cons, List.map_nil, List.replicate_succ, List.replicate_zero, Nat.reduceSub, Nat.reduceAdd, Bool.or_false, Bool.false_or, Bool.or_true, Bool.true_or, Bool.and_true, Bool.and_false, Bool.true_and, Bool.false_and, if_true, if_false, reduceCtorEq, Bool.not_eq_true, decide_eq_true_eq, decide_eq_false_iff_not, and_self, onok, onokS, onnx, ite_true, ite_false, reduceIte, k_t, ne_tt, eq_to, hk, decide_false, fNe_i, decide_true]
      refine ⟨_, rfl, ?_⟩
      refine ⟨.nx, _, st.enter, rfl, ?_⟩
      exact ⟨rfl, out_bl⟩
    | _ => cases h
  | succ k ih =>
    intro n v st h
    refine run_to (d := ⟨_, _, _, f__law_equal⟩) rfl rfl ?_
    have hk : ¬ (((k + 1 : Nat) : Int) < 0) := by omega
    cases v with
    | non =>
      have e : fEq .non .non st.enter = some (.bl true) := rfl
      simp only [f__law_equal, b__law_equal, onok_ok, onok_ex, onokS_ok, onokS_ex, onnx_nx, onnx_rt, onnx_bk, onnx_ct, onnx_ex, wc_ok, we_v, we_c, we_g, we_bin, we_cmp, we_ix, we_neg, we_not, we_ite, we_andv, we_orv, we_and1, we_or1, we_and, we_or, we_tup, we_frz, we_alc, we_blt, we_call, we_meth, we_sl, we_isi, we_isi2, we_dsp, we_newd, wt_val, wt_cmp, wt_not, wt_andv, wt_orv, wt_and1, wt_or1, wt_and, wt_or, wa_nil, wa_cons, wn_disp, wn_lis, wn_comp, wi_rng, wi_enu, wi_one, wo_non, wo_some, ws_nop, ws_nil, ws_brk, ws_cnt, ws_retn, ws_exp, ws_ret, ws_raise, ws_ite, ws_set, ws_set, ws_setcF, ws_setcT, ws_par, ws_put, ws_seq, ws_for, ws_while, ws_try, List.getElem?_cons_zero, List.getElem?_cons_succ, Option.some.injEq, exists_eq_left', exists_eq_left, true_implies, forall_const, Bool.true_eq_false, Bool.false_eq_true, false_implies, and_true, true_and, setT, List.set_cons_zero, List.set_cons_succ, List.length_cons, List.length_nil, setAll, Option.bind_some, asB, Bool.not_true, Bool.not_false, o_add_i, o_add_s, o_add_t, o_add_l, o_sub_i, o_mul_i, o_fdv_i, o_mod_i, o_pow_i, o_neg_i, o_lt_i, o_le_i, o_gt_i, o_ge_i, o_is_n, o_isn_n, o_eq_d, o_ne_d, o_in_d, o_nin_d, bx_len, bx_int, bx_min, bx_max, bx_sum, bx_all, bx_any, bx_tuple, b_min_i, b_max_i, b_int_i, b_int_b, b_len_t, b_len_l, b_len_c, b_len_s, b_tup_t, b_tup_l, b_lis_t, b_lis_l, isa_tab, ty_non, ty_bl, ty_int, ty_str, ty_tup, ty_lst, ty_scr, ty_dic, tr_non, tr_bl, tr_int, tr_tup, tr_lst, tr_scr, nm_set, tp_set, ix_t, ix_l, ix_c, at_0, at_1, at_2, at_3, at_m, at_m1, range1, items_t, items_l, items_s, enu_t, enu_l, bel_int, bel_str, bel_bl, bel_non, out_bl, out_int, out_str, out_non, out_nx, mk_ends, mk_join, g_ends, fEq_i, fEq_b, rI_l, rI_d, rS_d, rL_l, r_pop, r_pop1, r_app, rr_q, rr_ix, rr_ixs, rr_len, rr_tup, rr_tru, rr_mkp, rr_mka, rr_pop, rr_app, rr_put, ok_put, out_rt, out_ex, Prod.mk.injEq, exists_eq, exists_and_left, exists_eq', bne_self_eq_false, Int.reduceBNe, Bool.true_and, and_assoc, Rs.ok.injEq, D.tup.injEq, D.bl.injEq, D.int.injEq, List.cons.injEq, enter_bs, D.bel, D.bels, List.cons_append, List.nil_append, startS, List.map_cons, List.map_nil, List.replicate_succ, List.replicate_zero, Nat.reduceSub, Nat.reduceAdd, Bool.or_false, Bool.false_or, Bool.or_true, Bool.true_or, Bool.and_true, Bool.and_false, Bool.true_and, Bool.false_and, if_true, if_false, reduceCtorEq, Bool.not_eq_true, decide_eq_true_eq, decide_eq_false_iff_not, and_self, onok, onokS, onnx, ite_true, ite_false, reduceIte, k_n, ne_nn, eq_no, ne_nt, hk, decide_false, e]
    | bl b => simp only [f__law_equal, b__law_equal, onok_ok, onok_ex, onokS_ok, onokS_ex, onnx_nx, onnx_rt, onnx_bk, onnx_ct, onnx_ex, wc_ok, we_v, we_c, we_g, we_bin, we_cmp, we_ix, we_neg, we_not, we_ite, we_andv, we_orv, we_and1, we_or1, we_and, we_or, we_tup, we_frz, we_alc, we_blt, we_call, we_meth, we_sl, we_isi, we_isi2, we_dsp, we_newd, wt_val, wt_cmp, wt_not, wt_andv, wt_orv, wt_and1, wt_or1, wt_and, wt_or, wa_nil, wa_cons, wn_disp, wn_lis, wn_comp, wi_rng, wi_enu, wi_one, wo_non, wo_some, ws_nop, ws_nil, ws_brk, ws_cnt, ws_retn, ws_exp, ws_ret, ws_raise, ws_ite, ws_set, ws_set, ws_setcF, ws_setcT, ws_par, ws_put, ws_seq, ws_for, ws_while, ws_try, List.getElem?_cons_zero, List.getElem?_cons_succ, Option.some.injEq, exists_eq_left', exists_eq_left, true_implies, forall_const, Bool.true_eq_false, Bool.false_eq_true, false_implies, and_true, true_and, setT, List.set_cons_zero, List.set_cons_succ, List.length_cons, List.length_nil, setAll, Option.bind_some, asB, Bool.not_true, Bool.not_false, o_add_i, o_add_s, o_add_t, o_add_l, o_sub_i, o_mul_i, o_fdv_i, o_mod_i, o_pow_i, o_neg_i, o_lt_i, o_le_i, o_gt_i, o_ge_i, o_is_n, o_isn_n, o_eq_d, o_ne_d, o_in_d, o_nin_d, bx_len, bx_int, bx_min, bx_max, bx_sum, bx_all, bx_any, bx_tuple, b_min_i, b_max_i, b_int_i, b_int_b, b_len_t, b_len_l, b_len_c, b_len_s, b_tup_t, b_tup_l, b_lis_t, b_lis_l, isa_tab, ty_non, ty_bl, ty_int, ty_str, ty_tup, ty_lst, ty_scr, ty_dic, tr_non, tr_bl, tr_int, tr_tup, tr_lst, tr_scr, nm_set, tp_set, ix_t, ix_l, ix_c, at_0, at_1, at_2, at_3, at_m, at_m1, range1, items_t, items_l, items_s, enu_t, enu_l, bel_int, bel_str, bel_bl, bel_non, out_bl, out_int, out_str, out_non, out_nx, mk_ends, mk_join, g_ends, fEq_i, fEq_b, rI_l, rI_d, rS_d, rL_l, r_pop, r_pop1, r_app, rr_q, rr_ix, rr_ixs, rr_len, rr_tup, rr_tru, rr_mkp, rr_mka, rr_pop, rr_app, rr_put, ok_put, out_rt, out_ex, Prod.mk.injEq, exists_eq, exists_and_left, exists_eq', bne_self_eq_false, Int.reduceBNe, Bool.true_and, and_assoc, Rs.ok.injEq, D.tup.injEq, D.bl.injEq, D.int.injEq, List.cons.injEq, enter_bs, D.bel, D.bels, List.cons_append, List.nil_append, startS, List.map_cons, List.map_nil, List.replicate_succ, List.replicate_zero, Nat.reduceSub, Nat.reduceAdd, Bool.or_false, Bool.false_or, Bool.or_true, Bool.true_or, Bool.and_true, Bool.and_false, Bool.true_and, Bool.false_and, if_true, if_false, reduceCtorEq, Bool.not_eq_true, decide_eq_true_eq, decide_eq_false_iff_not, and_self, onok, onokS, onnx, ite_true, ite_false, reduceIte, k_b, ne_bb, eq_bo, ne_bt, hk, decide_false, fEq_b, decide_true]
    | int i => simp only [f__law_equal, b__law_equal, onok_ok, onok_ex, onokS_ok, onokS_ex, onnx_nx, onnx_rt, onnx_bk, onnx_ct, onnx_ex, wc_ok, we_v, we_c, we_g, we_bin, we_cmp, we_ix, we_neg, we_not, we_ite, we_andv, we_orv, we_and1, we_or1, we_and, we_or, we_tup, we_frz, we_alc, we_blt, we_call, we_meth, we_sl, we_isi, we_isi2, we_dsp, we_newd, wt_val, wt_cmp, wt_not, wt_andv, wt_orv, wt_and1, wt_or1, wt_and, wt_or, wa_nil, wa_cons, wn_disp, wn_lis, wn_comp, wi_rng, wi_enu, wi_one, wo_non, wo_some, ws_nop, ws_nil, ws_brk, ws_cnt, ws_retn, ws_exp, ws_ret, ws_raise, ws_ite, ws_set, ws_set, ws_setcF, ws_setcT, ws_par, ws_put, ws_seq, ws_for, ws_while, ws_try, List.getElem?_cons_zero, List.getElem?_cons_succ, Option.some.injEq, exists_eq_left', exists_eq_left, true_implies, forall_const, Bool.true_eq_false, Bool.false_eq_true, false_implies, and_true, true_and, setT, List.set_cons_zero, List.set_cons_succ, List.length_cons, List.length_nil, setAll, Option.bind_some, asB, Bool.not_true, Bool.not_false, o_add_i, o_add_s, o_add_t, o_add_l, o_sub_i, o_mul_i, o_fdv_i, o_mod_i, o_pow_i, o_neg_i, o_lt_i, o_le_i, o_gt_i, o_ge_i, o_is_n, o_isn_n, o_eq_d, o_ne_d, o_in_d, o_nin_d, bx_len, bx_int, bx_min, bx_max, bx_sum, bx_all, bx_any, bx_tuple, b_min_i, b_max_i, b_int_i, b_int_b, b_len_t, b_len_l, b_len_c, b_len_s, b_tup_t, b_tup_l, b_lis_t, b_lis_l, isa_tab, ty_non, ty_bl, ty_int, ty_str, ty_tup, ty_lst, ty_scr, ty_dic, tr_non, tr_bl, tr_int, tr_tup, tr_lst, tr_scr, nm_set, tp_set, ix_t, ix_l, ix_c, at_0, at_1, at_2, at_3, at_m, at_m1, range1, items_t, items_l, items_s, enu_t, enu_l, bel_int, bel_str, bel_bl, bel_non, out_bl, out_int, out_str, out_non, out_nx, mk_ends, mk_join, g_ends, fEq_i, fEq_b, rI_l, rI_d, rS_d, rL_l, r_pop, r_pop1, r_app, rr_q, rr_ix, rr_ixs, rr_len, rr_tup, rr_tru, rr_mkp, rr_mka, rr_pop, rr_app, rr_put, ok_put, out_rt, out_ex, Prod.mk.injEq, exists_eq, exists_and_left, exists_eq', bne_self_eq_false, Int.reduceBNe, Bool.true_and, and_assoc, Rs.ok.injEq, D.tup.injEq, D.bl.injEq, D.int.injEq, List.cons.injEq, enter_bs, D.bel, D.bels, List.cons_append, List.nil_append, startS, List.map_cons, List.map_nil, List.replicate_succ, List.replicate_zero, Nat.reduceSub, Nat.reduceAdd, Bool.or_false, Bool.false_or, Bool.or_true, Bool.true_or, Bool.and_true, Bool.and_false, Bool.true_and, Bool.false_and, if_true, if_false, reduceCtorEq, Bool.not_eq_true, decide_eq_true_eq, decide_eq_false_iff_not, and_self, onok, onokS, onnx, ite_true, ite_false, reduceIte, k_i, ne_ii, eq_io, ne_it, hk, decide_false, fEq_i, decide_true]
    | str x =>
      have h : PyData.canLay0 (.str x) = true := h
      simp only [f__law_equal, b__law_equal, onok_ok, onok_ex, onokS_ok, onokS_ex, onnx_nx, onnx_rt, onnx_bk, onnx_ct, onnx_ex, wc_ok, we_v, we_c, we_g, we_bin, we_cmp, we_ix, we_neg, we_not, we_ite, we_andv, we_orv, we_and1, we_or1, we_and, we_or, we_tup, we_frz, we_alc, we_blt, we_call, we_meth, we_sl, we_isi, we_isi2, we_dsp, we_newd, wt_val, wt_cmp, wt_not, wt_andv, wt_orv, wt_and1, wt_or1, wt_and, wt_or, wa_nil, wa_cons, wn_disp, wn_lis, wn_comp, wi_rng, wi_enu, wi_one, wo_non, wo_some, ws_nop, ws_nil, ws_brk, ws_cnt, ws_retn, ws_exp, ws_ret, ws_raise, ws_ite, ws_set, ws_set, ws_setcF, ws_setcT, ws_par, ws_put, ws_seq, ws_for, ws_while, ws_try, List.getElem?_cons_zero, List.getElem?_cons_succ, Option.some.injEq, exists_eq_left', exists_eq_left, true_implies, forall_const, Bool.true_eq_false, Bool.false_eq_true, false_implies, and_true, true_and, setT, List.set_cons_zero, List.set_cons_succ, List.length_cons, List.length_nil, setAll, Option.bind_some, asB, Bool.not_true, Bool.not_false, o_add_i, o_add_s, o_add_t, o_add_l, o_sub_i, o_mul_i, o_fdv_i, o_mod_i, o_pow_i, o_neg_i, o_lt_i, o_le_i, o_gt_i, o_ge_i, o_is_n, o_isn_n, o_eq_d, o_ne_d, o_in_d, o_nin_d, bx_len, bx_int, bx_min, bx_max, bx_sum, bx_all, bx_any, bx_tuple, b_min_i, b_max_i, b_int_i, b_int_b, b_len_t, b_len_l, b_len_c, b_len_s, b_tup_t, b_tup_l, b_lis_t, b_lis_l, isa_tab, ty_non, ty_bl, ty_int, ty_str, ty_tup, ty_lst, ty_scr, ty_dic, tr_non, tr_bl, tr_int, tr_tup, tr_lst, tr_scr, nm_set, tp_set, ix_t, ix_l, ix_c, at_0, at_1, at_2, at_3, at_m, at_m1, range1, items_t, items_l, items_s, enu_t, enu_l, bel_int, bel_str, bel_bl, bel_non, out_bl, out_int, out_str, out_non, out_nx, mk_ends, mk_join, g_ends, fEq_i, fEq_b, rI_l, rI_d, rS_d, rL_l, r_pop, r_pop1, r_app, rr_q, rr_ix, rr_ixs, rr_len, rr_tup, rr_tru, rr_mkp, rr_mka, rr_pop, rr_app, rr_put, ok_put, out_rt, out_ex, Prod.mk.injEq, exists_eq, exists_and_left, exists_eq', bne_self_eq_false, Int.reduceBNe, Bool.true_and, and_assoc, Rs.ok.injEq, D.tup.injEq, D.bl.injEq, D.int.injEq, List.cons.injEq, enter_bs, D.bel, D.bels, List.cons_append, List.nil_append, startS, List.map_cons, List.map_nil, List.replicate_succ, List.replicate_zero, Nat.reduceSub, Nat.reduceAdd, Bool.or_false, Bool.false_or, Bool.or_true, Bool.true_or, Bool.and_true, Bool.and_false, Bool.true_and, Bool.false_and, if_true, if_false, reduceCtorEq, Bool.not_eq_true, decide_eq_true_eq, decide_eq_false_iff_not, and_self, onok, onokS, onnx, ite_true, ite_false, reduceIte, k_s, ne_ss, eq_so, ne_st, hk, decide_false, fEq_s h h, decide_true]
    | tup xs =>
      obtain ⟨h1, h2⟩ := band (show (decide (xs.length ≤ 1000) && xs.all (eqOk k)) = true from h)
      have h1 := of_decide_eq_true h1
      have hr : -(2 : Int) ^ 62 ≤ (xs.length : Int) ∧ (xs.length : Int) < 2 ^ 62 := by omega
      simp only [f__law_equal, b__law_equal, onok_ok, onok_ex, onokS_ok, onokS_ex, onnx_nx, onnx_rt, onnx_bk, onnx_ct, onnx_ex, wc_ok, we_v, we_c, we_g, we_bin, we_cmp, we_ix, we_neg, we_not, we_ite, we_andv, we_orv, we_and1, we_or1, we_and, we_or, we_tup, we_frz, we_alc, we_blt, we_call, we_meth, we_sl, we_isi, we_isi2, we_dsp, we_newd, wt_val, wt_cmp, wt_not, wt_andv, wt_orv, wt_and1, wt_or1, wt_and, wt_or, wa_nil, wa_cons, wn_disp, wn_lis, wn_comp, wi_rng, wi_enu, wi_one, wo_non, wo_some, ws_nop, ws_nil, ws_brk, ws_cnt, ws_retn, ws_exp, ws_ret, ws_raise, ws_ite, ws_set, ws_set, ws_setcF, ws_setcT, ws_par, ws_put, ws_seq, ws_for, ws_while, ws_try, List.getElem?_cons_zero, List.getElem?_cons_succ, Option.some.injEq, exists_eq_left', exists_eq_left, true_implies, forall_const, Bool.true_eq_false, Bool.false_eq_true, false_implies, and_true, true_and, setT, List.set_cons_zero, List.set_cons_succ, List.length_cons, List.length_nil, setAll, Option.bind_some, asB, Bool.not_true, Bool.not_false, o_add_i, o_add_s, o_add_t, o_add_l, o_sub_i, o_mul_i, o_fdv_i, o_mod_i, o_pow_i, o_neg_i, o_lt_i, o_le_i, o_gt_i, o_ge_i, o_is_n, o_isn_n, o_eq_d, o_ne_d, o_in_d, o_nin_d, bx_len, bx_int, bx_min, bx_max, bx_sum, bx_all, bx_any, bx_tuple, b_min_i, b_max_i, b_int_i, b_int_b, b_len_t, b_len_l, b_len_c, b_len_s, b_tup_t, b_tup_l, b_lis_t, b_lis_l, isa_tab, ty_non, ty_bl, ty_int, ty_str, ty_tup, ty_lst, ty_scr, ty_dic, tr_non, tr_bl, tr_int, tr_tup, tr_lst, tr_scr, nm_set, tp_set, ix_t, ix_l, ix_c, at_0, at_1, at_2, at_3, at_m, at_m1, range1, items_t, items_l, items_s, enu_t, enu_l, bel_int, bel_str, bel_bl, bel_non, out_bl, out_int, out_str, out_non, out_nx, mk_ends, mk_join, g_ends, fEq_i, fEq_b, rI_l, rI_d, rS_d, rL_l, r_pop, r_pop1, r_app, rr_q, rr_ix, rr_ixs, rr_len, rr_tup, rr_tru, rr_mkp, rr_mka, rr_pop, rr_app, rr_put, ok_put, out_rt, out_ex, Prod.mk.injEq, exists_eq, exists_and_left, exists_eq', bne_self_eq_false, Int.reduceBNe, Bool.true_and, and_assoc, Rs.ok.injEq, D.tup.injEq, D.bl.injEq, D.int.injEq, List.cons.injEq, enter_bs, D.bel, D.bels, List.cons_append, List.nil_append, startS, List.map_cons, List.map_nil, List.replicate_succ, List.replicate_zero, Nat.reduceSub, Nat.reduceAdd, Bool.or_false, Bool.false_or, Bool.or_true, Bool.true_or, Bool.and_true, Bool.and_false, Bool.true_and, Bool.false_and, if_true, if_false, reduceCtorEq, Bool.not_eq_true, decide_eq_true_eq, decide_eq_false_iff_not, and_self, onok, onokS, onnx, ite_true, ite_false, reduceIte, k_t, ne_tt, eq_to, hk, decide_false, fNe_i, decide_true, hr]
      refine for_inv (fun ys sl s1 => ∃ o, (∀ y ∈ ys, ∃ i : Nat, i < xs.length ∧ y = .int (0 + (i : Nat))) ∧ sl = [some (.tup xs), some (.tup xs), some (.int ((k + 1 : Nat) : Int)), some (.str kT), o] ∧ s1 = st.enter) (fun _ _ _ _ => rfl) ?_ ?_ ⟨none, ?_, rfl, rfl⟩
      · rintro y r sl s1 ⟨o, hy, rfl, rfl⟩
        obtain ⟨i, hi, rfl⟩ := hy y List.mem_cons_self
        refine ⟨_, rfl, ?_⟩
        have hx : xs[i]? = some (xs[i]) := by simp [hi]
        have ha : L2.atI xs (0 + (i : Nat)) = some (xs[i]) := by rw [Int.zero_add, at_ok hi, hx]
        have e1 : ((k + 1 : Nat) : Int) - 1 = (k : Nat) := by omega
        have ic : md.call (n + (k + 1) + 1) 21 [xs[i], xs[i], .int (k : Nat)] st.enter = some (.ok (.bl true), st.enter) := ih n xs[i] st.enter (List.all_eq_true.mp h2 _ (List.getElem_mem hi))
        simp only [onok_ok, onok_ex, onokS_ok, onokS_ex, onnx_nx, onnx_rt, onnx_bk, onnx_ct, onnx_ex, wc_ok, we_v, we_c, we_g, we_bin, we_cmp, we_ix, we_neg, we_not, we_ite, we_andv, we_orv, we_and1, we_or1, we_and, we_or, we_tup, we_frz, we_alc, we_blt, we_call, we_meth, we_sl, we_isi, we_isi2, we_dsp, we_newd, wt_val, wt_cmp, wt_not, wt_andv, wt_orv, wt_and1, wt_or1, wt_and, wt_or, wa_nil, wa_cons, wn_disp, wn_lis, wn_comp, wi_rng, wi_enu, wi_one, wo_non, wo_some, ws_nop, ws_nil, ws_brk, ws_cnt, ws_retn, ws_exp, ws_ret, ws_raise, ws_ite, ws_set, ws_set, ws_setcF, ws_setcT, ws_par, ws_put, ws_seq, ws_for, ws_while, ws_try, List.getElem?_cons_zero, List.getElem?_cons_succ, Option.some.injEq, exists_eq_left', exists_eq_left, true_implies, forall_const, Bool.true_eq_false, Bool.false_eq_true, false_implies, and_true, true_and, setT, List.set_cons_zero, List.set_cons_succ, List.length_cons, List.length_nil, setAll, Option.bind_some, asB, Bool.not_true, Bool.not_false, o_add_i, o_add_s, o_add_t, o_add_l, o_sub_i, o_mul_i, o_fdv_i, o_mod_i, o_pow_i, o_neg_i, o_lt_i, o_le_i, o_gt_i, o_ge_i, o_is_n, o_isn_n, o_eq_d, o_ne_d, o_in_d, o_nin_d, bx_len, bx_int, bx_min, bx_max, bx_sum, bx_all, bx_any, bx_tuple, b_min_i, b_max_i, b_int_i, b_int_b, b_len_t, b_len_l, b_len_c, b_len_s, b_tup_t, b_tup_l, b_lis_t, b_lis_l, isa_tab, ty_non, ty_bl, ty_int, ty_str, ty_tup, ty_lst, ty_scr, ty_dic, tr_non, tr_bl, tr_int, tr_tup, tr_lst, tr_scr, nm_set, tp_set, ix_t, ix_l, ix_c, at_0, at_1, at_2, at_3, at_m, at_m1, range1, items_t, items_l, items_s, enu_t, enu_l, bel_int, bel_str, bel_bl, bel_non, out_bl, out_int, out_str, out_non, out_nx, mk_ends, mk_join, g_ends, fEq_i, fEq_b, rI_l, rI_d, rS_d, rL_l, r_pop, r_pop1, r_app, rr_q, rr_ix, rr_ixs, rr_len, rr_tup, rr_tru, rr_mkp, rr_mka, rr_pop, rr_app, rr_put, ok_put, out_rt, out_ex, Prod.mk.injEq, exists_eq, exists_and_left, exists_eq', bne_self_eq_false, Int.reduceBNe, Bool.true_and, and_assoc, Rs.ok.injEq, D.tup.injEq, D.bl.injEq, D.int.injEq, List.cons.injEq, enter_bs, D.bel, D.bels, List.cons_append, List.nil_append, startS, List.map_cons, List.map_nil, List.replicate_succ, List.replicate_zero, Nat.reduceSub, Nat.reduceAdd, Bool.or_false, Bool.false_or, Bool.or_true, Bool.true_or, Bool.and_true, Bool.and_false, Bool.true_and, Bool.false_and, if_true, if_false, reduceCtorEq, Bool.not_eq_true, decide_eq_true_eq, decide_eq_false_iff_not, and_self, onok, onokS, onnx, ite_true, ite_false, reduceIte, ha, e1, ic]
        exact fun y hy' => hy y (List.mem_cons_of_mem _ hy')
      · rintro sl s1 ⟨o, hy, rfl, rfl⟩
        simp only [onok_ok, onok_ex, onokS_ok, onokS_ex, onnx_nx, onnx_rt, onnx_bk, onnx_ct, onnx_ex, wc_ok, we_v, we_c, we_g, we_bin, we_cmp, we_ix, we_neg, we_not, we_ite, we_andv, we_orv, we_and1, we_or1, we_and, we_or, we_tup, we_frz, we_alc, we_blt, we_call, we_meth, we_sl, we_isi, we_isi2, we_dsp, we_newd, wt_val, wt_cmp, wt_not, wt_andv, wt_orv, wt_and1, wt_or1, wt_and, wt_or, wa_nil, wa_cons, wn_disp, wn_lis, wn_comp, wi_rng, wi_enu, wi_one, wo_non, wo_some, ws_nop, ws_nil, ws_brk, ws_cnt, ws_retn, ws_exp, ws_ret, ws_raise, ws_ite, ws_set, ws_set, ws_setcF, ws_setcT, ws_par, ws_put, ws_seq, ws_for, ws_while, ws_try, List.getElem?_cons_zero, List.getElem?_cons_succ, Option.some.injEq, exists_eq_left', exists_eq_left, true_implies, forall_const, Bool.true_eq_false, Bool.false_eq_true, false_implies, and_true, true_and, setT, List.set_cons_zero, List.set_cons_succ, List.length_cons, List.length_nil, setAll, Option.bind_some, asB, Bool.not_true, Bool.not_false, o_add_i, o_add_s, o_add_t, o_add_l, o_sub_i, o_mul_i, o_fdv_i, o_mod_i, o_pow_i, o_neg_i, o_lt_i, o_le_i, o_gt_i, o_ge_i, o_is_n, o_isn_n, o_eq_d, o_ne_d, o_in_d, o_nin_d, bx_len, bx_int, bx_min, bx_max, bx_sum, bx_all, bx_any, bx_tuple, b_min_i, b_max_i, b_int_i, b_int_b, b_len_t, b_len_l, b_len_c, b_len_s, b_tup_t, b_tup_l, b_lis_t, b_lis_l, isa_tab, ty_non, ty_bl, ty_int, ty_str, ty_tup, ty_lst, ty_scr, ty_dic, tr_non, tr_bl, tr_int, tr_tup, tr_lst, tr_scr, nm_set, tp_set, ix_t, ix_l, ix_c, at_0, at_1, at_2, at_3, at_m, at_m1, range1, items_t, items_l, items_s, enu_t, enu_l, bel_int, bel_str, bel_bl, bel_non, out_bl, out_int, out_str, out_non, out_nx, mk_ends, mk_join, g_ends, fEq_i, fEq_b, rI_l, rI_d, rS_d, rL_l, r_pop, r_pop1, r_app, rr_q, rr_ix, rr_ixs, rr_len, rr_tup, rr_tru, rr_mkp, rr_mka, rr_pop, rr_app, rr_put, ok_put, out_rt, out_ex, Prod.mk.injEq, exists_eq, exists_and_left, exists_eq', bne_self_eq_false, Int.reduceBNe, Bool.true_and, and_assoc, Rs.ok.injEq, D.tup.injEq, D.bl.injEq, D.int.injEq, List.cons.injEq, enter_bs, D.bel, D.bels, List.cons_append, List.nil_append, startS, List.map_cons, List.map_nil, List.replicate_succ, List.replicate_zero, Nat.reduceSub, Nat.reduceAdd, Bool.or_false, Bool.false_or, Bool.or_true, Bool.true_or, Bool.and_true, Bool.and_false, Bool.true_and, Bool.false_and, if_true, if_false, reduceCtorEq, Bool.not_eq_true, decide_eq_true_eq, decide_eq_false_iff_not, and_self, onok, onokS, onnx, ite_true, ite_false, reduceIte]
      · intro y hy
        obtain ⟨i, hi, rfl⟩ := List.mem_map.mp hy
        exact ⟨i, by simpa using hi, rfl⟩
    | _ => cases h
end K00

set_option Elab.async false
set_option linter.all false
set_option maxRecDepth 100000
set_option maxHeartbeats 0
namespace K00
open PySem Hb L2
theorem c_eq1 (n : Nat) (v : D) (st : Sto) (h : eqOk 1 v = true) : md.call (n + 3) 21 [v, v, .int 1] st = some (.ok (.bl true), st) := c_equal 1 n v st h
theorem c_eq3 (n : Nat) (v : D) (st : Sto) (h : eqOk 3 v = true) : md.call (n + 5) 21 [v, v, .int 3] st = some (.ok (.bl true), st) := c_equal 3 n v st h
theorem c_eq4 (n : Nat) (v : D) (st : Sto) (h : eqOk 4 v = true) : md.call (n + 6) 21 [v, v, .int 4] st = some (.ok (.bl true), st) := c_equal 4 n v st h
/-- the last sign -/
theorem Wd.Ok.last {w : Wd} (h : w.Ok) (st : Sto) : ∃ z, fSl (.str w.s) (some (-1)) none st = some (.str z) ∧ fEq (.str z) (.str ⟨#[47]⟩) st = some (.bl w.b) := by
  have e : fSl (.str w.s) (some (-1)) none st = some (.str (cutS w.s (some (-1)) none)) := by
    show (if w.s.length ≤ sizeLine then some (D.str (cutS w.s (some (-1)) none)) else none) = _
    rw [if_pos h.short]
  refine ⟨_, e, ?_⟩
  cases hb : w.b with
  | true =>
    have : cutS w.s (some (-1)) none = ⟨#[47]⟩ := by
      unfold cutS Wd.s Wd.cs
      rw [hb]
      have e : (-1 + ((w.ls.length : Int) + 1)).toNat = w.ls.length := by omega
      simp [Str.length, HT.sIx, e]
    rw [this]
    exact fEq_s' lay_s lay_s (by decide)
  | false =>
    obtain ⟨r, c, hc⟩ : ∃ r c, w.ls = r ++ [c] := by
      rcases List.eq_nil_or_concat w.ls with z | ⟨r, c, z⟩
      · exact absurd z h.ne
      · exact ⟨r, c, by rw [z, List.concat_eq_append]⟩
    have hl := h.lt c (by rw [hc]; simp)
    have : cutS w.s (some (-1)) none = ⟨#[c]⟩ := by
      unfold cutS Wd.s Wd.cs
      rw [hb, hc]
      have e : (-1 + ((r.length : Int) + 1)).toNat = r.length := by omega
      simp [Str.length, HT.sIx, e]
    rw [this]
    have lc : PyData.canLay0 (.str ⟨#[c]⟩) = true := by
      show (#[c].all fun x => decide (x < 0x110000)) = true
      have := hl.2
      simp
      omega
    refine fEq_s' lc lay_s (decide_eq_false fun z => ?_)
    have : c = 47 := by simpa using z
    have := hl.1
    omega
theorem c_pushes (n : Nat) (h : Ho) (k z : Int) (w : Wd) (hw : w.Ok) (st : Sto) : md.call (n + 1) 19 [h.d, .int (k + z), .str w.s] st = some (.ok (.bl (h.say k z w.b).2), st) := by
  refine run_to (d := ⟨_, _, _, f__law_pushes⟩) rfl rfl ?_
  obtain ⟨y, e1, e2⟩ := hw.last st.enter
  cases h with
  | en => simp only [f__law_pushes, b__law_pushes, Ho.d, Ho.say, onok_ok, onok_ex, onokS_ok, onokS_ex, onnx_nx, onnx_rt, onnx_bk, onnx_ct, onnx_ex, wc_ok, we_v, we_c, we_g, we_bin, we_cmp, we_ix, we_neg, we_not, we_ite, we_andv, we_orv, we_and1, we_or1, we_and, we_or, we_tup, we_frz, we_alc, we_blt, we_call, we_meth, we_sl, we_isi, we_isi2, we_dsp, we_newd, wt_val, wt_cmp, wt_not, wt_andv, wt_orv, wt_and1, wt_or1, wt_and, wt_or, wa_nil, wa_cons, wn_disp, wn_lis, wn_comp, wi_rng, wi_enu, wi_one, wo_non, wo_some, ws_nop, ws_nil, ws_brk, ws_cnt, ws_retn, ws_exp, ws_ret, ws_raise, ws_ite, ws_set, ws_set, ws_setcF, ws_setcT, ws_par, ws_put, ws_seq, ws_for, ws_while, ws_try, List.getElem?_cons_zero, List.getElem?_cons_succ, Option.some.injEq, exists_eq_left', exists_eq_left, true_implies, forall_const, Bool.true_eq_false, Bool.false_eq_true, false_implies, and_true, true_and, setT, List.set_cons_zero, List.set_cons_succ, List.length_cons, List.length_nil, setAll, Option.bind_some, asB, Bool.not_true, Bool.not_false, o_add_i, o_add_s, o_add_t, o_add_l, o_sub_i, o_mul_i, o_fdv_i, o_mod_i, o_pow_i, o_neg_i, o_lt_i, o_le_i, o_gt_i, o_ge_i, o_is_n, o_isn_n, o_eq_d, o_ne_d, o_in_d, o_nin_d, bx_len, bx_int, bx_min, bx_max, bx_sum, bx_all, bx_any, bx_tuple, b_min_i, b_max_i, b_int_i, b_int_b, b_len_t, b_len_l, b_len_c, b_len_s, b_tup_t, b_tup_l, b_lis_t, b_lis_l, isa_tab, ty_non, ty_bl, ty_int, ty_str, ty_tup, ty_lst, ty_scr, ty_dic, tr_non, tr_bl, tr_int, tr_tup, tr_lst, tr_scr, nm_set, tp_set, ix_t, ix_l, ix_c, at_0, at_1, at_2, at_3, at_m, at_m1, range1, items_t, items_l, items_s, enu_t, enu_l, bel_int, bel_str, bel_bl, bel_non, out_bl, out_int, out_str, out_non, out_nx, mk_ends, mk_join, g_ends, fEq_i, fEq_b, rI_l, rI_d, rS_d, rL_l, r_pop, r_pop1, r_app, rr_q, rr_ix, rr_ixs, rr_len, rr_tup, rr_tru, rr_mkp, rr_mka, rr_pop, rr_app, rr_put, ok_put, out_rt, out_ex, Prod.mk.injEq, exists_eq, exists_and_left, exists_eq', bne_self_eq_false, Int.reduceBNe, Bool.true_and, and_assoc, Rs.ok.injEq, D.tup.injEq, D.bl.injEq, D.int.injEq, List.cons.injEq, enter_bs, D.bel, D.bels, List.cons_append, List.nil_append, startS, List.map_cons, List.map_nil, List.replicate_succ, List.replicate_zero, Nat.reduceSub, Nat.reduceAdd, Bool.or_false, Bool.false_or, Bool.or_true, Bool.true_or, Bool.and_true, Bool.and_false, Bool.true_and, Bool.false_and, if_true, if_false, reduceCtorEq, Bool.not_eq_true, decide_eq_true_eq, decide_eq_false_iff_not, and_self, onok, onokS, onnx, ite_true, ite_false, reduceIte, eq_ee]
  | i m => simp only [f__law_pushes, b__law_pushes, Ho.d, Ho.say, onok_ok, onok_ex, onokS_ok, onokS_ex, onnx_nx, onnx_rt, onnx_bk, onnx_ct, onnx_ex, wc_ok, we_v, we_c, we_g, we_bin, we_cmp, we_ix, we_neg, we_not, we_ite, we_andv, we_orv, we_and1, we_or1, we_and, we_or, we_tup, we_frz, we_alc, we_blt, we_call, we_meth, we_sl, we_isi, we_isi2, we_dsp, we_newd, wt_val, wt_cmp, wt_not, wt_andv, wt_orv, wt_and1, wt_or1, wt_and, wt_or, wa_nil, wa_cons, wn_disp, wn_lis, wn_comp, wi_rng, wi_enu, wi_one, wo_non, wo_some, ws_nop, ws_nil, ws_brk, ws_cnt, ws_retn, ws_exp, ws_ret, ws_raise, ws_ite, ws_set, ws_set, ws_setcF, ws_setcT, ws_par, ws_put, ws_seq, ws_for, ws_while, ws_try, List.getElem?_cons_zero, List.getElem?_cons_succ, Option.some.injEq, exists_eq_left', exists_eq_left, true_implies, forall_const, Bool.true_eq_false, Bool.false_eq_true, false_implies, and_true, true_and, setT, List.set_cons_zero, List.set_cons_succ, List.length_cons, List.length_nil, setAll, Option.bind_some, asB, Bool.not_true, Bool.not_false, o_add_i, o_add_s, o_add_t, o_add_l, o_sub_i, o_mul_i, o_fdv_i, o_mod_i, o_pow_i, o_neg_i, o_lt_i, o_le_i, o_gt_i, o_ge_i, o_is_n, o_isn_n, o_eq_d, o_ne_d, o_in_d, o_nin_d, bx_len, bx_int, bx_min, bx_max, bx_sum, bx_all, bx_any, bx_tuple, b_min_i, b_max_i, b_int_i, b_int_b, b_len_t, b_len_l, b_len_c, b_len_s, b_tup_t, b_tup_l, b_lis_t, b_lis_l, isa_tab, ty_non, ty_bl, ty_int, ty_str, ty_tup, ty_lst, ty_scr, ty_dic, tr_non, tr_bl, tr_int, tr_tup, tr_lst, tr_scr, nm_set, tp_set, ix_t, ix_l, ix_c, at_0, at_1, at_2, at_3, at_m, at_m1, range1, items_t, items_l, items_s, enu_t, enu_l, bel_int, bel_str, bel_bl, bel_non, out_bl, out_int, out_str, out_non, out_nx, mk_ends, mk_join, g_ends, fEq_i, fEq_b, rI_l, rI_d, rS_d, rL_l, r_pop, r_pop1, r_app, rr_q, rr_ix, rr_ixs, rr_len, rr_tup, rr_tru, rr_mkp, rr_mka, rr_pop, rr_app, rr_put, ok_put, out_rt, out_ex, Prod.mk.injEq, exists_eq, exists_and_left, exists_eq', bne_self_eq_false, Int.reduceBNe, Bool.true_and, and_assoc, Rs.ok.injEq, D.tup.injEq, D.bl.injEq, D.int.injEq, List.cons.injEq, enter_bs, D.bel, D.bels, List.cons_append, List.nil_append, startS, List.map_cons, List.map_nil, List.replicate_succ, List.replicate_zero, Nat.reduceSub, Nat.reduceAdd, Bool.or_false, Bool.false_or, Bool.or_true, Bool.true_or, Bool.and_true, Bool.and_false, Bool.true_and, Bool.false_and, if_true, if_false, reduceCtorEq, Bool.not_eq_true, decide_eq_true_eq, decide_eq_false_iff_not, and_self, onok, onokS, onnx, ite_true, ite_false, reduceIte, eq_ie]
  | t m =>
    simp only [f__law_pushes, b__law_pushes, Ho.d, Ho.say, onok_ok, onok_ex, onokS_ok, onokS_ex, onnx_nx, onnx_rt, onnx_bk, onnx_ct, onnx_ex, wc_ok, we_v, we_c, we_g, we_bin, we_cmp, we_ix, we_neg, we_not, we_ite, we_andv, we_orv, we_and1, we_or1, we_and, we_or, we_tup, we_frz, we_alc, we_blt, we_call, we_meth, we_sl, we_isi, we_isi2, we_dsp, we_newd, wt_val, wt_cmp, wt_not, wt_andv, wt_orv, wt_and1, wt_or1, wt_and, wt_or, wa_nil, wa_cons, wn_disp, wn_lis, wn_comp, wi_rng, wi_enu, wi_one, wo_non, wo_some, ws_nop, ws_nil, ws_brk, ws_cnt, ws_retn, ws_exp, ws_ret, ws_raise, ws_ite, ws_set, ws_set, ws_setcF, ws_setcT, ws_par, ws_put, ws_seq, ws_for, ws_while, ws_try, List.getElem?_cons_zero, List.getElem?_cons_succ, Option.some.injEq, exists_eq_left', exists_eq_left, true_implies, forall_const, Bool.true_eq_false, Bool.false_eq_true, false_implies, and_true, true_and, setT, List.set_cons_zero, List.set_cons_succ, List.length_cons, List.length_nil, setAll, Option.bind_some, asB, Bool.not_true, Bool.not_false, o_add_i, o_add_s, o_add_t, o_add_l, o_sub_i, o_mul_i, o_fdv_i, o_mod_i, o_pow_i, o_neg_i, o_lt_i, o_le_i, o_gt_i, o_ge_i, o_is_n, o_isn_n, o_eq_d, o_ne_d, o_in_d, o_nin_d, bx_len, bx_int, bx_min, bx_max, bx_sum, bx_all, bx_any, bx_tuple, b_min_i, b_max_i, b_int_i, b_int_b, b_len_t, b_len_l, b_len_c, b_len_s, b_tup_t, b_tup_l, b_lis_t, b_lis_l, isa_tab, ty_non, ty_bl, ty_int, ty_str, ty_tup, ty_lst, ty_scr, ty_dic, tr_non, tr_bl, tr_int, tr_tup, tr_lst, tr_scr, nm_set, tp_set, ix_t, ix_l, ix_c, at_0, at_1, at_2, at_3, at_m, at_m1, range1, items_t, items_l, items_s, enu_t, enu_l, bel_int, bel_str, bel_bl, bel_non, out_bl, out_int, out_str, out_non, out_nx, mk_ends, mk_join, g_ends, fEq_i, fEq_b, rI_l, rI_d, rS_d, rL_l, r_pop, r_pop1, r_app, rr_q, rr_ix, rr_ixs, rr_len, rr_tup, rr_tru, rr_mkp, rr_mka, rr_pop, rr_app, rr_put, ok_put, out_rt, out_ex, Prod.mk.injEq, exists_eq, exists_and_left, exists_eq', bne_self_eq_false, Int.reduceBNe, Bool.true_and, and_assoc, Rs.ok.injEq, D.tup.injEq, D.bl.injEq, D.int.injEq, List.cons.injEq, enter_bs, D.bel, D.bels, List.cons_append, List.nil_append, startS, List.map_cons, List.map_nil, List.replicate_succ, List.replicate_zero, Nat.reduceSub, Nat.reduceAdd, Bool.or_false, Bool.false_or, Bool.or_true, Bool.true_or, Bool.and_true, Bool.and_false, Bool.true_and, Bool.false_and, if_true, if_false, reduceCtorEq, Bool.not_eq_true, decide_eq_true_eq, decide_eq_false_iff_not, and_self, onok, onokS, onnx, ite_true, ite_false, reduceIte, eq_te, e1, e2, asI, Int.reduceNeg]
    by_cases q : m ≤ k + z <;> simp [q, out_bl]
  | l m =>
    simp only [f__law_pushes, b__law_pushes, Ho.d, Ho.say, onok_ok, onok_ex, onokS_ok, onokS_ex, onnx_nx, onnx_rt, onnx_bk, onnx_ct, onnx_ex, wc_ok, we_v, we_c, we_g, we_bin, we_cmp, we_ix, we_neg, we_not, we_ite, we_andv, we_orv, we_and1, we_or1, we_and, we_or, we_tup, we_frz, we_alc, we_blt, we_call, we_meth, we_sl, we_isi, we_isi2, we_dsp, we_newd, wt_val, wt_cmp, wt_not, wt_andv, wt_orv, wt_and1, wt_or1, wt_and, wt_or, wa_nil, wa_cons, wn_disp, wn_lis, wn_comp, wi_rng, wi_enu, wi_one, wo_non, wo_some, ws_nop, ws_nil, ws_brk, ws_cnt, ws_retn, ws_exp, ws_ret, ws_raise, ws_ite, ws_set, ws_set, ws_setcF, ws_setcT, ws_par, ws_put, ws_seq, ws_for, ws_while, ws_try, List.getElem?_cons_zero, List.getElem?_cons_succ, Option.some.injEq, exists_eq_left', exists_eq_left, true_implies, forall_const, Bool.true_eq_false, Bool.false_eq_true, false_implies, and_true, true_and, setT, List.set_cons_zero, List.set_cons_succ, List.length_cons, List.length_nil, setAll, Option.bind_some, asB, Bool.not_true, Bool.not_false, o_add_i, o_add_s, o_add_t, o_add_l, o_sub_i, o_mul_i, o_fdv_i, o_mod_i, o_pow_i, o_neg_i, o_lt_i, o_le_i, o_gt_i, o_ge_i, o_is_n, o_isn_n, o_eq_d, o_ne_d, o_in_d, o_nin_d, bx_len, bx_int, bx_min, bx_max, bx_sum, bx_all, bx_any, bx_tuple, b_min_i, b_max_i, b_int_i, b_int_b, b_len_t, b_len_l, b_len_c, b_len_s, b_tup_t, b_tup_l, b_lis_t, b_lis_l, isa_tab, ty_non, ty_bl, ty_int, ty_str, ty_tup, ty_lst, ty_scr, ty_dic, tr_non, tr_bl, tr_int, tr_tup, tr_lst, tr_scr, nm_set, tp_set, ix_t, ix_l, ix_c, at_0, at_1, at_2, at_3, at_m, at_m1, range1, items_t, items_l, items_s, enu_t, enu_l, bel_int, bel_str, bel_bl, bel_non, out_bl, out_int, out_str, out_non, out_nx, mk_ends, mk_join, g_ends, fEq_i, fEq_b, rI_l, rI_d, rS_d, rL_l, r_pop, r_pop1, r_app, rr_q, rr_ix, rr_ixs, rr_len, rr_tup, rr_tru, rr_mkp, rr_mka, rr_pop, rr_app, rr_put, ok_put, out_rt, out_ex, Prod.mk.injEq, exists_eq, exists_and_left, exists_eq', bne_self_eq_false, Int.reduceBNe, Bool.true_and, and_assoc, Rs.ok.injEq, D.tup.injEq, D.bl.injEq, D.int.injEq, List.cons.injEq, enter_bs, D.bel, D.bels, List.cons_append, List.nil_append, startS, List.map_cons, List.map_nil, List.replicate_succ, List.replicate_zero, Nat.reduceSub, Nat.reduceAdd, Bool.or_false, Bool.false_or, Bool.or_true, Bool.true_or, Bool.and_true, Bool.and_false, Bool.true_and, Bool.false_and, if_true, if_false, reduceCtorEq, Bool.not_eq_true, decide_eq_true_eq, decide_eq_false_iff_not, and_self, onok, onokS, onnx, ite_true, ite_false, reduceIte, eq_le, e1, e2, asI, Int.reduceNeg]
    by_cases q : m ≤ k + z <;> simp [q, out_bl]
theorem say_of (h : Ho) (k z : Int) (e : Bool) : h.say k z e = if (h.say k z e).2 = true then (0, true) else (k + z, false) := by
  cases h with
  | en => rfl
  | i m => by_cases q : m ≤ k + z <;> simp [Ho.say, q]
  | t m => by_cases q : m ≤ k + z <;> cases e <;> simp [Ho.say, q]
  | l m => by_cases q : m ≤ k + z <;> cases e <;> simp [Ho.say, q]
theorem c_behind (n : Nat) (h : Ho) (k : Int) (w : Wd) (hw : w.Ok) (st : Sto) : md.call (n + 2) 26 [h.d, .int k, .str w.s] st = some (.ok (out2 (h.say k w.cs.length w.b)), st) := by
  refine run_to (d := ⟨_, _, _, f__law_behind⟩) rfl rfl ?_
  simp only [f__law_behind, b__law_behind, onok_ok, onok_ex, onokS_ok, onokS_ex, onnx_nx, onnx_rt, onnx_bk, onnx_ct, onnx_ex, wc_ok, we_v, we_c, we_g, we_bin, we_cmp, we_ix, we_neg, we_not, we_ite, we_andv, we_orv, we_and1, we_or1, we_and, we_or, we_tup, we_frz, we_alc, we_blt, we_call, we_meth, we_sl, we_isi, we_isi2, we_dsp, we_newd, wt_val, wt_cmp, wt_not, wt_andv, wt_orv, wt_and1, wt_or1, wt_and, wt_or, wa_nil, wa_cons, wn_disp, wn_lis, wn_comp, wi_rng, wi_enu, wi_one, wo_non, wo_some, ws_nop, ws_nil, ws_brk, ws_cnt, ws_retn, ws_exp, ws_ret, ws_raise, ws_ite, ws_set, ws_set, ws_setcF, ws_setcT, ws_par, ws_put, ws_seq, ws_for, ws_while, ws_try, List.getElem?_cons_zero, List.getElem?_cons_succ, Option.some.injEq, exists_eq_left', exists_eq_left, true_implies, forall_const, Bool.true_eq_false, Bool.false_eq_true, false_implies, and_true, true_and, setT, List.set_cons_zero, List.set_cons_succ, List.length_cons, List.length_nil, setAll, Option.bind_some, asB, Bool.not_true, Bool.not_false, o_add_i, o_add_s, o_add_t, o_add_l, o_sub_i, o_mul_i, o_fdv_i, o_mod_i, o_pow_i, o_neg_i, o_lt_i, o_le_i, o_gt_i, o_ge_i, o_is_n, o_isn_n, o_eq_d, o_ne_d, o_in_d, o_nin_d, bx_len, bx_int, bx_min, bx_max, bx_sum, bx_all, bx_any, bx_tuple, b_min_i, b_max_i, b_int_i, b_int_b, b_len_t, b_len_l, b_len_c, b_len_s, b_tup_t, b_tup_l, b_lis_t, b_lis_l, isa_tab, ty_non, ty_bl, ty_int, ty_str, ty_tup, ty_lst, ty_scr, ty_dic, tr_non, tr_bl, tr_int, tr_tup, tr_lst, tr_scr, nm_set, tp_set, ix_t, ix_l, ix_c, at_0, at_1, at_2, at_3, at_m, at_m1, range1, items_t, items_l, items_s, enu_t, enu_l, bel_int, bel_str, bel_bl, bel_non, out_bl, out_int, out_str, out_non, out_nx, mk_ends, mk_join, g_ends, fEq_i, fEq_b, rI_l, rI_d, rS_d, rL_l, r_pop, r_pop1, r_app, rr_q, rr_ix, rr_ixs, rr_len, rr_tup, rr_tru, rr_mkp, rr_mka, rr_pop, rr_app, rr_put, ok_put, out_rt, out_ex, Prod.mk.injEq, exists_eq, exists_and_left, exists_eq', bne_self_eq_false, Int.reduceBNe, Bool.true_and, and_assoc, Rs.ok.injEq, D.tup.injEq, D.bl.injEq, D.int.injEq, List.cons.injEq, enter_bs, D.bel, D.bels, List.cons_append, List.nil_append, startS, List.map_cons, List.map_nil, List.replicate_succ, List.replicate_zero, Nat.reduceSub, Nat.reduceAdd, Bool.or_false, Bool.false_or, Bool.or_true, Bool.true_or, Bool.and_true, Bool.and_false, Bool.true_and, Bool.false_and, if_true, if_false, reduceCtorEq, Bool.not_eq_true, decide_eq_true_eq, decide_eq_false_iff_not, and_self, onok, onokS, onnx, ite_true, ite_false, reduceIte, b_len_s hw.short, w.len, c_pushes _ _ _ _ _ hw]
  have q := say_of h k w.cs.length w.b
  constructor
  · intro e
    rw [q, if_pos e]; rfl
  · intro e
    rw [q, e]; rfl
theorem c_lbound (n : Nat) (h : Ho) (st : Sto) : md.call (n + 1) 24 [h.d] st = some (.ok (.int h.n), st) := by
  refine run_to (d := ⟨_, _, _, f__law_bound⟩) rfl rfl ?_
  cases h with
  | en => simp only [f__law_bound, b__law_bound, Ho.d, Ho.n, onok_ok, onok_ex, onokS_ok, onokS_ex, onnx_nx, onnx_rt, onnx_bk, onnx_ct, onnx_ex, wc_ok, we_v, we_c, we_g, we_bin, we_cmp, we_ix, we_neg, we_not, we_ite, we_andv, we_orv, we_and1, we_or1, we_and, we_or, we_tup, we_frz, we_alc, we_blt, we_call, we_meth, we_sl, we_isi, we_isi2, we_dsp, we_newd, wt_val, wt_cmp, wt_not, wt_andv, wt_orv, wt_and1, wt_or1, wt_and, wt_or, wa_nil, wa_cons, wn_disp, wn_lis, wn_comp, wi_rng, wi_enu, wi_one, wo_non, wo_some, ws_nop, ws_nil, ws_brk, ws_cnt, ws_retn, ws_exp, ws_ret, ws_raise, ws_ite, ws_set, ws_set, ws_setcF, ws_setcT, ws_par, ws_put, ws_seq, ws_for, ws_while, ws_try, List.getElem?_cons_zero, List.getElem?_cons_succ, Option.some.injEq, exists_eq_left', exists_eq_left, true_implies, forall_const, Bool.true_eq_false, Bool.false_eq_true, false_implies, and_true, true_and, setT, List.set_cons_zero, List.set_cons_succ, List.length_cons, List.length_nil, setAll, Option.bind_some, asB, Bool.not_true, Bool.not_false, o_add_i, o_add_s, o_add_t, o_add_l, o_sub_i, o_mul_i, o_fdv_i, o_mod_i, o_pow_i, o_neg_i, o_lt_i, o_le_i, o_gt_i, o_ge_i, o_is_n, o_isn_n, o_eq_d, o_ne_d, o_in_d, o_nin_d, bx_len, bx_int, bx_min, bx_max, bx_sum, bx_all, bx_any, bx_tuple, b_min_i, b_max_i, b_int_i, b_int_b, b_len_t, b_len_l, b_len_c, b_len_s, b_tup_t, b_tup_l, b_lis_t, b_lis_l, isa_tab, ty_non, ty_bl, ty_int, ty_str, ty_tup, ty_lst, ty_scr, ty_dic, tr_non, tr_bl, tr_int, tr_tup, tr_lst, tr_scr, nm_set, tp_set, ix_t, ix_l, ix_c, at_0, at_1, at_2, at_3, at_m, at_m1, range1, items_t, items_l, items_s, enu_t, enu_l, bel_int, bel_str, bel_bl, bel_non, out_bl, out_int, out_str, out_non, out_nx, mk_ends, mk_join, g_ends, fEq_i, fEq_b, rI_l, rI_d, rS_d, rL_l, r_pop, r_pop1, r_app, rr_q, rr_ix, rr_ixs, rr_len, rr_tup, rr_tru, rr_mkp, rr_mka, rr_pop, rr_app, rr_put, ok_put, out_rt, out_ex, Prod.mk.injEq, exists_eq, exists_and_left, exists_eq', bne_self_eq_false, Int.reduceBNe, Bool.true_and, and_assoc, Rs.ok.injEq, D.tup.injEq, D.bl.injEq, D.int.injEq, List.cons.injEq, enter_bs, D.bel, D.bels, List.cons_append, List.nil_append, startS, List.map_cons, List.map_nil, List.replicate_succ, List.replicate_zero, Nat.reduceSub, Nat.reduceAdd, Bool.or_false, Bool.false_or, Bool.or_true, Bool.true_or, Bool.and_true, Bool.and_false, Bool.true_and, Bool.false_and, if_true, if_false, reduceCtorEq, Bool.not_eq_true, decide_eq_true_eq, decide_eq_false_iff_not, and_self, onok, onokS, onnx, ite_true, ite_false, reduceIte, eq_ee]
  | i m => simp only [f__law_bound, b__law_bound, Ho.d, Ho.n, onok_ok, onok_ex, onokS_ok, onokS_ex, onnx_nx, onnx_rt, onnx_bk, onnx_ct, onnx_ex, wc_ok, we_v, we_c, we_g, we_bin, we_cmp, we_ix, we_neg, we_not, we_ite, we_andv, we_orv, we_and1, we_or1, we_and, we_or, we_tup, we_frz, we_alc, we_blt, we_call, we_meth, we_sl, we_isi, we_isi2, we_dsp, we_newd, wt_val, wt_cmp, wt_not, wt_andv, wt_orv, wt_and1, wt_or1, wt_and, wt_or, wa_nil, wa_cons, wn_disp, wn_lis, wn_comp, wi_rng, wi_enu, wi_one, wo_non, wo_some, ws_nop, ws_nil, ws_brk, ws_cnt, ws_retn, ws_exp, ws_ret, ws_raise, ws_ite, ws_set, ws_set, ws_setcF, ws_setcT, ws_par, ws_put, ws_seq, ws_for, ws_while, ws_try, List.getElem?_cons_zero, List.getElem?_cons_succ, Option.some.injEq, exists_eq_left', exists_eq_left, true_implies, forall_const, Bool.true_eq_false, Bool.false_eq_true, false_implies, and_true, true_and, setT, List.set_cons_zero, List.set_cons_succ, List.length_cons, List.length_nil, setAll, Option.bind_some, asB, Bool.not_true, Bool.not_false, o_add_i, o_add_s, o_add_t, o_add_l, o_sub_i, o_mul_i, o_fdv_i, o_mod_i, o_pow_i, o_neg_i, o_lt_i, o_le_i, o_gt_i, o_ge_i, o_is_n, o_isn_n, o_eq_d, o_ne_d, o_in_d, o_nin_d, bx_len, bx_int, bx_min, bx_max, bx_sum, bx_all, bx_any, bx_tuple, b_min_i, b_max_i, b_int_i, b_int_b, b_len_t, b_len_l, b_len_c, b_len_s, b_tup_t, b_tup_l, b_lis_t, b_lis_l, isa_tab, ty_non, ty_bl, ty_int, ty_str, ty_tup, ty_lst, ty_scr, ty_dic, tr_non, tr_bl, tr_int, tr_tup, tr_lst, tr_scr, nm_set, tp_set, ix_t, ix_l, ix_c, at_0, at_1, at_2, at_3, at_m, at_m1, range1, items_t, items_l, items_s, enu_t, enu_l, bel_int, bel_str, bel_bl, bel_non, out_bl, out_int, out_str, out_non, out_nx, mk_ends, mk_join, g_ends, fEq_i, fEq_b, rI_l, rI_d, rS_d, rL_l, r_pop, r_pop1, r_app, rr_q, rr_ix, rr_ixs, rr_len, rr_tup, rr_tru, rr_mkp, rr_mka, rr_pop, rr_app, rr_put, ok_put, out_rt, out_ex, Prod.mk.injEq, exists_eq, exists_and_left, exists_eq', bne_self_eq_false, Int.reduceBNe, Bool.true_and, and_assoc, Rs.ok.injEq, D.tup.injEq, D.bl.injEq, D.int.injEq, List.cons.injEq, enter_bs, D.bel, D.bels, List.cons_append, List.nil_append, startS, List.map_cons, List.map_nil, List.replicate_succ, List.replicate_zero, Nat.reduceSub, Nat.reduceAdd, Bool.or_false, Bool.false_or, Bool.or_true, Bool.true_or, Bool.and_true, Bool.and_false, Bool.true_and, Bool.false_and, if_true, if_false, reduceCtorEq, Bool.not_eq_true, decide_eq_true_eq, decide_eq_false_iff_not, and_self, onok, onokS, onnx, ite_true, ite_false, reduceIte, eq_ie]
  | t m => simp only [f__law_bound, b__law_bound, Ho.d, Ho.n, onok_ok, onok_ex, onokS_ok, onokS_ex, onnx_nx, onnx_rt, onnx_bk, onnx_ct, onnx_ex, wc_ok, we_v, we_c, we_g, we_bin, we_cmp, we_ix, we_neg, we_not, we_ite, we_andv, we_orv, we_and1, we_or1, we_and, we_or, we_tup, we_frz, we_alc, we_blt, we_call, we_meth, we_sl, we_isi, we_isi2, we_dsp, we_newd, wt_val, wt_cmp, wt_not, wt_andv, wt_orv, wt_and1, wt_or1, wt_and, wt_or, wa_nil, wa_cons, wn_disp, wn_lis, wn_comp, wi_rng, wi_enu, wi_one, wo_non, wo_some, ws_nop, ws_nil, ws_brk, ws_cnt, ws_retn, ws_exp, ws_ret, ws_raise, ws_ite, ws_set, ws_set, ws_setcF, ws_setcT, ws_par, ws_put, ws_seq, ws_for, ws_while, ws_try, List.getElem?_cons_zero, List.getElem?_cons_succ, Option.some.injEq, exists_eq_left', exists_eq_left, true_implies, forall_const, Bool.true_eq_false, Bool.false_eq_true, false_implies, and_true, true_and, setT, List.set_cons_zero, List.set_cons_succ, List.length_cons, List.length_nil, setAll, Option.bind_some, asB, Bool.not_true, Bool.not_false, o_add_i, o_add_s, o_add_t, o_add_l, o_sub_i, o_mul_i, o_fdv_i, o_mod_i, o_pow_i, o_neg_i, o_lt_i, o_le_i, o_gt_i, o_ge_i, o_is_n, o_isn_n, o_eq_d, o_ne_d, o_in_d, o_nin_d, bx_len, bx_int, bx_min, bx_max, bx_sum, bx_all, bx_any, bx_tuple, b_min_i, b_max_i, b_int_i, b_int_b, b_len_t, b_len_l, b_len_c, b_len_s, b_tup_t, b_tup_l, b_lis_t, b_lis_l, isa_tab, ty_non, ty_bl, ty_int, ty_str, ty_tup, ty_lst, ty_scr, ty_dic, tr_non, tr_bl, tr_int, tr_tup, tr_lst, tr_scr, nm_set, tp_set, ix_t, ix_l, ix_c, at_0, at_1, at_2, at_3, at_m, at_m1, range1, items_t, items_l, items_s, enu_t, enu_l, bel_int, bel_str, bel_bl, bel_non, out_bl, out_int, out_str, out_non, out_nx, mk_ends, mk_join, g_ends, fEq_i, fEq_b, rI_l, rI_d, rS_d, rL_l, r_pop, r_pop1, r_app, rr_q, rr_ix, rr_ixs, rr_len, rr_tup, rr_tru, rr_mkp, rr_mka, rr_pop, rr_app, rr_put, ok_put, out_rt, out_ex, Prod.mk.injEq, exists_eq, exists_and_left, exists_eq', bne_self_eq_false, Int.reduceBNe, Bool.true_and, and_assoc, Rs.ok.injEq, D.tup.injEq, D.bl.injEq, D.int.injEq, List.cons.injEq, enter_bs, D.bel, D.bels, List.cons_append, List.nil_append, startS, List.map_cons, List.map_nil, List.replicate_succ, List.replicate_zero, Nat.reduceSub, Nat.reduceAdd, Bool.or_false, Bool.false_or, Bool.or_true, Bool.true_or, Bool.and_true, Bool.and_false, Bool.true_and, Bool.false_and, if_true, if_false, reduceCtorEq, Bool.not_eq_true, decide_eq_true_eq, decide_eq_false_iff_not, and_self, onok, onokS, onnx, ite_true, ite_false, reduceIte, eq_te]
  | l m => simp only [f__law_bound, b__law_bound, Ho.d, Ho.n, onok_ok, onok_ex, onokS_ok, onokS_ex, onnx_nx, onnx_rt, onnx_bk, onnx_ct, onnx_ex, wc_ok, we_v, we_c, we_g, we_bin, we_cmp, we_ix, we_neg, we_not, we_ite, we_andv, we_orv, we_and1, we_or1, we_and, we_or, we_tup, we_frz, we_alc, we_blt, we_call, we_meth, we_sl, we_isi, we_isi2, we_dsp, we_newd, wt_val, wt_cmp, wt_not, wt_andv, wt_orv, wt_and1, wt_or1, wt_and, wt_or, wa_nil, wa_cons, wn_disp, wn_lis, wn_comp, wi_rng, wi_enu, wi_one, wo_non, wo_some, ws_nop, ws_nil, ws_brk, ws_cnt, ws_retn, ws_exp, ws_ret, ws_raise, ws_ite, ws_set, ws_set, ws_setcF, ws_setcT, ws_par, ws_put, ws_seq, ws_for, ws_while, ws_try, List.getElem?_cons_zero, List.getElem?_cons_succ, Option.some.injEq, exists_eq_left', exists_eq_left, true_implies, forall_const, Bool.true_eq_false, Bool.false_eq_true, false_implies, and_true, true_and, setT, List.set_cons_zero, List.set_cons_succ, List.length_cons, List.length_nil, setAll, Option.bind_some, asB, Bool.not_true, Bool.not_false, o_add_i, o_add_s, o_add_t, o_add_l, o_sub_i, o_mul_i, o_fdv_i, o_mod_i, o_pow_i, o_neg_i, o_lt_i, o_le_i, o_gt_i, o_ge_i, o_is_n, o_isn_n, o_eq_d, o_ne_d, o_in_d, o_nin_d, bx_len, bx_int, bx_min, bx_max, bx_sum, bx_all, bx_any, bx_tuple, b_min_i, b_max_i, b_int_i, b_int_b, b_len_t, b_len_l, b_len_c, b_len_s, b_tup_t, b_tup_l, b_lis_t, b_lis_l, isa_tab, ty_non, ty_bl, ty_int, ty_str, ty_tup, ty_lst, ty_scr, ty_dic, tr_non, tr_bl, tr_int, tr_tup, tr_lst, tr_scr, nm_set, tp_set, ix_t, ix_l, ix_c, at_0, at_1, at_2, at_3, at_m, at_m1, range1, items_t, items_l, items_s, enu_t, enu_l, bel_int, bel_str, bel_bl, bel_non, out_bl, out_int, out_str, out_non, out_nx, mk_ends, mk_join, g_ends, fEq_i, fEq_b, rI_l, rI_d, rS_d, rL_l, r_pop, r_pop1, r_app, rr_q, rr_ix, rr_ixs, rr_len, rr_tup, rr_tru, rr_mkp, rr_mka, rr_pop, rr_app, rr_put, ok_put, out_rt, out_ex, Prod.mk.injEq, exists_eq, exists_and_left, exists_eq', bne_self_eq_false, Int.reduceBNe, Bool.true_and, and_assoc, Rs.ok.injEq, D.tup.injEq, D.bl.injEq, D.int.injEq, List.cons.injEq, enter_bs, D.bel, D.bels, List.cons_append, List.nil_append, startS, List.map_cons, List.map_nil, List.replicate_succ, List.replicate_zero, Nat.reduceSub, Nat.reduceAdd, Bool.or_false, Bool.false_or, Bool.or_true, Bool.true_or, Bool.and_true, Bool.and_false, Bool.true_and, Bool.false_and, if_true, if_false, reduceCtorEq, Bool.not_eq_true, decide_eq_true_eq, decide_eq_false_iff_not, and_self, onok, onokS, onnx, ite_true, ite_false, reduceIte, eq_le]
/-- the deck -/
def dk (a : Int) (fs : List Int) : SO := .lst [.int a, .lst (fs.map D.int)]
structure Dk (st : Sto) (l : Nat) (a : Int) (fs : List Int) : Prop where
  at_ : st.o[l]? = some (dk a fs)
  a0 : 0 ≤ a
  fs : ∀ f ∈ fs, 0 ≤ f ∧ f < 36
theorem c_draw (n : Nat) (l : Nat) (a : Int) (fs : List Int) (st : Sto) (m : Int) (hm : 0 < m) (hm2 : m < 1000) (h : Dk st l a fs) :
    ∃ r, 0 ≤ r ∧ r < m ∧ md.call (n + 1) 18 [.ref l, .int m] st = some (.ok (.int r), st.put l (dk (a + 1) fs)) := by
  have hl : l < st.o.length := (List.getElem?_eq_some_iff.mp h.at_).1
  have key : ∀ r, (a ≥ (fs.length : Int) → r = 0) → (a < (fs.length : Int) → ∃ f, fs[a.toNat]? = some f ∧ r = f * m / 36) → md.call (n + 1) 18 [.ref l, .int m] st = some (.ok (.int r), st.put l (dk (a + 1) fs)) := by
    intro r h1 h2
    refine run_to (d := ⟨_, _, _, f__law_draw⟩) rfl rfl ?_
    have g0 : st.enter.o[l]? = some (dk a fs) := h.at_
    have g1 : (st.enter.put l (dk (a + 1) fs)).o[l]? = some (dk (a + 1) fs) := by
      show (st.o.set l _)[l]? = _
      rw [List.getElem?_set_self hl]
    have ok : ∀ y, y.bel 0 = true → okPut st.enter l y = true := fun y hy => by
      show (decide (_ ≤ l) || y.bel 0) = true
      rw [hy, Bool.or_true]
    have out : ∀ i, outF false st (st.enter.put l (dk (a + 1) fs)) (.rt (.int i)) = some (.ok (.int i), st.put l (dk (a + 1) fs)) := fun i => by
      show some (Rs.ok (D.int i), st.leave (st.enter.put l (dk (a + 1) fs))) = _
      congr 2
      show (⟨st.bs, (st.o.set l _).take st.o.length⟩ : Sto) = ⟨st.bs, st.o.set l _⟩
      rw [List.take_of_length_le (by simp)]
    have bs : (st.enter.put l (dk (a + 1) fs)).bs = st.o.length :: st.bs := rfl
    have len : (fs.map D.int).length = fs.length := by simp
    have ix0 : L2.ixN ([D.int a, D.lst (fs.map D.int)] : List D).length 0 = some 0 := rfl
    have sp : putR st.enter l (.int 0) (.int (a + 1)) (some (dk a fs)) = some (st.enter.put l (dk (a + 1) fs)) := by
      show (match L2.ixN ([D.int a, D.lst (fs.map D.int)] : List D).length 0 with
        | some j => if okPut st.enter l (.int (a + 1)) = true then some (st.enter.put l (.lst (([D.int a, D.lst (fs.map D.int)] : List D).set j (.int (a + 1))))) else none
        | none => none) = _
      rw [ix0]
      dsimp only
      rw [if_pos (ok _ rfl)]
      rfl
    have r0 : rdI (some (dk a fs)) 0 = some (.int a) := rfl
    have r1 : rdI (some (dk (a + 1) fs)) 1 = some (.lst (fs.map D.int)) := rfl
    by_cases q : (fs.length : Int) ≤ a
    · rw [h1 q]
      simp only [f__law_draw, b__law_draw, onok_ok, onok_ex, onokS_ok, onokS_ex, onnx_nx, onnx_rt, onnx_bk, onnx_ct, onnx_ex, wc_ok, we_v, we_c, we_g, we_bin, we_cmp, we_ix, we_neg, we_not, we_ite, we_andv, we_orv, we_and1, we_or1, we_and, we_or, we_tup, we_frz, we_alc, we_blt, we_call, we_meth, we_sl, we_isi, we_isi2, we_dsp, we_newd, wt_val, wt_cmp, wt_not, wt_andv, wt_orv, wt_and1, wt_or1, wt_and, wt_or, wa_nil, wa_cons, wn_disp, wn_lis, wn_comp, wi_rng, wi_enu, wi_one, wo_non, wo_some, ws_nop, ws_nil, ws_brk, ws_cnt, ws_retn, ws_exp, ws_ret, ws_raise, ws_ite, ws_set, ws_set, ws_setcF, ws_setcT, ws_par, ws_put, ws_seq, ws_for, ws_while, ws_try, List.getElem?_cons_zero, List.getElem?_cons_succ, Option.some.injEq, exists_eq_left', exists_eq_left, true_implies, forall_const, Bool.true_eq_false, Bool.false_eq_true, false_implies, and_true, true_and, setT, List.set_cons_zero, List.set_cons_succ, List.length_cons, List.length_nil, setAll, Option.bind_some, asB, Bool.not_true, Bool.not_false, o_add_i, o_add_s, o_add_t, o_add_l, o_sub_i, o_mul_i, o_fdv_i, o_mod_i, o_pow_i, o_neg_i, o_lt_i, o_le_i, o_gt_i, o_ge_i, o_is_n, o_isn_n, o_eq_d, o_ne_d, o_in_d, o_nin_d, bx_len, bx_int, bx_min, bx_max, bx_sum, bx_all, bx_any, bx_tuple, b_min_i, b_max_i, b_int_i, b_int_b, b_len_t, b_len_l, b_len_c, b_len_s, b_tup_t, b_tup_l, b_lis_t, b_lis_l, isa_tab, ty_non, ty_bl, ty_int, ty_str, ty_tup, ty_lst, ty_scr, ty_dic, tr_non, tr_bl, tr_int, tr_tup, tr_lst, tr_scr, nm_set, tp_set, ix_t, ix_l, ix_c, at_0, at_1, at_2, at_3, at_m, at_m1, range1, items_t, items_l, items_s, enu_t, enu_l, bel_int, bel_str, bel_bl, bel_non, out_bl, out_int, out_str, out_non, out_nx, mk_ends, mk_join, g_ends, fEq_i, fEq_b, rI_l, rI_d, rS_d, rL_l, r_pop, r_pop1, r_app, rr_q, rr_ix, rr_ixs, rr_len, rr_tup, rr_tru, rr_mkp, rr_mka, rr_pop, rr_app, rr_put, ok_put, out_rt, out_ex, Prod.mk.injEq, exists_eq, exists_and_left, exists_eq', bne_self_eq_false, Int.reduceBNe, Bool.true_and, and_assoc, Rs.ok.injEq, D.tup.injEq, D.bl.injEq, D.int.injEq, List.cons.injEq, enter_bs, D.bel, D.bels, List.cons_append, List.nil_append, startS, List.map_cons, List.map_nil, List.replicate_succ, List.replicate_zero, Nat.reduceSub, Nat.reduceAdd, Bool.or_false, Bool.false_or, Bool.or_true, Bool.true_or, Bool.and_true, Bool.and_false, Bool.true_and, Bool.false_and, if_true, if_false, reduceCtorEq, Bool.not_eq_true, decide_eq_true_eq, decide_eq_false_iff_not, and_self, onok, onokS, onnx, ite_true, ite_false, reduceIte, g0, g1, r0, r1, sp, len, q, decide_true, out, bs]
    · obtain ⟨f, hf, rfl⟩ := h2 (by omega)
      have hfm := h.fs f (List.mem_of_getElem? hf)
      have ha : L2.atI (fs.map D.int) a = some (.int f) := by
        have : a = ((a.toNat : Nat) : Int) := by have := h.a0; omega
        rw [this, at_ok (by rw [len]; omega), List.getElem?_map, hf]
        rfl
      have cm : cMul f m = true := by
        unfold cMul
        have e1 : decide (-(2 ^ 64) < f) = true := decide_eq_true (by omega)
        have e2 : decide (f < 2 ^ 64) = true := decide_eq_true (by omega)
        rw [e1, e2]; rfl
      simp only [f__law_draw, b__law_draw, onok_ok, onok_ex, onokS_ok, onokS_ex, onnx_nx, onnx_rt, onnx_bk, onnx_ct, onnx_ex, wc_ok, we_v, we_c, we_g, we_bin, we_cmp, we_ix, we_neg, we_not, we_ite, we_andv, we_orv, we_and1, we_or1, we_and, we_or, we_tup, we_frz, we_alc, we_blt, we_call, we_meth, we_sl, we_isi, we_isi2, we_dsp, we_newd, wt_val, wt_cmp, wt_not, wt_andv, wt_orv, wt_and1, wt_or1, wt_and, wt_or, wa_nil, wa_cons, wn_disp, wn_lis, wn_comp, wi_rng, wi_enu, wi_one, wo_non, wo_some, ws_nop, ws_nil, ws_brk, ws_cnt, ws_retn, ws_exp, ws_ret, ws_raise, ws_ite, ws_set, ws_set, ws_setcF, ws_setcT, ws_par, ws_put, ws_seq, ws_for, ws_while, ws_try, List.getElem?_cons_zero, List.getElem?_cons_succ, Option.some.injEq, exists_eq_left', exists_eq_left, true_implies, forall_const, Bool.true_eq_false, Bool.false_eq_true, false_implies, and_true, true_and, setT, List.set_cons_zero, List.set_cons_succ, List.length_cons, List.length_nil, setAll, Option.bind_some, asB, Bool.not_true, Bool.not_false, o_add_i, o_add_s, o_add_t, o_add_l, o_sub_i, o_mul_i, o_fdv_i, o_mod_i, o_pow_i, o_neg_i, o_lt_i, o_le_i, o_gt_i, o_ge_i, o_is_n, o_isn_n, o_eq_d, o_ne_d, o_in_d, o_nin_d, bx_len, bx_int, bx_min, bx_max, bx_sum, bx_all, bx_any, bx_tuple, b_min_i, b_max_i, b_int_i, b_int_b, b_len_t, b_len_l, b_len_c, b_len_s, b_tup_t, b_tup_l, b_lis_t, b_lis_l, isa_tab, ty_non, ty_bl, ty_int, ty_str, ty_tup, ty_lst, ty_scr, ty_dic, tr_non, tr_bl, tr_int, tr_tup, tr_lst, tr_scr, nm_set, tp_set, ix_t, ix_l, ix_c, at_0, at_1, at_2, at_3, at_m, at_m1, range1, items_t, items_l, items_s, enu_t, enu_l, bel_int, bel_str, bel_bl, bel_non, out_bl, out_int, out_str, out_non, out_nx, mk_ends, mk_join, g_ends, fEq_i, fEq_b, rI_l, rI_d, rS_d, rL_l, r_pop, r_pop1, r_app, rr_q, rr_ix, rr_ixs, rr_len, rr_tup, rr_tru, rr_mkp, rr_mka, rr_pop, rr_app, rr_put, ok_put, out_rt, out_ex, Prod.mk.injEq, exists_eq, exists_and_left, exists_eq', bne_self_eq_false, Int.reduceBNe, Bool.true_and, and_assoc, Rs.ok.injEq, D.tup.injEq, D.bl.injEq, D.int.injEq, List.cons.injEq, enter_bs, D.bel, D.bels, List.cons_append, List.nil_append, startS, List.map_cons, List.map_nil, List.replicate_succ, List.replicate_zero, Nat.reduceSub, Nat.reduceAdd, Bool.or_false, Bool.false_or, Bool.or_true, Bool.true_or, Bool.and_true, Bool.and_false, Bool.true_and, Bool.false_and, if_true, if_false, reduceCtorEq, Bool.not_eq_true, decide_eq_true_eq, decide_eq_false_iff_not, and_self, onok, onokS, onnx, ite_true, ite_false, reduceIte, g0, g1, r0, r1, sp, len, q, decide_false, out, bs, ha, cm, Int.reduceLT, decide_true]
  by_cases q : (fs.length : Int) ≤ a
  · exact ⟨0, by omega, hm, key 0 (fun _ => rfl) (fun z => by omega)⟩
  · have hlt : a.toNat < fs.length := by have := h.a0; omega
    have hf : fs[a.toNat]? = some (fs[a.toNat]) := by simp [hlt]
    have hb := h.fs _ (List.mem_of_getElem? hf)
    refine ⟨fs[a.toNat] * m / 36, ?_, ?_, key _ (fun z => by omega) (fun _ => ⟨_, hf, rfl⟩)⟩
    · exact Int.ediv_nonneg (Int.mul_nonneg hb.1 (by omega)) (by omega)
    · refine Int.ediv_lt_of_lt_mul (by omega) ?_
      rw [Int.mul_comm m 36]
      exact Int.mul_lt_mul_of_pos_right hb.2 hm
end K00

set_option Elab.async false
set_option linter.all false
set_option maxRecDepth 100000
set_option maxHeartbeats 0
namespace K00
open PySem Hb L2
theorem Dk.next {st : Sto} {l : Nat} {a : Int} {fs : List Int} (h : Dk st l a fs) : Dk (st.put l (dk (a + 1) fs)) l (a + 1) fs :=
  ⟨by show (st.o.set l _)[l]? = _; rw [List.getElem?_set_self (List.getElem?_eq_some_iff.mp h.at_).1], by have := h.a0; omega, h.fs⟩
theorem Dk.enter {st : Sto} {l : Nat} {a : Int} {fs : List Int} (h : Dk st l a fs) : Dk st.enter l a fs := ⟨h.at_, h.a0, h.fs⟩
theorem put_put {st : Sto} {l : Nat} {x y : SO} : (st.put l x).put l y = st.put l y := by
  unfold Sto.put
  rw [List.set_set]
theorem put_self {st : Sto} {l : Nat} {x : SO} (h : st.o[l]? = some x) : st.put l x = st := by
  unfold Sto.put
  have : st.o.set l x = st.o := by
    obtain ⟨hl, e⟩ := List.getElem?_eq_some_iff.mp h
    rw [← e]
    exact List.set_getElem_self hl
  rw [this]
/-- a value without places, a deck drawn on -/
theorem out_dk {st : Sto} {l : Nat} {x : SO} {v : D} (h : v.bel 0 = true) : outF false st (st.enter.put l x) (.rt v) = some (.ok v, st.put l x) := by
  show (fz st.o.length _ v).map _ = _
  rw [fz_bel (D.bel_mono (Nat.zero_le _) _ h), Option.map_some]
  congr 2
  show (⟨st.bs, (st.o.set l x).take st.o.length⟩ : Sto) = ⟨st.bs, st.o.set l x⟩
  rw [List.take_of_length_le (by simp)]
theorem out_dki {st : Sto} {l : Nat} {x : SO} {i : Int} : outF false st (st.enter.put l x) (.rt (.int i)) = some (.ok (.int i), st.put l x) := out_dk rfl
theorem out_dks {st : Sto} {l : Nat} {x : SO} {i : Str} : outF false st (st.enter.put l x) (.rt (.str i)) = some (.ok (.str i), st.put l x) := out_dk rfl
theorem out_dkb {st : Sto} {l : Nat} {x : SO} {i : Bool} : outF false st (st.enter.put l x) (.rt (.bl i)) = some (.ok (.bl i), st.put l x) := out_dk rfl
theorem bs_put {st : Sto} {l : Nat} {x : SO} : (st.put l x).bs = st.bs := rfl
/-- the menu of numbers -/
def menu : List Int := [5, 1, 2, 3, 4, 6, 7, 9, 12, 13, 60, 3617, 9999, 10000]
theorem c_own_hold (n : Nat) (l : Nat) (a : Int) (fs : List Int) (st : Sto) (h : Dk st l a fs) :
    ∃ ho : Ho, ho.Ok ∧ (ho = .en ∨ (1 ≤ ho.n ∧ ho.n ≤ 10000)) ∧ md.call (n + 2) 23 [.ref l] st = some (.ok ho.d, st.put l (dk (a + 2) fs)) := by
  have h0 := h.enter
  obtain ⟨r1, p1, p2, e1⟩ := c_draw n l a fs st.enter 6 (by omega) (by omega) h0
  obtain ⟨r2, p3, p4, e2⟩ := c_draw n l (a + 1) fs _ 14 (by omega) (by omega) h0.next
  rw [put_put] at e2
  have e3 : a + 1 + 1 = a + 2 := by omega
  rw [e3] at e2
  have hm : ∃ m : Int, 1 ≤ m ∧ m ≤ 10000 ∧ L2.atI [D.int 5, .int 1, .int 2, .int 3, .int 4, .int 6, .int 7, .int 9, .int 12, .int 13, .int 60, .int 3617, .int 9999, .int 10000] r2 = some (.int m) := by
    have hr : r2 = ((r2.toNat : Nat) : Int) := by omega
    rw [hr, at_ok (by show r2.toNat < 14; omega)]
    have hb : r2.toNat < 14 := by omega
    generalize r2.toNat = k at hb
    match k, hb with
    | 0, _ => exact ⟨5, by omega, by omega, rfl⟩
    | 1, _ => exact ⟨1, by omega, by omega, rfl⟩
    | 2, _ => exact ⟨2, by omega, by omega, rfl⟩
    | 3, _ => exact ⟨3, by omega, by omega, rfl⟩
    | 4, _ => exact ⟨4, by omega, by omega, rfl⟩
    | 5, _ => exact ⟨6, by omega, by omega, rfl⟩
    | 6, _ => exact ⟨7, by omega, by omega, rfl⟩
    | 7, _ => exact ⟨9, by omega, by omega, rfl⟩
    | 8, _ => exact ⟨12, by omega, by omega, rfl⟩
    | 9, _ => exact ⟨13, by omega, by omega, rfl⟩
    | 10, _ => exact ⟨60, by omega, by omega, rfl⟩
    | 11, _ => exact ⟨3617, by omega, by omega, rfl⟩
    | 12, _ => exact ⟨9999, by omega, by omega, rfl⟩
    | 13, _ => exact ⟨10000, by omega, by omega, rfl⟩
    | k + 14, hb => omega
  obtain ⟨m, m1, m2, hm⟩ := hm
  have bs : (st.enter.put l (dk (a + 2) fs)).bs = st.o.length :: st.bs := rfl
  by_cases q1 : r1 = 1
  · refine ⟨.t m, m1, .inr ⟨m1, m2⟩, run_to (d := ⟨_, _, _, f__law_own_hold⟩) rfl rfl ?_⟩
    subst q1
    simp only [f__law_own_hold, b__law_own_hold, Ho.d, onok_ok, onok_ex, onokS_ok, onokS_ex, onnx_nx, onnx_rt, onnx_bk, onnx_ct, onnx_ex, wc_ok, we_v, we_c, we_g, we_bin, we_cmp, we_ix, we_neg, we_not, we_ite, we_andv, we_orv, we_and1, we_or1, we_and, we_or, we_tup, we_frz, we_alc, we_blt, we_call, we_meth, we_sl, we_isi, we_isi2, we_dsp, we_newd, wt_val, wt_cmp, wt_not, wt_andv, wt_orv, wt_and1, wt_or1, wt_and, wt_or, wa_nil, wa_cons, wn_disp, wn_lis, wn_comp, wi_rng, wi_enu, wi_one, wo_non, wo_some, ws_nop, ws_nil, ws_brk, ws_cnt, ws_retn, ws_exp, ws_ret, ws_raise, ws_ite, ws_set, ws_set, ws_setcF, ws_setcT, ws_par, ws_put, ws_seq, ws_for, ws_while, ws_try, List.getElem?_cons_zero, List.getElem?_cons_succ, Option.some.injEq, exists_eq_left', exists_eq_left, true_implies, forall_const, Bool.true_eq_false, Bool.false_eq_true, false_implies, and_true, true_and, setT, List.set_cons_zero, List.set_cons_succ, List.length_cons, List.length_nil, setAll, Option.bind_some, asB, Bool.not_true, Bool.not_false, o_add_i, o_add_s, o_add_t, o_add_l, o_sub_i, o_mul_i, o_fdv_i, o_mod_i, o_pow_i, o_neg_i, o_lt_i, o_le_i, o_gt_i, o_ge_i, o_is_n, o_isn_n, o_eq_d, o_ne_d, o_in_d, o_nin_d, bx_len, bx_int, bx_min, bx_max, bx_sum, bx_all, bx_any, bx_tuple, b_min_i, b_max_i, b_int_i, b_int_b, b_len_t, b_len_l, b_len_c, b_len_s, b_tup_t, b_tup_l, b_lis_t, b_lis_l, isa_tab, ty_non, ty_bl, ty_int, ty_str, ty_tup, ty_lst, ty_scr, ty_dic, tr_non, tr_bl, tr_int, tr_tup, tr_lst, tr_scr, nm_set, tp_set, ix_t, ix_l, ix_c, at_0, at_1, at_2, at_3, at_m, at_m1, range1, items_t, items_l, items_s, enu_t, enu_l, bel_int, bel_str, bel_bl, bel_non, out_bl, out_int, out_str, out_non, out_nx, mk_ends, mk_join, g_ends, fEq_i, fEq_b, rI_l, rI_d, rS_d, rL_l, r_pop, r_pop1, r_app, rr_q, rr_ix, rr_ixs, rr_len, rr_tup, rr_tru, rr_mkp, rr_mka, rr_pop, rr_app, rr_put, ok_put, out_rt, out_ex, Prod.mk.injEq, exists_eq, exists_and_left, exists_eq', bne_self_eq_false, Int.reduceBNe, Bool.true_and, and_assoc, Rs.ok.injEq, D.tup.injEq, D.bl.injEq, D.int.injEq, List.cons.injEq, enter_bs, D.bel, D.bels, List.cons_append, List.nil_append, startS, List.map_cons, List.map_nil, List.replicate_succ, List.replicate_zero, Nat.reduceSub, Nat.reduceAdd, Bool.or_false, Bool.false_or, Bool.or_true, Bool.true_or, Bool.and_true, Bool.and_false, Bool.true_and, Bool.false_and, if_true, if_false, reduceCtorEq, Bool.not_eq_true, decide_eq_true_eq, decide_eq_false_iff_not, and_self, onok, onokS, onnx, ite_true, ite_false, reduceIte, e1, e2, hm, fEq_i, decide_true, out_dk, out_dki, out_dks, out_dkb, bs]
  by_cases q2 : r1 = 2
  · refine ⟨.en, trivial, .inl rfl, run_to (d := ⟨_, _, _, f__law_own_hold⟩) rfl rfl ?_⟩
    subst q2
    simp only [f__law_own_hold, b__law_own_hold, Ho.d, onok_ok, onok_ex, onokS_ok, onokS_ex, onnx_nx, onnx_rt, onnx_bk, onnx_ct, onnx_ex, wc_ok, we_v, we_c, we_g, we_bin, we_cmp, we_ix, we_neg, we_not, we_ite, we_andv, we_orv, we_and1, we_or1, we_and, we_or, we_tup, we_frz, we_alc, we_blt, we_call, we_meth, we_sl, we_isi, we_isi2, we_dsp, we_newd, wt_val, wt_cmp, wt_not, wt_andv, wt_orv, wt_and1, wt_or1, wt_and, wt_or, wa_nil, wa_cons, wn_disp, wn_lis, wn_comp, wi_rng, wi_enu, wi_one, wo_non, wo_some, ws_nop, ws_nil, ws_brk, ws_cnt, ws_retn, ws_exp, ws_ret, ws_raise, ws_ite, ws_set, ws_set, ws_setcF, ws_setcT, ws_par, ws_put, ws_seq, ws_for, ws_while, ws_try, List.getElem?_cons_zero, List.getElem?_cons_succ, Option.some.injEq, exists_eq_left', exists_eq_left, true_implies, forall_const, Bool.true_eq_false, Bool.false_eq_true, false_implies, and_true, true_and, setT, List.set_cons_zero, List.set_cons_succ, List.length_cons, List.length_nil, setAll, Option.bind_some, asB, Bool.not_true, Bool.not_false, o_add_i, o_add_s, o_add_t, o_add_l, o_sub_i, o_mul_i, o_fdv_i, o_mod_i, o_pow_i, o_neg_i, o_lt_i, o_le_i, o_gt_i, o_ge_i, o_is_n, o_isn_n, o_eq_d, o_ne_d, o_in_d, o_nin_d, bx_len, bx_int, bx_min, bx_max, bx_sum, bx_all, bx_any, bx_tuple, b_min_i, b_max_i, b_int_i, b_int_b, b_len_t, b_len_l, b_len_c, b_len_s, b_tup_t, b_tup_l, b_lis_t, b_lis_l, isa_tab, ty_non, ty_bl, ty_int, ty_str, ty_tup, ty_lst, ty_scr, ty_dic, tr_non, tr_bl, tr_int, tr_tup, tr_lst, tr_scr, nm_set, tp_set, ix_t, ix_l, ix_c, at_0, at_1, at_2, at_3, at_m, at_m1, range1, items_t, items_l, items_s, enu_t, enu_l, bel_int, bel_str, bel_bl, bel_non, out_bl, out_int, out_str, out_non, out_nx, mk_ends, mk_join, g_ends, fEq_i, fEq_b, rI_l, rI_d, rS_d, rL_l, r_pop, r_pop1, r_app, rr_q, rr_ix, rr_ixs, rr_len, rr_tup, rr_tru, rr_mkp, rr_mka, rr_pop, rr_app, rr_put, ok_put, out_rt, out_ex, Prod.mk.injEq, exists_eq, exists_and_left, exists_eq', bne_self_eq_false, Int.reduceBNe, Bool.true_and, and_assoc, Rs.ok.injEq, D.tup.injEq, D.bl.injEq, D.int.injEq, List.cons.injEq, enter_bs, D.bel, D.bels, List.cons_append, List.nil_append, startS, List.map_cons, List.map_nil, List.replicate_succ, List.replicate_zero, Nat.reduceSub, Nat.reduceAdd, Bool.or_false, Bool.false_or, Bool.or_true, Bool.true_or, Bool.and_true, Bool.and_false, Bool.true_and, Bool.false_and, if_true, if_false, reduceCtorEq, Bool.not_eq_true, decide_eq_true_eq, decide_eq_false_iff_not, and_self, onok, onokS, onnx, ite_true, ite_false, reduceIte, e1, e2, hm, fEq_i, decide_true, out_dk, out_dki, out_dks, out_dkb, bs, Int.reduceEq, decide_false]
  by_cases q3 : r1 = 3
  · refine ⟨.l m, m1, .inr ⟨m1, m2⟩, run_to (d := ⟨_, _, _, f__law_own_hold⟩) rfl rfl ?_⟩
    subst q3
    simp only [f__law_own_hold, b__law_own_hold, Ho.d, onok_ok, onok_ex, onokS_ok, onokS_ex, onnx_nx, onnx_rt, onnx_bk, onnx_ct, onnx_ex, wc_ok, we_v, we_c, we_g, we_bin, we_cmp, we_ix, we_neg, we_not, we_ite, we_andv, we_orv, we_and1, we_or1, we_and, we_or, we_tup, we_frz, we_alc, we_blt, we_call, we_meth, we_sl, we_isi, we_isi2, we_dsp, we_newd, wt_val, wt_cmp, wt_not, wt_andv, wt_orv, wt_and1, wt_or1, wt_and, wt_or, wa_nil, wa_cons, wn_disp, wn_lis, wn_comp, wi_rng, wi_enu, wi_one, wo_non, wo_some, ws_nop, ws_nil, ws_brk, ws_cnt, ws_retn, ws_exp, ws_ret, ws_raise, ws_ite, ws_set, ws_set, ws_setcF, ws_setcT, ws_par, ws_put, ws_seq, ws_for, ws_while, ws_try, List.getElem?_cons_zero, List.getElem?_cons_succ, Option.some.injEq, exists_eq_left', exists_eq_left, true_implies, forall_const, Bool.true_eq_false, Bool.false_eq_true, false_implies, and_true, true_and, setT, List.set_cons_zero, List.set_cons_succ, List.length_cons, List.length_nil, setAll, Option.bind_some, asB, Bool.not_true, Bool.not_false, o_add_i, o_add_s, o_add_t, o_add_l, o_sub_i, o_mul_i, o_fdv_i, o_mod_i, o_pow_i, o_neg_i, o_lt_i, o_le_i, o_gt_i, o_ge_i, o_is_n, o_isn_n, o_eq_d, o_ne_d, o_in_d, o_nin_d, bx_len, bx_int, bx_min, bx_max, bx_sum, bx_all, bx_any, bx_tuple, b_min_i, b_max_i, b_int_i, b_int_b, b_len_t, b_len_l, b_len_c, b_len_s, b_tup_t, b_tup_l, b_lis_t, b_lis_l, isa_tab, ty_non, ty_bl, ty_int, ty_str, ty_tup, ty_lst, ty_scr, ty_dic, tr_non, tr_bl, tr_int, tr_tup, tr_lst, tr_scr, nm_set, tp_set, ix_t, ix_l, ix_c, at_0, at_1, at_2, at_3, at_m, at_m1, range1, items_t, items_l, items_s, enu_t, enu_l, bel_int, bel_str, bel_bl, bel_non, out_bl, out_int, out_str, out_non, out_nx, mk_ends, mk_join, g_ends, fEq_i, fEq_b, rI_l, rI_d, rS_d, rL_l, r_pop, r_pop1, r_app, rr_q, rr_ix, rr_ixs, rr_len, rr_tup, rr_tru, rr_mkp, rr_mka, rr_pop, rr_app, rr_put, ok_put, out_rt, out_ex, Prod.mk.injEq, exists_eq, exists_and_left, exists_eq', bne_self_eq_false, Int.reduceBNe, Bool.true_and, and_assoc, Rs.ok.injEq, D.tup.injEq, D.bl.injEq, D.int.injEq, List.cons.injEq, enter_bs, D.bel, D.bels, List.cons_append, List.nil_append, startS, List.map_cons, List.map_nil, List.replicate_succ, List.replicate_zero, Nat.reduceSub, Nat.reduceAdd, Bool.or_false, Bool.false_or, Bool.or_true, Bool.true_or, Bool.and_true, Bool.and_false, Bool.true_and, Bool.false_and, if_true, if_false, reduceCtorEq, Bool.not_eq_true, decide_eq_true_eq, decide_eq_false_iff_not, and_self, onok, onokS, onnx, ite_true, ite_false, reduceIte, e1, e2, hm, fEq_i, decide_true, out_dk, out_dki, out_dks, out_dkb, bs, Int.reduceEq, decide_false]
  · refine ⟨.i m, m1, .inr ⟨m1, m2⟩, run_to (d := ⟨_, _, _, f__law_own_hold⟩) rfl rfl ?_⟩
    simp only [f__law_own_hold, b__law_own_hold, Ho.d, onok_ok, onok_ex, onokS_ok, onokS_ex, onnx_nx, onnx_rt, onnx_bk, onnx_ct, onnx_ex, wc_ok, we_v, we_c, we_g, we_bin, we_cmp, we_ix, we_neg, we_not, we_ite, we_andv, we_orv, we_and1, we_or1, we_and, we_or, we_tup, we_frz, we_alc, we_blt, we_call, we_meth, we_sl, we_isi, we_isi2, we_dsp, we_newd, wt_val, wt_cmp, wt_not, wt_andv, wt_orv, wt_and1, wt_or1, wt_and, wt_or, wa_nil, wa_cons, wn_disp, wn_lis, wn_comp, wi_rng, wi_enu, wi_one, wo_non, wo_some, ws_nop, ws_nil, ws_brk, ws_cnt, ws_retn, ws_exp, ws_ret, ws_raise, ws_ite, ws_set, ws_set, ws_setcF, ws_setcT, ws_par, ws_put, ws_seq, ws_for, ws_while, ws_try, List.getElem?_cons_zero, List.getElem?_cons_succ, Option.some.injEq, exists_eq_left', exists_eq_left, true_implies, forall_const, Bool.true_eq_false, Bool.false_eq_true, false_implies, and_true, true_and, setT, List.set_cons_zero, List.set_cons_succ, List.length_cons, List.length_nil, setAll, Option.bind_some, asB, Bool.not_true, Bool.not_false, o_add_i, o_add_s, o_add_t, o_add_l, o_sub_i, o_mul_i, o_fdv_i, o_mod_i, o_pow_i, o_neg_i, o_lt_i, o_le_i, o_gt_i, o_ge_i, o_is_n, o_isn_n, o_eq_d, o_ne_d, o_in_d, o_nin_d, bx_len, bx_int, bx_min, bx_max, bx_sum, bx_all, bx_any, bx_tuple, b_min_i, b_max_i, b_int_i, b_int_b, b_len_t, b_len_l, b_len_c, b_len_s, b_tup_t, b_tup_l, b_lis_t, b_lis_l, isa_tab, ty_non, ty_bl, ty_int, ty_str, ty_tup, ty_lst, ty_scr, ty_dic, tr_non, tr_bl, tr_int, tr_tup, tr_lst, tr_scr, nm_set, tp_set, ix_t, ix_l, ix_c, at_0, at_1, at_2, at_3, at_m, at_m1, range1, items_t, items_l, items_s, enu_t, enu_l, bel_int, bel_str, bel_bl, bel_non, out_bl, out_int, out_str, out_non, out_nx, mk_ends, mk_join, g_ends, fEq_i, fEq_b, rI_l, rI_d, rS_d, rL_l, r_pop, r_pop1, r_app, rr_q, rr_ix, rr_ixs, rr_len, rr_tup, rr_tru, rr_mkp, rr_mka, rr_pop, rr_app, rr_put, ok_put, out_rt, out_ex, Prod.mk.injEq, exists_eq, exists_and_left, exists_eq', bne_self_eq_false, Int.reduceBNe, Bool.true_and, and_assoc, Rs.ok.injEq, D.tup.injEq, D.bl.injEq, D.int.injEq, List.cons.injEq, enter_bs, D.bel, D.bels, List.cons_append, List.nil_append, startS, List.map_cons, List.map_nil, List.replicate_succ, List.replicate_zero, Nat.reduceSub, Nat.reduceAdd, Bool.or_false, Bool.false_or, Bool.or_true, Bool.true_or, Bool.and_true, Bool.and_false, Bool.true_and, Bool.false_and, if_true, if_false, reduceCtorEq, Bool.not_eq_true, decide_eq_true_eq, decide_eq_false_iff_not, and_self, onok, onokS, onnx, ite_true, ite_false, reduceIte, e1, e2, hm, fEq_i, decide_true, out_dk, out_dki, out_dks, out_dkb, bs, q1, q2, q3, decide_false]
theorem may_of {h : Ho} {k : Int} (h0 : 0 ≤ k) (h1 : h ≠ .en → k ≤ h.n - 1) : h.may k := by
  cases h with
  | en => exact h0
  | i m => exact ⟨h0, h1 (by simp)⟩
  | t m => exact ⟨h0, h1 (by simp)⟩
  | l m => exact ⟨h0, h1 (by simp)⟩
theorem c_own_held_go (n : Nat) (l : Nat) (a : Int) (fs : List Int) (st : Sto) (h : Dk st l a fs) (d : D) (nh m : Int) (b : Bool) (hB : ∀ n st, md.call (n + 1) 24 [d] st = some (.ok (.int nh), st)) (hE : ∀ st, fEq d (.str ⟨#[101, 110, 100, 108, 101, 115, 115]⟩) st = some (.bl b)) (hm : m = if b = true then 200 else nh)
    (m1 : 1 ≤ m) (x : Str) (hx : x.length ≤ sizeLine) (hx1 : 1 ≤ x.length) : ∃ k a', 0 ≤ a' ∧ 0 ≤ k ∧ k ≤ m - 1 ∧ md.call (n + 2) 25 [.ref l, d, .str x] st = some (.ok (.int k), st.put l (dk a' fs)) := by
  have h0 := h.enter
  obtain ⟨r1, p1, p2, e1⟩ := c_draw n l a fs st.enter 5 (by omega) (by omega) h0
  obtain ⟨r2, p3, p4, e2⟩ := c_draw n l (a + 1) fs _ 36 (by omega) (by omega) h0.next
  rw [put_put] at e2
  have bs : ∀ y, (st.enter.put l y).bs = st.o.length :: st.bs := fun _ => rfl
  have ha := h.a0
  have hxl : 1 ≤ (x.length : Int) := by omega
  have hB := hB n st.enter
  by_cases q1 : r1 = 1
  · refine ⟨m - 1, a + 1, by omega, by omega, by omega, run_to (d := ⟨_, _, _, f__law_own_held⟩) rfl rfl ?_⟩
    subst q1
    cases b <;> subst hm <;> simp only [f__law_own_held, b__law_own_held, onok_ok, onok_ex, onokS_ok, onokS_ex, onnx_nx, onnx_rt, onnx_bk, onnx_ct, onnx_ex, wc_ok, we_v, we_c, we_g, we_bin, we_cmp, we_ix, we_neg, we_not, we_ite, we_andv, we_orv, we_and1, we_or1, we_and, we_or, we_tup, we_frz, we_alc, we_blt, we_call, we_meth, we_sl, we_isi, we_isi2, we_dsp, we_newd, wt_val, wt_cmp, wt_not, wt_andv, wt_orv, wt_and1, wt_or1, wt_and, wt_or, wa_nil, wa_cons, wn_disp, wn_lis, wn_comp, wi_rng, wi_enu, wi_one, wo_non, wo_some, ws_nop, ws_nil, ws_brk, ws_cnt, ws_retn, ws_exp, ws_ret, ws_raise, ws_ite, ws_set, ws_set, ws_setcF, ws_setcT, ws_par, ws_put, ws_seq, ws_for, ws_while, ws_try, List.getElem?_cons_zero, List.getElem?_cons_succ, Option.some.injEq, exists_eq_left', exists_eq_left, true_implies, forall_const, Bool.true_eq_false, Bool.false_eq_true, false_implies, and_true, true_and, setT, List.set_cons_zero, List.set_cons_succ, List.length_cons, List.length_nil, setAll, Option.bind_some, asB, Bool.not_true, Bool.not_false, o_add_i, o_add_s, o_add_t, o_add_l, o_sub_i, o_mul_i, o_fdv_i, o_mod_i, o_pow_i, o_neg_i, o_lt_i, o_le_i, o_gt_i, o_ge_i, o_is_n, o_isn_n, o_eq_d, o_ne_d, o_in_d, o_nin_d, bx_len, bx_int, bx_min, bx_max, bx_sum, bx_all, bx_any, bx_tuple, b_min_i, b_max_i, b_int_i, b_int_b, b_len_t, b_len_l, b_len_c, b_len_s, b_tup_t, b_tup_l, b_lis_t, b_lis_l, isa_tab, ty_non, ty_bl, ty_int, ty_str, ty_tup, ty_lst, ty_scr, ty_dic, tr_non, tr_bl, tr_int, tr_tup, tr_lst, tr_scr, nm_set, tp_set, ix_t, ix_l, ix_c, at_0, at_1, at_2, at_3, at_m, at_m1, range1, items_t, items_l, items_s, enu_t, enu_l, bel_int, bel_str, bel_bl, bel_non, out_bl, out_int, out_str, out_non, out_nx, mk_ends, mk_join, g_ends, fEq_i, fEq_b, rI_l, rI_d, rS_d, rL_l, r_pop, r_pop1, r_app, rr_q, rr_ix, rr_ixs, rr_len, rr_tup, rr_tru, rr_mkp, rr_mka, rr_pop, rr_app, rr_put, ok_put, out_rt, out_ex, Prod.mk.injEq, exists_eq, exists_and_left, exists_eq', bne_self_eq_false, Int.reduceBNe, Bool.true_and, and_assoc, Rs.ok.injEq, D.tup.injEq, D.bl.injEq, D.int.injEq, List.cons.injEq, enter_bs, D.bel, D.bels, List.cons_append, List.nil_append, startS, List.map_cons, List.map_nil, List.replicate_succ, List.replicate_zero, Nat.reduceSub, Nat.reduceAdd, Bool.or_false, Bool.false_or, Bool.or_true, Bool.true_or, Bool.and_true, Bool.and_false, Bool.true_and, Bool.false_and, if_true, if_false, reduceCtorEq, Bool.not_eq_true, decide_eq_true_eq, decide_eq_false_iff_not, and_self, onok, onokS, onnx, ite_true, ite_false, reduceIte, hB, hE, e1, fEq_i, decide_true, out_dk, out_dki, out_dks, out_dkb, bs]
  by_cases q2 : r1 = 2
  · refine ⟨if m - x.length > 0 then m - x.length else 0, a + 1, by omega, by split <;> omega, by split <;> omega, run_to (d := ⟨_, _, _, f__law_own_held⟩) rfl rfl ?_⟩
    subst q2
    cases b <;> subst hm <;> simp only [f__law_own_held, b__law_own_held, onok_ok, onok_ex, onokS_ok, onokS_ex, onnx_nx, onnx_rt, onnx_bk, onnx_ct, onnx_ex, wc_ok, we_v, we_c, we_g, we_bin, we_cmp, we_ix, we_neg, we_not, we_ite, we_andv, we_orv, we_and1, we_or1, we_and, we_or, we_tup, we_frz, we_alc, we_blt, we_call, we_meth, we_sl, we_isi, we_isi2, we_dsp, we_newd, wt_val, wt_cmp, wt_not, wt_andv, wt_orv, wt_and1, wt_or1, wt_and, wt_or, wa_nil, wa_cons, wn_disp, wn_lis, wn_comp, wi_rng, wi_enu, wi_one, wo_non, wo_some, ws_nop, ws_nil, ws_brk, ws_cnt, ws_retn, ws_exp, ws_ret, ws_raise, ws_ite, ws_set, ws_set, ws_setcF, ws_setcT, ws_par, ws_put, ws_seq, ws_for, ws_while, ws_try, List.getElem?_cons_zero, List.getElem?_cons_succ, Option.some.injEq, exists_eq_left', exists_eq_left, true_implies, forall_const, Bool.true_eq_false, Bool.false_eq_true, false_implies, and_true, true_and, setT, List.set_cons_zero, List.set_cons_succ, List.length_cons, List.length_nil, setAll, Option.bind_some, asB, Bool.not_true, Bool.not_false, o_add_i, o_add_s, o_add_t, o_add_l, o_sub_i, o_mul_i, o_fdv_i, o_mod_i, o_pow_i, o_neg_i, o_lt_i, o_le_i, o_gt_i, o_ge_i, o_is_n, o_isn_n, o_eq_d, o_ne_d, o_in_d, o_nin_d, bx_len, bx_int, bx_min, bx_max, bx_sum, bx_all, bx_any, bx_tuple, b_min_i, b_max_i, b_int_i, b_int_b, b_len_t, b_len_l, b_len_c, b_len_s, b_tup_t, b_tup_l, b_lis_t, b_lis_l, isa_tab, ty_non, ty_bl, ty_int, ty_str, ty_tup, ty_lst, ty_scr, ty_dic, tr_non, tr_bl, tr_int, tr_tup, tr_lst, tr_scr, nm_set, tp_set, ix_t, ix_l, ix_c, at_0, at_1, at_2, at_3, at_m, at_m1, range1, items_t, items_l, items_s, enu_t, enu_l, bel_int, bel_str, bel_bl, bel_non, out_bl, out_int, out_str, out_non, out_nx, mk_ends, mk_join, g_ends, fEq_i, fEq_b, rI_l, rI_d, rS_d, rL_l, r_pop, r_pop1, r_app, rr_q, rr_ix, rr_ixs, rr_len, rr_tup, rr_tru, rr_mkp, rr_mka, rr_pop, rr_app, rr_put, ok_put, out_rt, out_ex, Prod.mk.injEq, exists_eq, exists_and_left, exists_eq', bne_self_eq_false, Int.reduceBNe, Bool.true_and, and_assoc, Rs.ok.injEq, D.tup.injEq, D.bl.injEq, D.int.injEq, List.cons.injEq, enter_bs, D.bel, D.bels, List.cons_append, List.nil_append, startS, List.map_cons, List.map_nil, List.replicate_succ, List.replicate_zero, Nat.reduceSub, Nat.reduceAdd, Bool.or_false, Bool.false_or, Bool.or_true, Bool.true_or, Bool.and_true, Bool.and_false, Bool.true_and, Bool.false_and, if_true, if_false, reduceCtorEq, Bool.not_eq_true, decide_eq_true_eq, decide_eq_false_iff_not, and_self, onok, onokS, onnx, ite_true, ite_false, reduceIte, hB, hE, e1, fEq_i, decide_true, out_dk, out_dki, out_dks, out_dkb, bs, Int.reduceEq, decide_false, b_len_s hx]
  by_cases q3 : r1 = 3
  · refine ⟨if m - x.length - 1 > 0 then m - x.length - 1 else 0, a + 1, by omega, by split <;> omega, by split <;> omega, run_to (d := ⟨_, _, _, f__law_own_held⟩) rfl rfl ?_⟩
    subst q3
    cases b <;> subst hm <;> simp only [f__law_own_held, b__law_own_held, onok_ok, onok_ex, onokS_ok, onokS_ex, onnx_nx, onnx_rt, onnx_bk, onnx_ct, onnx_ex, wc_ok, we_v, we_c, we_g, we_bin, we_cmp, we_ix, we_neg, we_not, we_ite, we_andv, we_orv, we_and1, we_or1, we_and, we_or, we_tup, we_frz, we_alc, we_blt, we_call, we_meth, we_sl, we_isi, we_isi2, we_dsp, we_newd, wt_val, wt_cmp, wt_not, wt_andv, wt_orv, wt_and1, wt_or1, wt_and, wt_or, wa_nil, wa_cons, wn_disp, wn_lis, wn_comp, wi_rng, wi_enu, wi_one, wo_non, wo_some, ws_nop, ws_nil, ws_brk, ws_cnt, ws_retn, ws_exp, ws_ret, ws_raise, ws_ite, ws_set, ws_set, ws_setcF, ws_setcT, ws_par, ws_put, ws_seq, ws_for, ws_while, ws_try, List.getElem?_cons_zero, List.getElem?_cons_succ, Option.some.injEq, exists_eq_left', exists_eq_left, true_implies, forall_const, Bool.true_eq_false, Bool.false_eq_true, false_implies, and_true, true_and, setT, List.set_cons_zero, List.set_cons_succ, List.length_cons, List.length_nil, setAll, Option.bind_some, asB, Bool.not_true, Bool.not_false, o_add_i, o_add_s, o_add_t, o_add_l, o_sub_i, o_mul_i, o_fdv_i, o_mod_i, o_pow_i, o_neg_i, o_lt_i, o_le_i, o_gt_i, o_ge_i, o_is_n, o_isn_n, o_eq_d, o_ne_d, o_in_d, o_nin_d, bx_len, bx_int, bx_min, bx_max, bx_sum, bx_all, bx_any, bx_tuple, b_min_i, b_max_i, b_int_i, b_int_b, b_len_t, b_len_l, b_len_c, b_len_s, b_tup_t, b_tup_l, b_lis_t, b_lis_l, isa_tab, ty_non, ty_bl, ty_int, ty_str, ty_tup, ty_lst, ty_scr, ty_dic, tr_non, tr_bl, tr_int, tr_tup, tr_lst, tr_scr, nm_set, tp_set, ix_t, ix_l, ix_c, at_0, at_1, at_2, at_3, at_m, at_m1, range1, items_t, items_l, items_s, enu_t, enu_l, bel_int, bel_str, bel_bl, bel_non, out_bl, out_int, out_str, out_non, out_nx, mk_ends, mk_join, g_ends, fEq_i, fEq_b, rI_l, rI_d, rS_d, rL_l, r_pop, r_pop1, r_app, rr_q, rr_ix, rr_ixs, rr_len, rr_tup, rr_tru, rr_mkp, rr_mka, rr_pop, rr_app, rr_put, ok_put, out_rt, out_ex, Prod.mk.injEq, exists_eq, exists_and_left, exists_eq', bne_self_eq_false, Int.reduceBNe, Bool.true_and, and_assoc, Rs.ok.injEq, D.tup.injEq, D.bl.injEq, D.int.injEq, List.cons.injEq, enter_bs, D.bel, D.bels, List.cons_append, List.nil_append, startS, List.map_cons, List.map_nil, List.replicate_succ, List.replicate_zero, Nat.reduceSub, Nat.reduceAdd, Bool.or_false, Bool.false_or, Bool.or_true, Bool.true_or, Bool.and_true, Bool.and_false, Bool.true_and, Bool.false_and, if_true, if_false, reduceCtorEq, Bool.not_eq_true, decide_eq_true_eq, decide_eq_false_iff_not, and_self, onok, onokS, onnx, ite_true, ite_false, reduceIte, hB, hE, e1, fEq_i, decide_true, out_dk, out_dki, out_dks, out_dkb, bs, Int.reduceEq, decide_false, b_len_s hx]
  by_cases q4 : r1 = 4
  · have hm0 : 0 < m := by omega
    have i1 := Int.emod_nonneg r2 (show m ≠ 0 by omega)
    have i2 := Int.emod_lt_of_pos r2 hm0
    refine ⟨r2 % m, a + 1 + 1, by omega, i1, by omega, run_to (d := ⟨_, _, _, f__law_own_held⟩) rfl rfl ?_⟩
    subst q4
    cases b with
    | true =>
      have hm : m = 200 := hm
      subst hm
      simp only [f__law_own_held, b__law_own_held, onok_ok, onok_ex, onokS_ok, onokS_ex, onnx_nx, onnx_rt, onnx_bk, onnx_ct, onnx_ex, wc_ok, we_v, we_c, we_g, we_bin, we_cmp, we_ix, we_neg, we_not, we_ite, we_andv, we_orv, we_and1, we_or1, we_and, we_or, we_tup, we_frz, we_alc, we_blt, we_call, we_meth, we_sl, we_isi, we_isi2, we_dsp, we_newd, wt_val, wt_cmp, wt_not, wt_andv, wt_orv, wt_and1, wt_or1, wt_and, wt_or, wa_nil, wa_cons, wn_disp, wn_lis, wn_comp, wi_rng, wi_enu, wi_one, wo_non, wo_some, ws_nop, ws_nil, ws_brk, ws_cnt, ws_retn, ws_exp, ws_ret, ws_raise, ws_ite, ws_set, ws_set, ws_setcF, ws_setcT, ws_par, ws_put, ws_seq, ws_for, ws_while, ws_try, List.getElem?_cons_zero, List.getElem?_cons_succ, Option.some.injEq, exists_eq_left', exists_eq_left, true_implies, forall_const, Bool.true_eq_false, Bool.false_eq_true, false_implies, and_true, true_and, setT, List.set_cons_zero, List.set_cons_succ, List.length_cons, List.length_nil, setAll, Option.bind_some, asB, Bool.not_true, Bool.not_false, o_add_i, o_add_s, o_add_t, o_add_l, o_sub_i, o_mul_i, o_fdv_i, o_mod_i, o_pow_i, o_neg_i, o_lt_i, o_le_i, o_gt_i, o_ge_i, o_is_n, o_isn_n, o_eq_d, o_ne_d, o_in_d, o_nin_d, bx_len, bx_int, bx_min, bx_max, bx_sum, bx_all, bx_any, bx_tuple, b_min_i, b_max_i, b_int_i, b_int_b, b_len_t, b_len_l, b_len_c, b_len_s, b_tup_t, b_tup_l, b_lis_t, b_lis_l, isa_tab, ty_non, ty_bl, ty_int, ty_str, ty_tup, ty_lst, ty_scr, ty_dic, tr_non, tr_bl, tr_int, tr_tup, tr_lst, tr_scr, nm_set, tp_set, ix_t, ix_l, ix_c, at_0, at_1, at_2, at_3, at_m, at_m1, range1, items_t, items_l, items_s, enu_t, enu_l, bel_int, bel_str, bel_bl, bel_non, out_bl, out_int, out_str, out_non, out_nx, mk_ends, mk_join, g_ends, fEq_i, fEq_b, rI_l, rI_d, rS_d, rL_l, r_pop, r_pop1, r_app, rr_q, rr_ix, rr_ixs, rr_len, rr_tup, rr_tru, rr_mkp, rr_mka, rr_pop, rr_app, rr_put, ok_put, out_rt, out_ex, Prod.mk.injEq, exists_eq, exists_and_left, exists_eq', bne_self_eq_false, Int.reduceBNe, Bool.true_and, and_assoc, Rs.ok.injEq, D.tup.injEq, D.bl.injEq, D.int.injEq, List.cons.injEq, enter_bs, D.bel, D.bels, List.cons_append, List.nil_append, startS, List.map_cons, List.map_nil, List.replicate_succ, List.replicate_zero, Nat.reduceSub, Nat.reduceAdd, Bool.or_false, Bool.false_or, Bool.or_true, Bool.true_or, Bool.and_true, Bool.and_false, Bool.true_and, Bool.false_and, if_true, if_false, reduceCtorEq, Bool.not_eq_true, decide_eq_true_eq, decide_eq_false_iff_not, and_self, onok, onokS, onnx, ite_true, ite_false, reduceIte, hB, hE, e1, e2, fEq_i, decide_true, out_dk, out_dki, out_dks, out_dkb, bs, Int.reduceEq, decide_false, Int.reduceLT]
    | false =>
      have hm : m = nh := hm
      subst hm
      simp only [f__law_own_held, b__law_own_held, onok_ok, onok_ex, onokS_ok, onokS_ex, onnx_nx, onnx_rt, onnx_bk, onnx_ct, onnx_ex, wc_ok, we_v, we_c, we_g, we_bin, we_cmp, we_ix, we_neg, we_not, we_ite, we_andv, we_orv, we_and1, we_or1, we_and, we_or, we_tup, we_frz, we_alc, we_blt, we_call, we_meth, we_sl, we_isi, we_isi2, we_dsp, we_newd, wt_val, wt_cmp, wt_not, wt_andv, wt_orv, wt_and1, wt_or1, wt_and, wt_or, wa_nil, wa_cons, wn_disp, wn_lis, wn_comp, wi_rng, wi_enu, wi_one, wo_non, wo_some, ws_nop, ws_nil, ws_brk, ws_cnt, ws_retn, ws_exp, ws_ret, ws_raise, ws_ite, ws_set, ws_set, ws_setcF, ws_setcT, ws_par, ws_put, ws_seq, ws_for, ws_while, ws_try, List.getElem?_cons_zero, List.getElem?_cons_succ, Option.some.injEq, exists_eq_left', exists_eq_left, true_implies, forall_const, Bool.true_eq_false, Bool.false_eq_true, false_implies, and_true, true_and, setT, List.set_cons_zero, List.set_cons_succ, List.length_cons, List.length_nil, setAll, Option.bind_some, asB, Bool.not_true, Bool.not_false, o_add_i, o_add_s, o_add_t, o_add_l, o_sub_i, o_mul_i, o_fdv_i, o_mod_i, o_pow_i, o_neg_i, o_lt_i, o_le_i, o_gt_i, o_ge_i, o_is_n, o_isn_n, o_eq_d, o_ne_d, o_in_d, o_nin_d, bx_len, bx_int, bx_min, bx_max, bx_sum, bx_all, bx_any, bx_tuple, b_min_i, b_max_i, b_int_i, b_int_b, b_len_t, b_len_l, b_len_c, b_len_s, b_tup_t, b_tup_l, b_lis_t, b_lis_l, isa_tab, ty_non, ty_bl, ty_int, ty_str, ty_tup, ty_lst, ty_scr, ty_dic, tr_non, tr_bl, tr_int, tr_tup, tr_lst, tr_scr, nm_set, tp_set, ix_t, ix_l, ix_c, at_0, at_1, at_2, at_3, at_m, at_m1, range1, items_t, items_l, items_s, enu_t, enu_l, bel_int, bel_str, bel_bl, bel_non, out_bl, out_int, out_str, out_non, out_nx, mk_ends, mk_join, g_ends, fEq_i, fEq_b, rI_l, rI_d, rS_d, rL_l, r_pop, r_pop1, r_app, rr_q, rr_ix, rr_ixs, rr_len, rr_tup, rr_tru, rr_mkp, rr_mka, rr_pop, rr_app, rr_put, ok_put, out_rt, out_ex, Prod.mk.injEq, exists_eq, exists_and_left, exists_eq', bne_self_eq_false, Int.reduceBNe, Bool.true_and, and_assoc, Rs.ok.injEq, D.tup.injEq, D.bl.injEq, D.int.injEq, List.cons.injEq, enter_bs, D.bel, D.bels, List.cons_append, List.nil_append, startS, List.map_cons, List.map_nil, List.replicate_succ, List.replicate_zero, Nat.reduceSub, Nat.reduceAdd, Bool.or_false, Bool.false_or, Bool.or_true, Bool.true_or, Bool.and_true, Bool.and_false, Bool.true_and, Bool.false_and, if_true, if_false, reduceCtorEq, Bool.not_eq_true, decide_eq_true_eq, decide_eq_false_iff_not, and_self, onok, onokS, onnx, ite_true, ite_false, reduceIte, hB, hE, e1, e2, fEq_i, decide_true, out_dk, out_dki, out_dks, out_dkb, bs, Int.reduceEq, decide_false, hm0]
  · refine ⟨0, a + 1, by omega, by omega, by omega, run_to (d := ⟨_, _, _, f__law_own_held⟩) rfl rfl ?_⟩
    cases b <;> subst hm <;> simp only [f__law_own_held, b__law_own_held, onok_ok, onok_ex, onokS_ok, onokS_ex, onnx_nx, onnx_rt, onnx_bk, onnx_ct, onnx_ex, wc_ok, we_v, we_c, we_g, we_bin, we_cmp, we_ix, we_neg, we_not, we_ite, we_andv, we_orv, we_and1, we_or1, we_and, we_or, we_tup, we_frz, we_alc, we_blt, we_call, we_meth, we_sl, we_isi, we_isi2, we_dsp, we_newd, wt_val, wt_cmp, wt_not, wt_andv, wt_orv, wt_and1, wt_or1, wt_and, wt_or, wa_nil, wa_cons, wn_disp, wn_lis, wn_comp, wi_rng, wi_enu, wi_one, wo_non, wo_some, ws_nop, ws_nil, ws_brk, ws_cnt, ws_retn, ws_exp, ws_ret, ws_raise, ws_ite, ws_set, ws_set, ws_setcF, ws_setcT, ws_par, ws_put, ws_seq, ws_for, ws_while, ws_try, List.getElem?_cons_zero, List.getElem?_cons_succ, Option.some.injEq, exists_eq_left', exists_eq_left, true_implies, forall_const, Bool.true_eq_false, Bool.false_eq_true, false_implies, and_true, true_and, setT, List.set_cons_zero, List.set_cons_succ, List.length_cons, List.length_nil, setAll, Option.bind_some, asB, Bool.not_true, Bool.not_false, o_add_i, o_add_s, o_add_t, o_add_l, o_sub_i, o_mul_i, o_fdv_i, o_mod_i, o_pow_i, o_neg_i, o_lt_i, o_le_i, o_gt_i, o_ge_i, o_is_n, o_isn_n, o_eq_d, o_ne_d, o_in_d, o_nin_d, bx_len, bx_int, bx_min, bx_max, bx_sum, bx_all, bx_any, bx_tuple, b_min_i, b_max_i, b_int_i, b_int_b, b_len_t, b_len_l, b_len_c, b_len_s, b_tup_t, b_tup_l, b_lis_t, b_lis_l, isa_tab, ty_non, ty_bl, ty_int, ty_str, ty_tup, ty_lst, ty_scr, ty_dic, tr_non, tr_bl, tr_int, tr_tup, tr_lst, tr_scr, nm_set, tp_set, ix_t, ix_l, ix_c, at_0, at_1, at_2, at_3, at_m, at_m1, range1, items_t, items_l, items_s, enu_t, enu_l, bel_int, bel_str, bel_bl, bel_non, out_bl, out_int, out_str, out_non, out_nx, mk_ends, mk_join, g_ends, fEq_i, fEq_b, rI_l, rI_d, rS_d, rL_l, r_pop, r_pop1, r_app, rr_q, rr_ix, rr_ixs, rr_len, rr_tup, rr_tru, rr_mkp, rr_mka, rr_pop, rr_app, rr_put, ok_put, out_rt, out_ex, Prod.mk.injEq, exists_eq, exists_and_left, exists_eq', bne_self_eq_false, Int.reduceBNe, Bool.true_and, and_assoc, Rs.ok.injEq, D.tup.injEq, D.bl.injEq, D.int.injEq, List.cons.injEq, enter_bs, D.bel, D.bels, List.cons_append, List.nil_append, startS, List.map_cons, List.map_nil, List.replicate_succ, List.replicate_zero, Nat.reduceSub, Nat.reduceAdd, Bool.or_false, Bool.false_or, Bool.or_true, Bool.true_or, Bool.and_true, Bool.and_false, Bool.true_and, Bool.false_and, if_true, if_false, reduceCtorEq, Bool.not_eq_true, decide_eq_true_eq, decide_eq_false_iff_not, and_self, onok, onokS, onnx, ite_true, ite_false, reduceIte, hB, hE, e1, fEq_i, decide_true, out_dk, out_dki, out_dks, out_dkb, bs, q1, q2, q3, q4, decide_false]
theorem c_own_held (n : Nat) (l : Nat) (a : Int) (fs : List Int) (st : Sto) (h : Dk st l a fs) (ho : Ho) (hb : ho = .en ∨ (1 ≤ ho.n ∧ ho.n ≤ 10000)) (x : Str) (hx : x.length ≤ sizeLine) (hx1 : 1 ≤ x.length) :
    ∃ k a', 0 ≤ a' ∧ ho.may k ∧ md.call (n + 2) 25 [.ref l, ho.d, .str x] st = some (.ok (.int k), st.put l (dk a' fs)) := by
  have two : ∀ m, m ≠ Ho.en → ((1 ≤ m.n ∧ m.n ≤ 10000) ∨ m = .en) → 1 ≤ m.n := fun m z w => by
    rcases w with w | w
    · exact w.1
    · exact absurd w z
  cases ho with
  | en =>
    obtain ⟨k, a', p1, p2, p3, e⟩ := c_own_held_go n l a fs st h Ho.en.d 0 200 true (fun n st => c_lbound n .en st) (fun st => eq_ee) rfl (by omega) x hx hx1
    exact ⟨k, a', p1, p2, e⟩
  | i m =>
    have m1 : 1 ≤ m := two (.i m) (by simp) hb.symm
    obtain ⟨k, a', p1, p2, p3, e⟩ := c_own_held_go n l a fs st h (Ho.i m).d m m false (fun n st => c_lbound n (.i m) st) (fun st => eq_ie) rfl m1 x hx hx1
    exact ⟨k, a', p1, ⟨p2, p3⟩, e⟩
  | t m =>
    have m1 : 1 ≤ m := two (.t m) (by simp) hb.symm
    obtain ⟨k, a', p1, p2, p3, e⟩ := c_own_held_go n l a fs st h (Ho.t m).d m m false (fun n st => c_lbound n (.t m) st) (fun st => eq_te) rfl m1 x hx hx1
    exact ⟨k, a', p1, ⟨p2, p3⟩, e⟩
  | l m =>
    have m1 : 1 ≤ m := two (.l m) (by simp) hb.symm
    obtain ⟨k, a', p1, p2, p3, e⟩ := c_own_held_go n l a fs st h (Ho.l m).d m m false (fun n st => c_lbound n (.l m) st) (fun st => eq_le) rfl m1 x hx hx1
    exact ⟨k, a', p1, ⟨p2, p3⟩, e⟩
end K00

set_option Elab.async false
set_option linter.all false
set_option maxRecDepth 100000
set_option maxHeartbeats 0
namespace K00
open PySem Hb L2
abbrev LETS : List Nat := [97, 98, 99, 100, 101, 102, 103, 104, 105, 106, 107, 108, 109, 110, 111, 112, 113, 114, 115, 116, 117, 118, 119, 120, 121, 122]
theorem let_at : ∀ j : Nat, j < 26 → LETS[j]? = some (97 + j) := by decide
theorem texts_one {ls : List Nat} : textsD (ls.map fun c => D.str ⟨#[c]⟩) = some (ls.map fun c => (⟨#[c]⟩ : Str)) := by
  induction ls with
  | nil => rfl
  | cons c ls ih =>
    show (textsD (ls.map fun c => D.str ⟨#[c]⟩)).map _ = _
    rw [ih]; rfl
theorem fold_one : ∀ (ls : List Nat) (acc : Array Nat), List.foldl (fun acc (p : Str) => acc ++ (#[] : Array Nat) ++ p.cps) acc (ls.map fun c => (⟨#[c]⟩ : Str)) = acc ++ ls.toArray
  | [], acc => by simp
  | c :: ls, acc => by
    rw [List.map_cons, List.foldl_cons, fold_one ls]
    simp
theorem join_one {ls : List Nat} : Txt.join ⟨#[]⟩ (ls.map fun c => (⟨#[c]⟩ : Str)) = ⟨ls.toArray⟩ := by
  cases ls with
  | nil => rfl
  | cons c ls =>
    show (⟨List.foldl (fun acc (p : Str) => acc ++ (#[] : Array Nat) ++ p.cps) #[c] (ls.map fun c => (⟨#[c]⟩ : Str))⟩ : Str) = _
    rw [fold_one]
    simp
theorem g_join1 {k : RK} {ls : List Nat} (hl : ls.length ≤ 1000) {st : Sto} : Mn.join.g k (.str ⟨#[]⟩) [.lst (ls.map fun c => D.str ⟨#[c]⟩)] st = some (.str ⟨ls.toArray⟩, st) := by
  show (match (qview (.lst (ls.map fun c => D.str ⟨#[c]⟩)) st).bind textsD with
    | some ys => if (ys.map Str.length).sum + ys.length * (⟨#[]⟩ : Str).length ≤ 16777216 then some (D.str (Txt.join ⟨#[]⟩ ys), st) else none
    | none => none) = _
  have q : (qview (.lst (ls.map fun c => D.str ⟨#[c]⟩)) st).bind textsD = some (ls.map fun c => (⟨#[c]⟩ : Str)) := texts_one
  rw [q]
  dsimp only
  have e : ((ls.map fun c => (⟨#[c]⟩ : Str)).map Str.length).sum = ls.length := by
    clear q hl
    induction ls with
    | nil => rfl
    | cons c ls ih =>
      rw [List.map_cons, List.map_cons, List.sum_cons, ih, List.length_cons]
      show 1 + ls.length = _
      omega
  rw [if_pos (by rw [e]; show ls.length + _ * 0 ≤ _; omega), join_one]
theorem word_comp (call : Nat → Cl) (o0 o5 o6 : Option D) (o2 : Option D) (f s : Int) (hf : 0 ≤ f ∧ f < 26) (hs : 0 ≤ s ∧ s < 26) (k : Nat) (st : Sto) :
    compL (.nm 6) (fun _ => true) (evIf md.tb call .nil) (evE md.tb call (.ix (.v 1) (.bin .mod (.bin .add (.v 3) (.bin .mul (.v 6) (.v 4))) (.c (.int 26))))) (wipeS [o0, some (.str ⟨LETS.toArray⟩), o2, some (.int f), some (.int s), o5, o6] [6]) ((List.range k).map fun i => D.int (0 + (i : Nat))) st =
      some (((List.range k).map fun (i : Nat) => 97 + ((f + (0 + (i : Int)) * s) % 26).toNat).map (fun c => D.str ⟨#[c]⟩), st) := by
  have q := comp_map (t := .nm 6) (g := fun _ => true) (dt := evIf md.tb call .nil) (de := evE md.tb call (.ix (.v 1) (.bin .mod (.bin .add (.v 3) (.bin .mul (.v 6) (.v 4))) (.c (.int 26))))) (sl := wipeS [o0, some (.str ⟨LETS.toArray⟩), o2, some (.int f), some (.int s), o5, o6] [6]) (st := st) rfl (fun x => match x with
    | .int i => .str ⟨#[97 + ((f + i * s) % 26).toNat]⟩
    | _ => .non) (xs := (List.range k).map fun i => D.int (0 + (i : Nat))) fun x hx => by
      obtain ⟨i, _, rfl⟩ := List.mem_map.mp hx
      refine ⟨_, rfl, rfl, ?_⟩
      have cm : cMul (0 + (i : Int)) s = true := by
        unfold cMul
        have e1 : decide (-(2 ^ 64) < s) = true := decide_eq_true (by omega)
        have e2 : decide (s < 2 ^ 64) = true := decide_eq_true (by omega)
        rw [e1, e2]; simp
      have m0 := Int.emod_nonneg (f + (0 + (i : Int)) * s) (show (26 : Int) ≠ 0 by omega)
      have m1 := Int.emod_lt_of_pos (f + (0 + (i : Int)) * s) (show (0 : Int) < 26 by omega)
      have at_ : fIxD (.str ⟨LETS.toArray⟩) (.int ((f + (0 + (i : Int)) * s) % 26)) st = some (.str ⟨#[97 + ((f + (0 + (i : Int)) * s) % 26).toNat]⟩) := by
        show (if (⟨LETS.toArray⟩ : Str).length ≤ sizeLine then (L2.atI LETS ((f + (0 + (i : Int)) * s) % 26)).map fun c => D.str ⟨#[c]⟩ else none) = _
        rw [if_pos (by show 26 ≤ sizeLine; decide)]
        have hn : (f + (0 + (i : Int)) * s) % 26 = ((((f + (0 + (i : Int)) * s) % 26).toNat : Nat) : Int) := by omega
        have hlt : ((f + (0 + (i : Int)) * s) % 26).toNat < 26 := by omega
        generalize ((f + (0 + (i : Int)) * s) % 26).toNat = j at hn hlt
        rw [hn, at_ok (show j < LETS.length from hlt), let_at j hlt]
        rfl
      have w : wE (evE md.tb call (.ix (.v 1) (.bin .mod (.bin .add (.v 3) (.bin .mul (.v 6) (.v 4))) (.c (.int 26))))) [o0, some (.str ⟨LETS.toArray⟩), o2, some (.int f), some (.int s), o5, some (.int (0 + (i : Int)))] st fun r s' => r = .ok (.str ⟨#[97 + ((f + (0 + (i : Int)) * s) % 26).toNat]⟩) ∧ s' = st := by
        simp only [onok_ok, onok_ex, onokS_ok, onokS_ex, onnx_nx, onnx_rt, onnx_bk, onnx_ct, onnx_ex, wc_ok, we_v, we_c, we_g, we_bin, we_cmp, we_ix, we_neg, we_not, we_ite, we_andv, we_orv, we_and1, we_or1, we_and, we_or, we_tup, we_frz, we_alc, we_blt, we_call, we_meth, we_sl, we_isi, we_isi2, we_dsp, we_newd, wt_val, wt_cmp, wt_not, wt_andv, wt_orv, wt_and1, wt_or1, wt_and, wt_or, wa_nil, wa_cons, wn_disp, wn_lis, wn_comp, wi_rng, wi_enu, wi_one, wo_non, wo_some, ws_nop, ws_nil, ws_brk, ws_cnt, ws_retn, ws_exp, ws_ret, ws_raise, ws_ite, ws_set, ws_set, ws_setcF, ws_setcT, ws_par, ws_put, ws_seq, ws_for, ws_while, ws_try, List.getElem?_cons_zero, List.getElem?_cons_succ, Option.some.injEq, exists_eq_left', exists_eq_left, true_implies, forall_const, Bool.true_eq_false, Bool.false_eq_true, false_implies, and_true, true_and, setT, List.set_cons_zero, List.set_cons_succ, List.length_cons, List.length_nil, setAll, Option.bind_some, asB, Bool.not_true, Bool.not_false, o_add_i, o_add_s, o_add_t, o_add_l, o_sub_i, o_mul_i, o_fdv_i, o_mod_i, o_pow_i, o_neg_i, o_lt_i, o_le_i, o_gt_i, o_ge_i, o_is_n, o_isn_n, o_eq_d, o_ne_d, o_in_d, o_nin_d, bx_len, bx_int, bx_min, bx_max, bx_sum, bx_all, bx_any, bx_tuple, b_min_i, b_max_i, b_int_i, b_int_b, b_len_t, b_len_l, b_len_c, b_len_s, b_tup_t, b_tup_l, b_lis_t, b_lis_l, isa_tab, ty_non, ty_bl, ty_int, ty_str, ty_tup, ty_lst, ty_scr, ty_dic, tr_non, tr_bl, tr_int, tr_tup, tr_lst, tr_scr, nm_set, tp_set, ix_t, ix_l, ix_c, at_0, at_1, at_2, at_3, at_m, at_m1, range1, items_t, items_l, items_s, enu_t, enu_l, bel_int, bel_str, bel_bl, bel_non, out_bl, out_int, out_str, out_non, out_nx, mk_ends, mk_join, g_ends, fEq_i, fEq_b, rI_l, rI_d, rS_d, rL_l, r_pop, r_pop1, r_app, rr_q, rr_ix, rr_ixs, rr_len, rr_tup, rr_tru, rr_mkp, rr_mka, rr_pop, rr_app, rr_put, ok_put, out_rt, out_ex, Prod.mk.injEq, exists_eq, exists_and_left, exists_eq', bne_self_eq_false, Int.reduceBNe, Bool.true_and, and_assoc, Rs.ok.injEq, D.tup.injEq, D.bl.injEq, D.int.injEq, List.cons.injEq, enter_bs, D.bel, D.bels, List.cons_append, List.nil_append, startS, List.map_cons, List.map_nil, List.replicate_succ, List.replicate_zero, Nat.reduceSub, Nat.reduceAdd, Bool.or_false, Bool.false_or, Bool.or_true, Bool.true_or, Bool.and_true, Bool.and_false, Bool.true_and, Bool.false_and, if_true, if_false, reduceCtorEq, Bool.not_eq_true, decide_eq_true_eq, decide_eq_false_iff_not, and_self, onok, onokS, onnx, ite_true, ite_false, reduceIte, cm, at_, Int.reduceLT, decide_true]
      obtain ⟨r, s', e, rfl, rfl⟩ := w
      exact e
  rw [q, List.map_map, List.map_map]
  rfl
theorem c_word (n : Nat) (l : Nat) (a : Int) (fs : List Int) (st : Sto) (h : Dk st l a fs) : ∃ (w : Wd) (a' : Int), w.Ok ∧ 0 ≤ a' ∧ md.call (n + 2) 22 [.ref l] st = some (.ok (.str w.s), st.put l (dk a' fs)) := by
  have h0 := h.enter
  obtain ⟨r1, p1, p2, e1⟩ := c_draw n l a fs st.enter 7 (by omega) (by omega) h0
  obtain ⟨f, p3, p4, e2⟩ := c_draw n l (a + 1) fs _ 26 (by omega) (by omega) h0.next
  obtain ⟨s, p5, p6, e3⟩ := c_draw n l (a + 1 + 1) fs _ 26 (by omega) (by omega) h0.next.next
  obtain ⟨r4, p7, p8, e4⟩ := c_draw n l (a + 1 + 1 + 1) fs _ 3 (by omega) (by omega) h0.next.next.next
  simp only [put_put] at e2 e3 e4
  have hm : ∃ k : Nat, 1 ≤ k ∧ k ≤ 12 ∧ L2.atI [D.int 1, .int 2, .int 3, .int 4, .int 6, .int 11, .int 12] r1 = some (.int (k : Nat)) := by
    have hr : r1 = ((r1.toNat : Nat) : Int) := by omega
    rw [hr, at_ok (by show r1.toNat < 7; omega)]
    have hb : r1.toNat < 7 := by omega
    generalize r1.toNat = k at hb
    match k, hb with
    | 0, _ => exact ⟨1, by omega, by omega, rfl⟩
    | 1, _ => exact ⟨2, by omega, by omega, rfl⟩
    | 2, _ => exact ⟨3, by omega, by omega, rfl⟩
    | 3, _ => exact ⟨4, by omega, by omega, rfl⟩
    | 4, _ => exact ⟨6, by omega, by omega, rfl⟩
    | 5, _ => exact ⟨11, by omega, by omega, rfl⟩
    | 6, _ => exact ⟨12, by omega, by omega, rfl⟩
    | k + 7, hb => omega
  obtain ⟨k, k1, k2, hm⟩ := hm
  have bs : ∀ y, (st.enter.put l y).bs = st.o.length :: st.bs := fun _ => rfl
  have rg : ∀ st', rngOf [.int (k : Nat)] st' = some ((List.range k).map fun i => .int (0 + (i : Nat)), fun _ => true) := fun st' => by
    rw [range1, if_pos (by omega), Int.toNat_natCast]
  have ha := h.a0
  obtain ⟨ls, hls⟩ : ∃ ls, ls = (List.range k).map fun (i : Nat) => 97 + ((f + (0 + (i : Int)) * s) % 26).toNat := ⟨_, rfl⟩
  have hlen : ls.length = k := by rw [hls]; simp
  have hlt : ∀ c ∈ ls, Lt c := fun c hc => by
    rw [hls] at hc
    obtain ⟨i, _, rfl⟩ := List.mem_map.mp hc
    have m1 := Int.emod_lt_of_pos (f + (0 + (i : Int)) * s) (show (0 : Int) < 26 by omega)
    show 97 ≤ 97 + _ ∧ 97 + _ ≤ 122
    omega
  have hne : ls ≠ [] := fun z => by rw [z] at hlen; simp at hlen; omega
  have hls1 : ls.length ≤ 1000 := by omega
  have lim : ls.length ≤ sizeLine := Nat.le_trans hls1 (by decide)
  have sl_ : (⟨ls.toArray⟩ : Str).length ≤ sizeLine := by show ls.toArray.size ≤ _; simpa using lim
  have cut : fSl (.str ⟨ls.toArray⟩) none (some 11) (st.enter.put l (dk (a + 1 + 1 + 1 + 1) fs)) = some (.str ⟨(ls.take 11).toArray⟩) := by
    show (if (⟨ls.toArray⟩ : Str).length ≤ sizeLine then some (D.str (cutS ⟨ls.toArray⟩ none (some 11))) else none) = _
    rw [if_pos sl_]
    unfold cutS
    have : HT.sIx (⟨ls.toArray⟩ : Str).length (⟨ls.toArray⟩ : Str).length (some 11) = min 11 ls.length := by
      show HT.sIx ls.toArray.size _ (some ((11 : Nat) : Int)) = _
      rw [HT.sIx_nat]
      simp
    rw [this]
    show some (D.str ⟨((ls.toArray.toList.drop 0).take (min 11 ls.length - 0)).toArray⟩) = _
    simp [List.take_eq_take_min]
  by_cases q : r4 = 2
  · refine ⟨⟨ls.take 11, true⟩, a + 1 + 1 + 1 + 1, ⟨fun z => ?_, ?_, fun c hc => hlt c (List.mem_of_mem_take hc)⟩, by omega, run_to (d := ⟨_, _, _, f__law_word⟩) rfl rfl ?_⟩
    · have := congrArg List.length z
      rw [List.length_take] at this
      have z0 : ([] : List Nat).length = 0 := rfl
      rw [z0] at this
      omega
    · have := List.length_take_le 11 ls
      show (ls.take 11).length ≤ 12
      omega
    · have ad : Op2.add.f (.str ⟨(ls.take 11).toArray⟩) (.str ⟨#[47]⟩) (st.enter.put l (dk (a + 1 + 1 + 1 + 1) fs)) = some (.str (Wd.mk (ls.take 11) true).s) := by
        show (if (⟨(ls.take 11).toArray⟩ : Str).length + 1 ≤ sizeLine then some (D.str (⟨(ls.take 11).toArray ++ #[47]⟩ : Str)) else none) = _
        have h11 := List.length_take_le 11 ls
        rw [if_pos (by show (ls.take 11).toArray.size + 1 ≤ sizeLine; rw [List.size_toArray]; exact Nat.le_trans (show _ ≤ 12 by omega) (by decide))]
        unfold Wd.s Wd.cs
        simp
      simp only [f__law_word, b__law_word, onok_ok, onok_ex, onokS_ok, onokS_ex, onnx_nx, onnx_rt, onnx_bk, onnx_ct, onnx_ex, wc_ok, we_v, we_c, we_g, we_bin, we_cmp, we_ix, we_neg, we_not, we_ite, we_andv, we_orv, we_and1, we_or1, we_and, we_or, we_tup, we_frz, we_alc, we_blt, we_call, we_meth, we_sl, we_isi, we_isi2, we_dsp, we_newd, wt_val, wt_cmp, wt_not, wt_andv, wt_orv, wt_and1, wt_or1, wt_and, wt_or, wa_nil, wa_cons, wn_disp, wn_lis, wn_comp, wi_rng, wi_enu, wi_one, wo_non, wo_some, ws_nop, ws_nil, ws_brk, ws_cnt, ws_retn, ws_exp, ws_ret, ws_raise, ws_ite, ws_set, ws_set, ws_setcF, ws_setcT, ws_par, ws_put, ws_seq, ws_for, ws_while, ws_try, List.getElem?_cons_zero, List.getElem?_cons_succ, Option.some.injEq, exists_eq_left', exists_eq_left, true_implies, forall_const, Bool.true_eq_false, Bool.false_eq_true, false_implies, and_true, true_and, setT, List.set_cons_zero, List.set_cons_succ, List.length_cons, List.length_nil, setAll, Option.bind_some, asB, Bool.not_true, Bool.not_false, o_add_i, o_add_s, o_add_t, o_add_l, o_sub_i, o_mul_i, o_fdv_i, o_mod_i, o_pow_i, o_neg_i, o_lt_i, o_le_i, o_gt_i, o_ge_i, o_is_n, o_isn_n, o_eq_d, o_ne_d, o_in_d, o_nin_d, bx_len, bx_int, bx_min, bx_max, bx_sum, bx_all, bx_any, bx_tuple, b_min_i, b_max_i, b_int_i, b_int_b, b_len_t, b_len_l, b_len_c, b_len_s, b_tup_t, b_tup_l, b_lis_t, b_lis_l, isa_tab, ty_non, ty_bl, ty_int, ty_str, ty_tup, ty_lst, ty_scr, ty_dic, tr_non, tr_bl, tr_int, tr_tup, tr_lst, tr_scr, nm_set, tp_set, ix_t, ix_l, ix_c, at_0, at_1, at_2, at_3, at_m, at_m1, range1, items_t, items_l, items_s, enu_t, enu_l, bel_int, bel_str, bel_bl, bel_non, out_bl, out_int, out_str, out_non, out_nx, mk_ends, mk_join, g_ends, fEq_i, fEq_b, rI_l, rI_d, rS_d, rL_l, r_pop, r_pop1, r_app, rr_q, rr_ix, rr_ixs, rr_len, rr_tup, rr_tru, rr_mkp, rr_mka, rr_pop, rr_app, rr_put, ok_put, out_rt, out_ex, Prod.mk.injEq, exists_eq, exists_and_left, exists_eq', bne_self_eq_false, Int.reduceBNe, Bool.true_and, and_assoc, Rs.ok.injEq, D.tup.injEq, D.bl.injEq, D.int.injEq, List.cons.injEq, enter_bs, D.bel, D.bels, List.cons_append, List.nil_append, startS, List.map_cons, List.map_nil, List.replicate_succ, List.replicate_zero, Nat.reduceSub, Nat.reduceAdd, Bool.or_false, Bool.false_or, Bool.or_true, Bool.true_or, Bool.and_true, Bool.and_false, Bool.true_and, Bool.false_and, if_true, if_false, reduceCtorEq, Bool.not_eq_true, decide_eq_true_eq, decide_eq_false_iff_not, and_self, onok, onokS, onnx, ite_true, ite_false, reduceIte, e1, e2, e3, e4, hm, rg, setAll, word_comp _ _ _ _ _ f s ⟨p3, p4⟩ ⟨p5, p6⟩, ← hls, List.length_map, lim, g_join1 hls1, fEq_i, q, decide_true, asI, cut, ad, out_dks, bs]
  · refine ⟨⟨ls, false⟩, a + 1 + 1 + 1 + 1, ⟨hne, by show ls.length ≤ 12; omega, hlt⟩, by omega, run_to (d := ⟨_, _, _, f__law_word⟩) rfl rfl ?_⟩
    have es : (Wd.mk ls false).s = ⟨ls.toArray⟩ := by unfold Wd.s Wd.cs; simp
    simp only [f__law_word, b__law_word, onok_ok, onok_ex, onokS_ok, onokS_ex, onnx_nx, onnx_rt, onnx_bk, onnx_ct, onnx_ex, wc_ok, we_v, we_c, we_g, we_bin, we_cmp, we_ix, we_neg, we_not, we_ite, we_andv, we_orv, we_and1, we_or1, we_and, we_or, we_tup, we_frz, we_alc, we_blt, we_call, we_meth, we_sl, we_isi, we_isi2, we_dsp, we_newd, wt_val, wt_cmp, wt_not, wt_andv, wt_orv, wt_and1, wt_or1, wt_and, wt_or, wa_nil, wa_cons, wn_disp, wn_lis, wn_comp, wi_rng, wi_enu, wi_one, wo_non, wo_some, ws_nop, ws_nil, ws_brk, ws_cnt, ws_retn, ws_exp, ws_ret, ws_raise, ws_ite, ws_set, ws_set, ws_setcF, ws_setcT, ws_par, ws_put, ws_seq, ws_for, ws_while, ws_try, List.getElem?_cons_zero, List.getElem?_cons_succ, Option.some.injEq, exists_eq_left', exists_eq_left, true_implies, forall_const, Bool.true_eq_false, Bool.false_eq_true, false_implies, and_true, true_and, setT, List.set_cons_zero, List.set_cons_succ, List.length_cons, List.length_nil, setAll, Option.bind_some, asB, Bool.not_true, Bool.not_false, o_add_i, o_add_s, o_add_t, o_add_l, o_sub_i, o_mul_i, o_fdv_i, o_mod_i, o_pow_i, o_neg_i, o_lt_i, o_le_i, o_gt_i, o_ge_i, o_is_n, o_isn_n, o_eq_d, o_ne_d, o_in_d, o_nin_d, bx_len, bx_int, bx_min, bx_max, bx_sum, bx_all, bx_any, bx_tuple, b_min_i, b_max_i, b_int_i, b_int_b, b_len_t, b_len_l, b_len_c, b_len_s, b_tup_t, b_tup_l, b_lis_t, b_lis_l, isa_tab, ty_non, ty_bl, ty_int, ty_str, ty_tup, ty_lst, ty_scr, ty_dic, tr_non, tr_bl, tr_int, tr_tup, tr_lst, tr_scr, nm_set, tp_set, ix_t, ix_l, ix_c, at_0, at_1, at_2, at_3, at_m, at_m1, range1, items_t, items_l, items_s, enu_t, enu_l, bel_int, bel_str, bel_bl, bel_non, out_bl, out_int, out_str, out_non, out_nx, mk_ends, mk_join, g_ends, fEq_i, fEq_b, rI_l, rI_d, rS_d, rL_l, r_pop, r_pop1, r_app, rr_q, rr_ix, rr_ixs, rr_len, rr_tup, rr_tru, rr_mkp, rr_mka, rr_pop, rr_app, rr_put, ok_put, out_rt, out_ex, Prod.mk.injEq, exists_eq, exists_and_left, exists_eq', bne_self_eq_false, Int.reduceBNe, Bool.true_and, and_assoc, Rs.ok.injEq, D.tup.injEq, D.bl.injEq, D.int.injEq, List.cons.injEq, enter_bs, D.bel, D.bels, List.cons_append, List.nil_append, startS, List.map_cons, List.map_nil, List.replicate_succ, List.replicate_zero, Nat.reduceSub, Nat.reduceAdd, Bool.or_false, Bool.false_or, Bool.or_true, Bool.true_or, Bool.and_true, Bool.and_false, Bool.true_and, Bool.false_and, if_true, if_false, reduceCtorEq, Bool.not_eq_true, decide_eq_true_eq, decide_eq_false_iff_not, and_self, onok, onokS, onnx, ite_true, ite_false, reduceIte, e1, e2, e3, e4, hm, rg, setAll, word_comp _ _ _ _ _ f s ⟨p3, p4⟩ ⟨p5, p6⟩, ← hls, List.length_map, lim, g_join1 hls1, fEq_i, q, decide_false, out_dks, bs, es]
end K00

set_option Elab.async false
set_option linter.all false
set_option maxRecDepth 100000
set_option maxHeartbeats 0
namespace K00
open PySem Hb L2
theorem pow10 {st : Sto} : Op2.pow.f (.int 36) (.int 10) st = some (.int 3656158440062976) := rfl
theorem ixs {ns : List Int} {i : Nat} (h : i < ns.length) {st : Sto} : fIxD (.scr (ns.map D.int)) (.int (0 + (i : Nat))) st = some (.int (ns[i])) := by
  show L2.atI (ns.map D.int) (0 + (i : Int)) = _
  rw [Int.zero_add, at_ok (by simpa using h), List.getElem?_map]
  simp [h]
theorem c_deck (n : Nat) (ns : List Int) (hn : ns.length ≤ 1000) (st : Sto) : ∃ fs : List Int, (∀ f ∈ fs, 0 ≤ f ∧ f < 36) ∧ md.call (n + 1) 17 [.scr (ns.map D.int)] st = some (.ok (.ref st.o.length), st.add (dk 0 fs)) := by
  -- an existential answer
  have key : wC (md.call (n + 1) 17 [.scr (ns.map D.int)] st) fun r s' => ∃ fs : List Int, (∀ f ∈ fs, 0 ≤ f ∧ f < 36) ∧ r = .ok (.ref st.o.length) ∧ s' = st.add (dk 0 fs) := by
    rw [call_S n 17 ⟨_, _, _, f__law_deck⟩ rfl]
    refine wc_run (F := f__law_deck) rfl ?_
    have mn : ∃ m : Nat, m ≤ 12 ∧ m ≤ ns.length ∧ fMin2 [.int (((ns.map D.int).length : Nat) : Int), .int 12] ⟨st.o.length :: st.bs, st.o ++ [SO.lst []]⟩ = some (.int (m : Nat)) := by
      refine ⟨min ns.length 12, by omega, by omega, ?_⟩
      rw [b_min_i, List.length_map]
      congr 2
      split <;> omega
    obtain ⟨m, hm1, hm2, hm⟩ := mn
    have lim : 200 < sizeLine := by decide
    simp only [f__law_deck, b__law_deck, onok_ok, onok_ex, onokS_ok, onokS_ex, onnx_nx, onnx_rt, onnx_bk, onnx_ct, onnx_ex, wc_ok, we_v, we_c, we_g, we_bin, we_cmp, we_ix, we_neg, we_not, we_ite, we_andv, we_orv, we_and1, we_or1, we_and, we_or, we_tup, we_frz, we_alc, we_blt, we_call, we_meth, we_sl, we_isi, we_isi2, we_dsp, we_newd, wt_val, wt_cmp, wt_not, wt_andv, wt_orv, wt_and1, wt_or1, wt_and, wt_or, wa_nil, wa_cons, wn_disp, wn_lis, wn_comp, wi_rng, wi_enu, wi_one, wo_non, wo_some, ws_nop, ws_nil, ws_brk, ws_cnt, ws_retn, ws_exp, ws_ret, ws_raise, ws_ite, ws_set, ws_set, ws_setcF, ws_setcT, ws_par, ws_put, ws_seq, ws_for, ws_while, ws_try, List.getElem?_cons_zero, List.getElem?_cons_succ, Option.some.injEq, exists_eq_left', exists_eq_left, true_implies, forall_const, Bool.true_eq_false, Bool.false_eq_true, false_implies, and_true, true_and, setT, List.set_cons_zero, List.set_cons_succ, List.length_cons, List.length_nil, setAll, Option.bind_some, asB, Bool.not_true, Bool.not_false, o_add_i, o_add_s, o_add_t, o_add_l, o_sub_i, o_mul_i, o_fdv_i, o_mod_i, o_neg_i, o_lt_i, o_le_i, o_gt_i, o_ge_i, o_is_n, o_isn_n, o_eq_d, o_ne_d, o_in_d, o_nin_d, bx_len, bx_int, bx_min, bx_max, bx_sum, bx_all, bx_any, bx_tuple, b_min_i, b_max_i, b_int_i, b_int_b, b_len_t, b_len_l, b_len_c, b_len_s, b_tup_t, b_tup_l, b_lis_t, b_lis_l, isa_tab, ty_non, ty_bl, ty_int, ty_str, ty_tup, ty_lst, ty_scr, ty_dic, tr_non, tr_bl, tr_int, tr_tup, tr_lst, tr_scr, nm_set, tp_set, ix_t, ix_l, ix_c, at_0, at_1, at_2, at_3, at_m, at_m1, range1, items_t, items_l, items_s, enu_t, enu_l, bel_int, bel_str, bel_bl, bel_non, out_bl, out_int, out_str, out_non, out_nx, mk_ends, mk_join, g_ends, fEq_i, fEq_b, rI_l, rI_d, rS_d, rL_l, r_pop, r_pop1, r_app, rr_q, rr_ix, rr_ixs, rr_len, rr_tup, rr_tru, rr_mkp, rr_mka, rr_pop, rr_app, rr_put, ok_put, out_rt, out_ex, Prod.mk.injEq, exists_eq, exists_and_left, exists_eq', bne_self_eq_false, Int.reduceBNe, Bool.true_and, and_assoc, Rs.ok.injEq, D.tup.injEq, D.bl.injEq, D.int.injEq, List.cons.injEq, enter_bs, D.bel, D.bels, List.cons_append, List.nil_append, startS, List.map_cons, List.map_nil, List.replicate_succ, List.replicate_zero, Nat.reduceSub, Nat.reduceAdd, Bool.or_false, Bool.false_or, Bool.or_true, Bool.true_or, Bool.and_true, Bool.and_false, Bool.true_and, Bool.false_and, if_true, if_false, reduceCtorEq, Bool.not_eq_true, decide_eq_true_eq, decide_eq_false_iff_not, and_self, onok, onokS, onnx, ite_true, ite_false, reduceIte, gg1, gg2, gg3, ss1, ss2, ss3, Option.map_some, Sto.put, Sto.add, Sto.enter, List.append_assoc, List.cons_append, List.nil_append, List.length_append, Nat.add_assoc, Nat.reduceAdd, hm]
    refine ⟨_, if_pos (by omega), ?_⟩
    refine for_inv (fun xs sl s1 => ∃ fs o2 o3 o4, (∀ f ∈ fs, 0 ≤ f ∧ f < 36) ∧ fs.length + 10 * xs.length ≤ 120 ∧ (∀ x ∈ xs, ∃ i : Nat, i < ns.length ∧ x = .int (0 + (i : Nat))) ∧ sl = [some (.scr (ns.map D.int)), some (.ref st.o.length), o2, o3, o4] ∧ s1 = ⟨st.o.length :: st.bs, st.o ++ [SO.lst (fs.map D.int)]⟩) (fun _ _ _ _ => rfl) ?_ ?_ ⟨[], none, none, none, (by simp), ?_, ?_, rfl, rfl⟩
    · rintro x r sl s1 ⟨fs, o2, o3, o4, hf, hl, hx, rfl, rfl⟩
      obtain ⟨i, hi, rfl⟩ := hx x List.mem_cons_self
      refine ⟨_, rfl, ?_⟩
      simp only [onok_ok, onok_ex, onokS_ok, onokS_ex, onnx_nx, onnx_rt, onnx_bk, onnx_ct, onnx_ex, wc_ok, we_v, we_c, we_g, we_bin, we_cmp, we_ix, we_neg, we_not, we_ite, we_andv, we_orv, we_and1, we_or1, we_and, we_or, we_tup, we_frz, we_alc, we_blt, we_call, we_meth, we_sl, we_isi, we_isi2, we_dsp, we_newd, wt_val, wt_cmp, wt_not, wt_andv, wt_orv, wt_and1, wt_or1, wt_and, wt_or, wa_nil, wa_cons, wn_disp, wn_lis, wn_comp, wi_rng, wi_enu, wi_one, wo_non, wo_some, ws_nop, ws_nil, ws_brk, ws_cnt, ws_retn, ws_exp, ws_ret, ws_raise, ws_ite, ws_set, ws_set, ws_setcF, ws_setcT, ws_par, ws_put, ws_seq, ws_for, ws_while, ws_try, List.getElem?_cons_zero, List.getElem?_cons_succ, Option.some.injEq, exists_eq_left', exists_eq_left, true_implies, forall_const, Bool.true_eq_false, Bool.false_eq_true, false_implies, and_true, true_and, setT, List.set_cons_zero, List.set_cons_succ, List.length_cons, List.length_nil, setAll, Option.bind_some, asB, Bool.not_true, Bool.not_false, o_add_i, o_add_s, o_add_t, o_add_l, o_sub_i, o_mul_i, o_fdv_i, o_mod_i, o_neg_i, o_lt_i, o_le_i, o_gt_i, o_ge_i, o_is_n, o_isn_n, o_eq_d, o_ne_d, o_in_d, o_nin_d, bx_len, bx_int, bx_min, bx_max, bx_sum, bx_all, bx_any, bx_tuple, b_min_i, b_max_i, b_int_i, b_int_b, b_len_t, b_len_l, b_len_c, b_len_s, b_tup_t, b_tup_l, b_lis_t, b_lis_l, isa_tab, ty_non, ty_bl, ty_int, ty_str, ty_tup, ty_lst, ty_scr, ty_dic, tr_non, tr_bl, tr_int, tr_tup, tr_lst, tr_scr, nm_set, tp_set, ix_t, ix_l, ix_c, at_0, at_1, at_2, at_3, at_m, at_m1, range1, items_t, items_l, items_s, enu_t, enu_l, bel_int, bel_str, bel_bl, bel_non, out_bl, out_int, out_str, out_non, out_nx, mk_ends, mk_join, g_ends, fEq_i, fEq_b, rI_l, rI_d, rS_d, rL_l, r_pop, r_pop1, r_app, rr_q, rr_ix, rr_ixs, rr_len, rr_tup, rr_tru, rr_mkp, rr_mka, rr_pop, rr_app, rr_put, ok_put, out_rt, out_ex, Prod.mk.injEq, exists_eq, exists_and_left, exists_eq', bne_self_eq_false, Int.reduceBNe, Bool.true_and, and_assoc, Rs.ok.injEq, D.tup.injEq, D.bl.injEq, D.int.injEq, List.cons.injEq, enter_bs, D.bel, D.bels, List.cons_append, List.nil_append, startS, List.map_cons, List.map_nil, List.replicate_succ, List.replicate_zero, Nat.reduceSub, Nat.reduceAdd, Bool.or_false, Bool.false_or, Bool.or_true, Bool.true_or, Bool.and_true, Bool.and_false, Bool.true_and, Bool.false_and, if_true, if_false, reduceCtorEq, Bool.not_eq_true, decide_eq_true_eq, decide_eq_false_iff_not, and_self, onok, onokS, onnx, ite_true, ite_false, reduceIte, gg1, gg2, gg3, ss1, ss2, ss3, Option.map_some, Sto.put, Sto.add, Sto.enter, List.append_assoc, List.cons_append, List.nil_append, List.length_append, Nat.add_assoc, Nat.reduceAdd, ixs hi, pow10, Int.reduceLT, decide_true, range1, Int.reducePow, Int.reduceNeg, Int.reduceLE]
      have r0 := Int.emod_nonneg ns[i] (show (3656158440062976 : Int) ≠ 0 by omega)
      rw [List.length_cons] at hl
      refine for_inv (fun ys sl s1 => ∃ gs o4 rest, (∀ f ∈ gs, 0 ≤ f ∧ f < 36) ∧ gs.length + ys.length ≤ fs.length + 10 ∧ 0 ≤ rest ∧ sl = [some (.scr (ns.map D.int)), some (.ref st.o.length), some (.int (0 + (i : Nat))), some (.int rest), o4] ∧ s1 = ⟨st.o.length :: st.bs, st.o ++ [SO.lst (gs.map D.int)]⟩) (fun _ _ _ _ => rfl) ?_ ?_ ⟨fs, o4, _, hf, ?_, r0, rfl, rfl⟩
      · rintro y ys sl s1 ⟨gs, o4, rest, hg, hgl, hr, rfl, rfl⟩
        rw [List.length_cons] at hgl
        refine ⟨_, rfl, ?_⟩
        have b1 := Int.emod_nonneg rest (show (36 : Int) ≠ 0 by omega)
        have b2 := Int.emod_lt_of_pos rest (show (0 : Int) < 36 by omega)
        have b3 : 0 ≤ rest / 36 := Int.ediv_nonneg hr (by omega)
        have hks : (gs.map D.int).length < sizeLine := by rw [List.length_map]; omega
        have nx : (∀ f ∈ gs ++ [rest % 36], 0 ≤ f ∧ f < 36) := fun f hf => by
          rcases List.mem_append.mp hf with z | z
          · exact hg f z
          · rw [List.mem_singleton.mp z]; exact ⟨b1, b2⟩
        have mp : gs.map D.int ++ [.int (rest % 36)] = (gs ++ [rest % 36]).map D.int := by simp
        have lim2 : (gs ++ [rest % 36]).length + ys.length ≤ fs.length + 10 := by simp; omega
        have dle : decide (st.o.length ≤ st.o.length) = true := by simp
        simp only [onok_ok, onok_ex, onokS_ok, onokS_ex, onnx_nx, onnx_rt, onnx_bk, onnx_ct, onnx_ex, wc_ok, we_v, we_c, we_g, we_bin, we_cmp, we_ix, we_neg, we_not, we_ite, we_andv, we_orv, we_and1, we_or1, we_and, we_or, we_tup, we_frz, we_alc, we_blt, we_call, we_meth, we_sl, we_isi, we_isi2, we_dsp, we_newd, wt_val, wt_cmp, wt_not, wt_andv, wt_orv, wt_and1, wt_or1, wt_and, wt_or, wa_nil, wa_cons, wn_disp, wn_lis, wn_comp, wi_rng, wi_enu, wi_one, wo_non, wo_some, ws_nop, ws_nil, ws_brk, ws_cnt, ws_retn, ws_exp, ws_ret, ws_raise, ws_ite, ws_set, ws_set, ws_setcF, ws_setcT, ws_par, ws_put, ws_seq, ws_for, ws_while, ws_try, List.getElem?_cons_zero, List.getElem?_cons_succ, Option.some.injEq, exists_eq_left', exists_eq_left, true_implies, forall_const, Bool.true_eq_false, Bool.false_eq_true, false_implies, and_true, true_and, setT, List.set_cons_zero, List.set_cons_succ, List.length_cons, List.length_nil, setAll, Option.bind_some, asB, Bool.not_true, Bool.not_false, o_add_i, o_add_s, o_add_t, o_add_l, o_sub_i, o_mul_i, o_fdv_i, o_mod_i, o_neg_i, o_lt_i, o_le_i, o_gt_i, o_ge_i, o_is_n, o_isn_n, o_eq_d, o_ne_d, o_in_d, o_nin_d, bx_len, bx_int, bx_min, bx_max, bx_sum, bx_all, bx_any, bx_tuple, b_min_i, b_max_i, b_int_i, b_int_b, b_len_t, b_len_l, b_len_c, b_len_s, b_tup_t, b_tup_l, b_lis_t, b_lis_l, isa_tab, ty_non, ty_bl, ty_int, ty_str, ty_tup, ty_lst, ty_scr, ty_dic, tr_non, tr_bl, tr_int, tr_tup, tr_lst, tr_scr, nm_set, tp_set, ix_t, ix_l, ix_c, at_0, at_1, at_2, at_3, at_m, at_m1, range1, items_t, items_l, items_s, enu_t, enu_l, bel_int, bel_str, bel_bl, bel_non, out_bl, out_int, out_str, out_non, out_nx, mk_ends, mk_join, g_ends, fEq_i, fEq_b, rI_l, rI_d, rS_d, rL_l, r_pop, r_pop1, r_app, rr_q, rr_ix, rr_ixs, rr_len, rr_tup, rr_tru, rr_mkp, rr_mka, rr_pop, rr_app, rr_put, ok_put, out_rt, out_ex, Prod.mk.injEq, exists_eq, exists_and_left, exists_eq', bne_self_eq_false, Int.reduceBNe, Bool.true_and, and_assoc, Rs.ok.injEq, D.tup.injEq, D.bl.injEq, D.int.injEq, List.cons.injEq, enter_bs, D.bel, D.bels, List.cons_append, List.nil_append, startS, List.map_cons, List.map_nil, List.replicate_succ, List.replicate_zero, Nat.reduceSub, Nat.reduceAdd, Bool.or_false, Bool.false_or, Bool.or_true, Bool.true_or, Bool.and_true, Bool.and_false, Bool.true_and, Bool.false_and, if_true, if_false, reduceCtorEq, Bool.not_eq_true, decide_eq_true_eq, decide_eq_false_iff_not, and_self, onok, onokS, onnx, ite_true, ite_false, reduceIte, gg1, gg2, gg3, ss1, ss2, ss3, Option.map_some, Sto.put, Sto.add, Sto.enter, List.append_assoc, List.cons_append, List.nil_append, List.length_append, Nat.add_assoc, Nat.reduceAdd, hks, Int.reduceLT, decide_true, fEq_i, mp, dle]
        have hrx : ∀ x ∈ r, ∃ i : Nat, i < ns.length ∧ x = .int (0 + (i : Nat)) := fun x h => hx x (List.mem_cons_of_mem _ h)
        have l3 : (gs ++ [rest % 36]).length = gs.length + 1 := by simp
        exact ⟨fun z => ⟨gs ++ [rest % 36], nx, by omega, hrx, rfl⟩, fun z => ⟨gs ++ [rest % 36], nx, by omega, _, _, b3, rfl, rfl, rfl⟩⟩
      · rintro sl s1 ⟨gs, o4, rest, hg, hgl, hr, rfl, rfl⟩
        have e0 : ([] : List D).length = 0 := rfl
        rw [e0] at hgl
        exact ⟨gs, hg, by omega, fun x h => hx x (List.mem_cons_of_mem _ h), _, _, _, rfl, rfl⟩
      · rw [List.length_map, List.length_range]
        exact Nat.le_refl _
    · rintro sl s1 ⟨fs, o2, o3, o4, hf, hl, hx, rfl, rfl⟩
      refine ⟨_, rfl, rfl, .ok (.ref st.o.length), st.add (dk 0 fs), ?_, fs, hf, rfl, rfl⟩
      have l1 : (st.o ++ [SO.lst (fs.map D.int)]).length = st.o.length + 1 := by simp
      show outF true st ⟨st.o.length :: st.bs, (st.o ++ [SO.lst (fs.map D.int)]) ++ [SO.lst [D.int 0, D.ref st.o.length]]⟩ (.rt (.ref (st.o ++ [SO.lst (fs.map D.int)]).length)) = _
      rw [l1, List.append_assoc]
      show (if st.o.length ≤ st.o.length + 1 then (match (st.o ++ SO.lst (fs.map D.int) :: SO.lst [D.int 0, D.ref st.o.length] :: [])[st.o.length + 1]? with
        | some (.lst xs) => (fzD.go (fzA (st.o.length + 1) st.o.length ⟨st.o.length :: st.bs, st.o ++ SO.lst (fs.map D.int) :: SO.lst [D.int 0, D.ref st.o.length] :: []⟩ 12) xs).map fun ys => ((Rs.ok (D.ref st.o.length), (st.leave ⟨st.o.length :: st.bs, st.o ++ SO.lst (fs.map D.int) :: SO.lst [D.int 0, D.ref st.o.length] :: []⟩).add (.lst ys)) : Rs D × Sto)
        | _ => none) else none) = _
      rw [if_pos (by omega), gg2]
      have fi : ∀ j, fzD.go j (fs.map D.int) = some (fs.map D.int) := fun j => by
        clear hl hf l1
        induction fs with
        | nil => rfl
        | cons f fs ih =>
          show (match some (D.int f), fzD.go j (fs.map D.int) with
            | some y, some s => some (y :: s)
            | _, _ => none) = _
          rw [ih]
          rfl
      have fr : fzA (st.o.length + 1) st.o.length ⟨st.o.length :: st.bs, st.o ++ SO.lst (fs.map D.int) :: SO.lst [D.int 0, D.ref st.o.length] :: []⟩ 12 st.o.length = some (.lst (fs.map D.int)) := by
        unfold fzA
        rw [if_neg (by omega), if_neg (by omega)]
        dsimp only
        rw [gg1]
        dsimp only
        rw [fi]
        rfl
      have fg : fzD.go (fzA (st.o.length + 1) st.o.length ⟨st.o.length :: st.bs, st.o ++ SO.lst (fs.map D.int) :: SO.lst [D.int 0, D.ref st.o.length] :: []⟩ 12) [D.int 0, D.ref st.o.length] = some [D.int 0, .lst (fs.map D.int)] := by
        show (match some (D.int 0), (match fzA (st.o.length + 1) st.o.length ⟨st.o.length :: st.bs, st.o ++ SO.lst (fs.map D.int) :: SO.lst [D.int 0, D.ref st.o.length] :: []⟩ 12 st.o.length, some [] with
            | some y, some s => some (y :: s)
            | _, _ => none) with
          | some y, some s => some (y :: s)
          | _, _ => none) = _
        rw [fr]
      dsimp only
      rw [fg]
      have lv : st.leave ⟨st.o.length :: st.bs, st.o ++ SO.lst (fs.map D.int) :: SO.lst [D.int 0, D.ref st.o.length] :: []⟩ = st := by
        unfold Sto.leave
        simp
      show some (Rs.ok (D.ref st.o.length), (st.leave _).add _) = _
      rw [lv]
      rfl
    · show 0 + 10 * (List.map _ (List.range _)).length ≤ 120
      rw [List.length_map, List.length_range]
      have : ((m : Int)).toNat = m := Int.toNat_natCast m
      omega
    · intro x hx
      obtain ⟨i, hi, rfl⟩ := List.mem_map.mp hx
      rw [List.mem_range] at hi
      have : ((m : Int)).toNat = m := Int.toNat_natCast m
      have lm : (ns.map D.int).length = ns.length := by simp
      exact ⟨i, by omega, rfl⟩
  obtain ⟨r, s', e, fs, hf, rfl, rfl⟩ := key
  exact ⟨fs, hf, e⟩
end K00

set_option Elab.async false
set_option linter.all false
set_option maxRecDepth 100000
set_option maxHeartbeats 0
namespace K00
open PySem Hb L2
theorem hand (X : SO) : md.call 29 29 [] ⟨[0], [X]⟩ = some (.ok (.bl true), ⟨[0], [X]⟩) := by kernel_rfl
def tl : D → D
  | .lst xs => .tup xs
  | d => d
theorem isInt_b (n : Nat) (b : Bool) (st : Sto) : md.call (n + 1) 0 [.bl b] st = some (.ok (.bl false), st) := c_is_int' n _ (fun _ => ⟨.bl, rfl, by decide⟩) st
theorem isInt_n (n : Nat) (st : Sto) : md.call (n + 1) 0 [.non] st = some (.ok (.bl false), st) := c_is_int' n _ (fun _ => ⟨.non, rfl, by decide⟩) st
theorem isInt_s (n : Nat) (x : Str) (st : Sto) : md.call (n + 1) 0 [.str x] st = some (.ok (.bl false), st) := c_is_int' n _ (fun _ => ⟨.str, rfl, by decide⟩) st
theorem isInt_l (n : Nat) (x : List D) (st : Sto) : md.call (n + 1) 0 [.lst x] st = some (.ok (.bl false), st) := c_is_int' n _ (fun _ => ⟨.lst, rfl, by decide⟩) st
theorem ll_b (n : Nat) (x : Bool) (st : Sto) : md.call (n + 1) 2 [.bl x] st = some (.ok (.bl false), st) := c_ll_atom n _ rfl st
theorem ll_n (n : Nat) (st : Sto) : md.call (n + 1) 2 [.non] st = some (.ok (.bl false), st) := c_ll_atom n _ rfl st
theorem eq_lE {st : Sto} : fEq (.str ⟨#[108, 105, 110, 101]⟩) (.str ⟨#[101, 110, 100, 108, 101, 115, 115]⟩) st = some (.bl false) := fEq_s' lay_l lay_e (by decide)
theorem eq_EE {st : Sto} : fEq (.str ⟨#[69, 110, 100, 108, 101, 115, 115]⟩) (.str ⟨#[101, 110, 100, 108, 101, 115, 115]⟩) st = some (.bl false) := fEq_s' (by decide +kernel) lay_e (by decide)
/-- a value that is no hold -/
structure BH (b : D) : Prop where
  hold : ∀ n st, md.call (n + 2) 3 [b] st = some (.ok (.bl false), st)
  plain : ∀ n st, md.call (n + 2) 4 [b] st = some (.ok (tl b), st)
  bel : (tl b).bel 0 = true
  ek : eqOk 3 (tl b) = true
def badH : List D := [.int 0, .bl true, .str ⟨#[108, 105, 110, 101]⟩, .tup [.str ⟨#[108, 105, 110, 101]⟩, .int 0], .lst [.str ⟨#[108, 105, 110, 101]⟩, .bl true], .tup [.str ⟨#[108, 105, 110, 101]⟩, .int 3, .int 4], .non, .str ⟨#[69, 110, 100, 108, 101, 115, 115]⟩, .int (-2)]
theorem atoms {xs : List D} (h : xs.all atomB = true) : ∀ x ∈ xs, atomB x = true := fun x hx => List.all_eq_true.mp h x hx
theorem badH_ok : ∀ b ∈ badH, BH b := by
  intro b hb
  simp only [badH, List.mem_cons, List.not_mem_nil, or_false] at hb
  rcases hb with rfl | rfl | rfl | rfl | rfl | rfl | rfl | rfl | rfl
  · exact ⟨fun n st => run_to (d := ⟨_, _, _, f_is_hold⟩) rfl rfl (by simp only [f_is_hold, b_is_hold, onok_ok, onok_ex, onokS_ok, onokS_ex, onnx_nx, onnx_rt, onnx_bk, onnx_ct, onnx_ex, wc_ok, we_v, we_c, we_g, we_bin, we_cmp, we_ix, we_neg, we_not, we_ite, we_andv, we_orv, we_and1, we_or1, we_and, we_or, we_tup, we_frz, we_alc, we_blt, we_call, we_meth, we_sl, we_isi, we_isi2, we_dsp, we_newd, wt_val, wt_cmp, wt_not, wt_andv, wt_orv, wt_and1, wt_or1, wt_and, wt_or, wa_nil, wa_cons, wn_disp, wn_lis, wn_comp, wi_rng, wi_enu, wi_one, wo_non, wo_some, ws_nop, ws_nil, ws_brk, ws_cnt, ws_retn, ws_exp, ws_ret, ws_raise, ws_ite, ws_set, ws_set, ws_setcF, ws_setcT, ws_par, ws_put, ws_seq, ws_for, ws_while, ws_try, List.getElem?_cons_zero, List.getElem?_cons_succ, Option.some.injEq, exists_eq_left', exists_eq_left, true_implies, forall_const, Bool.true_eq_false, Bool.false_eq_true, false_implies, and_true, true_and, setT, List.set_cons_zero, List.set_cons_succ, List.length_cons, List.length_nil, setAll, Option.bind_some, asB, Bool.not_true, Bool.not_false, o_add_i, o_add_s, o_add_t, o_add_l, o_sub_i, o_mul_i, o_fdv_i, o_mod_i, o_neg_i, o_lt_i, o_le_i, o_gt_i, o_ge_i, o_is_n, o_isn_n, o_eq_d, o_ne_d, o_in_d, o_nin_d, bx_len, bx_int, bx_min, bx_max, bx_sum, bx_all, bx_any, bx_tuple, b_min_i, b_max_i, b_int_i, b_int_b, b_len_t, b_len_l, b_len_c, b_len_s, b_tup_t, b_tup_l, b_lis_t, b_lis_l, isa_tab, ty_non, ty_bl, ty_int, ty_str, ty_tup, ty_lst, ty_scr, ty_dic, tr_non, tr_bl, tr_int, tr_tup, tr_lst, tr_scr, nm_set, tp_set, ix_t, ix_l, ix_c, at_0, at_1, at_2, at_3, at_m, at_m1, range1, items_t, items_l, items_s, enu_t, enu_l, bel_int, bel_str, bel_bl, bel_non, out_bl, out_int, out_str, out_non, out_nx, mk_ends, mk_join, g_ends, fEq_i, fEq_b, rI_l, rI_d, rS_d, rL_l, r_pop, r_pop1, r_app, rr_q, rr_ix, rr_ixs, rr_len, rr_tup, rr_tru, rr_mkp, rr_mka, rr_pop, rr_app, rr_put, ok_put, out_rt, out_ex, Prod.mk.injEq, exists_eq, exists_and_left, exists_eq', bne_self_eq_false, Int.reduceBNe, Bool.true_and, and_assoc, Rs.ok.injEq, D.tup.injEq, D.bl.injEq, D.int.injEq, List.cons.injEq, enter_bs, D.bel, D.bels, List.cons_append, List.nil_append, startS, List.map_cons, List.map_nil, List.replicate_succ, List.replicate_zero, Nat.reduceSub, Nat.reduceAdd, Bool.or_false, Bool.false_or, Bool.or_true, Bool.true_or, Bool.and_true, Bool.and_false, Bool.true_and, Bool.false_and, if_true, if_false, reduceCtorEq, Bool.not_eq_true, decide_eq_true_eq, decide_eq_false_iff_not, and_self, onok, onokS, onnx, ite_true, ite_false, reduceIte, c_ll_int, isInt, Int.reduceLE, decide_false]), fun n st => c_plain_atom n _ rfl st, rfl, rfl⟩
  · exact ⟨fun n st => run_to (d := ⟨_, _, _, f_is_hold⟩) rfl rfl (by simp only [f_is_hold, b_is_hold, onok_ok, onok_ex, onokS_ok, onokS_ex, onnx_nx, onnx_rt, onnx_bk, onnx_ct, onnx_ex, wc_ok, we_v, we_c, we_g, we_bin, we_cmp, we_ix, we_neg, we_not, we_ite, we_andv, we_orv, we_and1, we_or1, we_and, we_or, we_tup, we_frz, we_alc, we_blt, we_call, we_meth, we_sl, we_isi, we_isi2, we_dsp, we_newd, wt_val, wt_cmp, wt_not, wt_andv, wt_orv, wt_and1, wt_or1, wt_and, wt_or, wa_nil, wa_cons, wn_disp, wn_lis, wn_comp, wi_rng, wi_enu, wi_one, wo_non, wo_some, ws_nop, ws_nil, ws_brk, ws_cnt, ws_retn, ws_exp, ws_ret, ws_raise, ws_ite, ws_set, ws_set, ws_setcF, ws_setcT, ws_par, ws_put, ws_seq, ws_for, ws_while, ws_try, List.getElem?_cons_zero, List.getElem?_cons_succ, Option.some.injEq, exists_eq_left', exists_eq_left, true_implies, forall_const, Bool.true_eq_false, Bool.false_eq_true, false_implies, and_true, true_and, setT, List.set_cons_zero, List.set_cons_succ, List.length_cons, List.length_nil, setAll, Option.bind_some, asB, Bool.not_true, Bool.not_false, o_add_i, o_add_s, o_add_t, o_add_l, o_sub_i, o_mul_i, o_fdv_i, o_mod_i, o_neg_i, o_lt_i, o_le_i, o_gt_i, o_ge_i, o_is_n, o_isn_n, o_eq_d, o_ne_d, o_in_d, o_nin_d, bx_len, bx_int, bx_min, bx_max, bx_sum, bx_all, bx_any, bx_tuple, b_min_i, b_max_i, b_int_i, b_int_b, b_len_t, b_len_l, b_len_c, b_len_s, b_tup_t, b_tup_l, b_lis_t, b_lis_l, isa_tab, ty_non, ty_bl, ty_int, ty_str, ty_tup, ty_lst, ty_scr, ty_dic, tr_non, tr_bl, tr_int, tr_tup, tr_lst, tr_scr, nm_set, tp_set, ix_t, ix_l, ix_c, at_0, at_1, at_2, at_3, at_m, at_m1, range1, items_t, items_l, items_s, enu_t, enu_l, bel_int, bel_str, bel_bl, bel_non, out_bl, out_int, out_str, out_non, out_nx, mk_ends, mk_join, g_ends, fEq_i, fEq_b, rI_l, rI_d, rS_d, rL_l, r_pop, r_pop1, r_app, rr_q, rr_ix, rr_ixs, rr_len, rr_tup, rr_tru, rr_mkp, rr_mka, rr_pop, rr_app, rr_put, ok_put, out_rt, out_ex, Prod.mk.injEq, exists_eq, exists_and_left, exists_eq', bne_self_eq_false, Int.reduceBNe, Bool.true_and, and_assoc, Rs.ok.injEq, D.tup.injEq, D.bl.injEq, D.int.injEq, List.cons.injEq, enter_bs, D.bel, D.bels, List.cons_append, List.nil_append, startS, List.map_cons, List.map_nil, List.replicate_succ, List.replicate_zero, Nat.reduceSub, Nat.reduceAdd, Bool.or_false, Bool.false_or, Bool.or_true, Bool.true_or, Bool.and_true, Bool.and_false, Bool.true_and, Bool.false_and, if_true, if_false, reduceCtorEq, Bool.not_eq_true, decide_eq_true_eq, decide_eq_false_iff_not, and_self, onok, onokS, onnx, ite_true, ite_false, reduceIte, ll_b, isInt_b]), fun n st => c_plain_atom n _ rfl st, rfl, rfl⟩
  · exact ⟨fun n st => run_to (d := ⟨_, _, _, f_is_hold⟩) rfl rfl (by simp only [f_is_hold, b_is_hold, onok_ok, onok_ex, onokS_ok, onokS_ex, onnx_nx, onnx_rt, onnx_bk, onnx_ct, onnx_ex, wc_ok, we_v, we_c, we_g, we_bin, we_cmp, we_ix, we_neg, we_not, we_ite, we_andv, we_orv, we_and1, we_or1, we_and, we_or, we_tup, we_frz, we_alc, we_blt, we_call, we_meth, we_sl, we_isi, we_isi2, we_dsp, we_newd, wt_val, wt_cmp, wt_not, wt_andv, wt_orv, wt_and1, wt_or1, wt_and, wt_or, wa_nil, wa_cons, wn_disp, wn_lis, wn_comp, wi_rng, wi_enu, wi_one, wo_non, wo_some, ws_nop, ws_nil, ws_brk, ws_cnt, ws_retn, ws_exp, ws_ret, ws_raise, ws_ite, ws_set, ws_set, ws_setcF, ws_setcT, ws_par, ws_put, ws_seq, ws_for, ws_while, ws_try, List.getElem?_cons_zero, List.getElem?_cons_succ, Option.some.injEq, exists_eq_left', exists_eq_left, true_implies, forall_const, Bool.true_eq_false, Bool.false_eq_true, false_implies, and_true, true_and, setT, List.set_cons_zero, List.set_cons_succ, List.length_cons, List.length_nil, setAll, Option.bind_some, asB, Bool.not_true, Bool.not_false, o_add_i, o_add_s, o_add_t, o_add_l, o_sub_i, o_mul_i, o_fdv_i, o_mod_i, o_neg_i, o_lt_i, o_le_i, o_gt_i, o_ge_i, o_is_n, o_isn_n, o_eq_d, o_ne_d, o_in_d, o_nin_d, bx_len, bx_int, bx_min, bx_max, bx_sum, bx_all, bx_any, bx_tuple, b_min_i, b_max_i, b_int_i, b_int_b, b_len_t, b_len_l, b_len_c, b_len_s, b_tup_t, b_tup_l, b_lis_t, b_lis_l, isa_tab, ty_non, ty_bl, ty_int, ty_str, ty_tup, ty_lst, ty_scr, ty_dic, tr_non, tr_bl, tr_int, tr_tup, tr_lst, tr_scr, nm_set, tp_set, ix_t, ix_l, ix_c, at_0, at_1, at_2, at_3, at_m, at_m1, range1, items_t, items_l, items_s, enu_t, enu_l, bel_int, bel_str, bel_bl, bel_non, out_bl, out_int, out_str, out_non, out_nx, mk_ends, mk_join, g_ends, fEq_i, fEq_b, rI_l, rI_d, rS_d, rL_l, r_pop, r_pop1, r_app, rr_q, rr_ix, rr_ixs, rr_len, rr_tup, rr_tru, rr_mkp, rr_mka, rr_pop, rr_app, rr_put, ok_put, out_rt, out_ex, Prod.mk.injEq, exists_eq, exists_and_left, exists_eq', bne_self_eq_false, Int.reduceBNe, Bool.true_and, and_assoc, Rs.ok.injEq, D.tup.injEq, D.bl.injEq, D.int.injEq, List.cons.injEq, enter_bs, D.bel, D.bels, List.cons_append, List.nil_append, startS, List.map_cons, List.map_nil, List.replicate_succ, List.replicate_zero, Nat.reduceSub, Nat.reduceAdd, Bool.or_false, Bool.false_or, Bool.or_true, Bool.true_or, Bool.and_true, Bool.and_false, Bool.true_and, Bool.false_and, if_true, if_false, reduceCtorEq, Bool.not_eq_true, decide_eq_true_eq, decide_eq_false_iff_not, and_self, onok, onokS, onnx, ite_true, ite_false, reduceIte, eq_lE]), fun n st => c_plain_atom n _ rfl st, rfl, by decide +kernel⟩
  · exact ⟨fun n st => run_to (d := ⟨_, _, _, f_is_hold⟩) rfl rfl (by simp only [f_is_hold, b_is_hold, onok_ok, onok_ex, onokS_ok, onokS_ex, onnx_nx, onnx_rt, onnx_bk, onnx_ct, onnx_ex, wc_ok, we_v, we_c, we_g, we_bin, we_cmp, we_ix, we_neg, we_not, we_ite, we_andv, we_orv, we_and1, we_or1, we_and, we_or, we_tup, we_frz, we_alc, we_blt, we_call, we_meth, we_sl, we_isi, we_isi2, we_dsp, we_newd, wt_val, wt_cmp, wt_not, wt_andv, wt_orv, wt_and1, wt_or1, wt_and, wt_or, wa_nil, wa_cons, wn_disp, wn_lis, wn_comp, wi_rng, wi_enu, wi_one, wo_non, wo_some, ws_nop, ws_nil, ws_brk, ws_cnt, ws_retn, ws_exp, ws_ret, ws_raise, ws_ite, ws_set, ws_set, ws_setcF, ws_setcT, ws_par, ws_put, ws_seq, ws_for, ws_while, ws_try, List.getElem?_cons_zero, List.getElem?_cons_succ, Option.some.injEq, exists_eq_left', exists_eq_left, true_implies, forall_const, Bool.true_eq_false, Bool.false_eq_true, false_implies, and_true, true_and, setT, List.set_cons_zero, List.set_cons_succ, List.length_cons, List.length_nil, setAll, Option.bind_some, asB, Bool.not_true, Bool.not_false, o_add_i, o_add_s, o_add_t, o_add_l, o_sub_i, o_mul_i, o_fdv_i, o_mod_i, o_neg_i, o_lt_i, o_le_i, o_gt_i, o_ge_i, o_is_n, o_isn_n, o_eq_d, o_ne_d, o_in_d, o_nin_d, bx_len, bx_int, bx_min, bx_max, bx_sum, bx_all, bx_any, bx_tuple, b_min_i, b_max_i, b_int_i, b_int_b, b_len_t, b_len_l, b_len_c, b_len_s, b_tup_t, b_tup_l, b_lis_t, b_lis_l, isa_tab, ty_non, ty_bl, ty_int, ty_str, ty_tup, ty_lst, ty_scr, ty_dic, tr_non, tr_bl, tr_int, tr_tup, tr_lst, tr_scr, nm_set, tp_set, ix_t, ix_l, ix_c, at_0, at_1, at_2, at_3, at_m, at_m1, range1, items_t, items_l, items_s, enu_t, enu_l, bel_int, bel_str, bel_bl, bel_non, out_bl, out_int, out_str, out_non, out_nx, mk_ends, mk_join, g_ends, fEq_i, fEq_b, rI_l, rI_d, rS_d, rL_l, r_pop, r_pop1, r_app, rr_q, rr_ix, rr_ixs, rr_len, rr_tup, rr_tru, rr_mkp, rr_mka, rr_pop, rr_app, rr_put, ok_put, out_rt, out_ex, Prod.mk.injEq, exists_eq, exists_and_left, exists_eq', bne_self_eq_false, Int.reduceBNe, Bool.true_and, and_assoc, Rs.ok.injEq, D.tup.injEq, D.bl.injEq, D.int.injEq, List.cons.injEq, enter_bs, D.bel, D.bels, List.cons_append, List.nil_append, startS, List.map_cons, List.map_nil, List.replicate_succ, List.replicate_zero, Nat.reduceSub, Nat.reduceAdd, Bool.or_false, Bool.false_or, Bool.or_true, Bool.true_or, Bool.and_true, Bool.and_false, Bool.true_and, Bool.false_and, if_true, if_false, reduceCtorEq, Bool.not_eq_true, decide_eq_true_eq, decide_eq_false_iff_not, and_self, onok, onokS, onnx, ite_true, ite_false, reduceIte, c_ll_tup, isInt, eq_ll, fEq_i, Int.reduceAdd, Int.cast_ofNat_Int, decide_true, Int.reduceLE, decide_false]), fun n st => c_plain_t n _ (atoms rfl) (by decide) st, rfl, by decide +kernel⟩
  · exact ⟨fun n st => run_to (d := ⟨_, _, _, f_is_hold⟩) rfl rfl (by simp only [f_is_hold, b_is_hold, onok_ok, onok_ex, onokS_ok, onokS_ex, onnx_nx, onnx_rt, onnx_bk, onnx_ct, onnx_ex, wc_ok, we_v, we_c, we_g, we_bin, we_cmp, we_ix, we_neg, we_not, we_ite, we_andv, we_orv, we_and1, we_or1, we_and, we_or, we_tup, we_frz, we_alc, we_blt, we_call, we_meth, we_sl, we_isi, we_isi2, we_dsp, we_newd, wt_val, wt_cmp, wt_not, wt_andv, wt_orv, wt_and1, wt_or1, wt_and, wt_or, wa_nil, wa_cons, wn_disp, wn_lis, wn_comp, wi_rng, wi_enu, wi_one, wo_non, wo_some, ws_nop, ws_nil, ws_brk, ws_cnt, ws_retn, ws_exp, ws_ret, ws_raise, ws_ite, ws_set, ws_set, ws_setcF, ws_setcT, ws_par, ws_put, ws_seq, ws_for, ws_while, ws_try, List.getElem?_cons_zero, List.getElem?_cons_succ, Option.some.injEq, exists_eq_left', exists_eq_left, true_implies, forall_const, Bool.true_eq_false, Bool.false_eq_true, false_implies, and_true, true_and, setT, List.set_cons_zero, List.set_cons_succ, List.length_cons, List.length_nil, setAll, Option.bind_some, asB, Bool.not_true, Bool.not_false, o_add_i, o_add_s, o_add_t, o_add_l, o_sub_i, o_mul_i, o_fdv_i, o_mod_i, o_neg_i, o_lt_i, o_le_i, o_gt_i, o_ge_i, o_is_n, o_isn_n, o_eq_d, o_ne_d, o_in_d, o_nin_d, bx_len, bx_int, bx_min, bx_max, bx_sum, bx_all, bx_any, bx_tuple, b_min_i, b_max_i, b_int_i, b_int_b, b_len_t, b_len_l, b_len_c, b_len_s, b_tup_t, b_tup_l, b_lis_t, b_lis_l, isa_tab, ty_non, ty_bl, ty_int, ty_str, ty_tup, ty_lst, ty_scr, ty_dic, tr_non, tr_bl, tr_int, tr_tup, tr_lst, tr_scr, nm_set, tp_set, ix_t, ix_l, ix_c, at_0, at_1, at_2, at_3, at_m, at_m1, range1, items_t, items_l, items_s, enu_t, enu_l, bel_int, bel_str, bel_bl, bel_non, out_bl, out_int, out_str, out_non, out_nx, mk_ends, mk_join, g_ends, fEq_i, fEq_b, rI_l, rI_d, rS_d, rL_l, r_pop, r_pop1, r_app, rr_q, rr_ix, rr_ixs, rr_len, rr_tup, rr_tru, rr_mkp, rr_mka, rr_pop, rr_app, rr_put, ok_put, out_rt, out_ex, Prod.mk.injEq, exists_eq, exists_and_left, exists_eq', bne_self_eq_false, Int.reduceBNe, Bool.true_and, and_assoc, Rs.ok.injEq, D.tup.injEq, D.bl.injEq, D.int.injEq, List.cons.injEq, enter_bs, D.bel, D.bels, List.cons_append, List.nil_append, startS, List.map_cons, List.map_nil, List.replicate_succ, List.replicate_zero, Nat.reduceSub, Nat.reduceAdd, Bool.or_false, Bool.false_or, Bool.or_true, Bool.true_or, Bool.and_true, Bool.and_false, Bool.true_and, Bool.false_and, if_true, if_false, reduceCtorEq, Bool.not_eq_true, decide_eq_true_eq, decide_eq_false_iff_not, and_self, onok, onokS, onnx, ite_true, ite_false, reduceIte, c_ll_lst, isInt_b, eq_ll, fEq_i, Int.reduceAdd, Int.cast_ofNat_Int, decide_true, Int.reduceLE, decide_false]), fun n st => c_plain_l n _ (atoms rfl) (by decide) st, rfl, by decide +kernel⟩
  · exact ⟨fun n st => run_to (d := ⟨_, _, _, f_is_hold⟩) rfl rfl (by simp only [f_is_hold, b_is_hold, onok_ok, onok_ex, onokS_ok, onokS_ex, onnx_nx, onnx_rt, onnx_bk, onnx_ct, onnx_ex, wc_ok, we_v, we_c, we_g, we_bin, we_cmp, we_ix, we_neg, we_not, we_ite, we_andv, we_orv, we_and1, we_or1, we_and, we_or, we_tup, we_frz, we_alc, we_blt, we_call, we_meth, we_sl, we_isi, we_isi2, we_dsp, we_newd, wt_val, wt_cmp, wt_not, wt_andv, wt_orv, wt_and1, wt_or1, wt_and, wt_or, wa_nil, wa_cons, wn_disp, wn_lis, wn_comp, wi_rng, wi_enu, wi_one, wo_non, wo_some, ws_nop, ws_nil, ws_brk, ws_cnt, ws_retn, ws_exp, ws_ret, ws_raise, ws_ite, ws_set, ws_set, ws_setcF, ws_setcT, ws_par, ws_put, ws_seq, ws_for, ws_while, ws_try, List.getElem?_cons_zero, List.getElem?_cons_succ, Option.some.injEq, exists_eq_left', exists_eq_left, true_implies, forall_const, Bool.true_eq_false, Bool.false_eq_true, false_implies, and_true, true_and, setT, List.set_cons_zero, List.set_cons_succ, List.length_cons, List.length_nil, setAll, Option.bind_some, asB, Bool.not_true, Bool.not_false, o_add_i, o_add_s, o_add_t, o_add_l, o_sub_i, o_mul_i, o_fdv_i, o_mod_i, o_neg_i, o_lt_i, o_le_i, o_gt_i, o_ge_i, o_is_n, o_isn_n, o_eq_d, o_ne_d, o_in_d, o_nin_d, bx_len, bx_int, bx_min, bx_max, bx_sum, bx_all, bx_any, bx_tuple, b_min_i, b_max_i, b_int_i, b_int_b, b_len_t, b_len_l, b_len_c, b_len_s, b_tup_t, b_tup_l, b_lis_t, b_lis_l, isa_tab, ty_non, ty_bl, ty_int, ty_str, ty_tup, ty_lst, ty_scr, ty_dic, tr_non, tr_bl, tr_int, tr_tup, tr_lst, tr_scr, nm_set, tp_set, ix_t, ix_l, ix_c, at_0, at_1, at_2, at_3, at_m, at_m1, range1, items_t, items_l, items_s, enu_t, enu_l, bel_int, bel_str, bel_bl, bel_non, out_bl, out_int, out_str, out_non, out_nx, mk_ends, mk_join, g_ends, fEq_i, fEq_b, rI_l, rI_d, rS_d, rL_l, r_pop, r_pop1, r_app, rr_q, rr_ix, rr_ixs, rr_len, rr_tup, rr_tru, rr_mkp, rr_mka, rr_pop, rr_app, rr_put, ok_put, out_rt, out_ex, Prod.mk.injEq, exists_eq, exists_and_left, exists_eq', bne_self_eq_false, Int.reduceBNe, Bool.true_and, and_assoc, Rs.ok.injEq, D.tup.injEq, D.bl.injEq, D.int.injEq, List.cons.injEq, enter_bs, D.bel, D.bels, List.cons_append, List.nil_append, startS, List.map_cons, List.map_nil, List.replicate_succ, List.replicate_zero, Nat.reduceSub, Nat.reduceAdd, Bool.or_false, Bool.false_or, Bool.or_true, Bool.true_or, Bool.and_true, Bool.and_false, Bool.true_and, Bool.false_and, if_true, if_false, reduceCtorEq, Bool.not_eq_true, decide_eq_true_eq, decide_eq_false_iff_not, and_self, onok, onokS, onnx, ite_true, ite_false, reduceIte, c_ll_tup, isInt, eq_ll, fEq_i, Int.reduceAdd, Int.cast_ofNat_Int, Int.reduceEq, decide_true, Int.reduceLE, decide_false]), fun n st => c_plain_t n _ (atoms rfl) (by decide) st, rfl, by decide +kernel⟩
  · exact ⟨fun n st => run_to (d := ⟨_, _, _, f_is_hold⟩) rfl rfl (by simp only [f_is_hold, b_is_hold, onok_ok, onok_ex, onokS_ok, onokS_ex, onnx_nx, onnx_rt, onnx_bk, onnx_ct, onnx_ex, wc_ok, we_v, we_c, we_g, we_bin, we_cmp, we_ix, we_neg, we_not, we_ite, we_andv, we_orv, we_and1, we_or1, we_and, we_or, we_tup, we_frz, we_alc, we_blt, we_call, we_meth, we_sl, we_isi, we_isi2, we_dsp, we_newd, wt_val, wt_cmp, wt_not, wt_andv, wt_orv, wt_and1, wt_or1, wt_and, wt_or, wa_nil, wa_cons, wn_disp, wn_lis, wn_comp, wi_rng, wi_enu, wi_one, wo_non, wo_some, ws_nop, ws_nil, ws_brk, ws_cnt, ws_retn, ws_exp, ws_ret, ws_raise, ws_ite, ws_set, ws_set, ws_setcF, ws_setcT, ws_par, ws_put, ws_seq, ws_for, ws_while, ws_try, List.getElem?_cons_zero, List.getElem?_cons_succ, Option.some.injEq, exists_eq_left', exists_eq_left, true_implies, forall_const, Bool.true_eq_false, Bool.false_eq_true, false_implies, and_true, true_and, setT, List.set_cons_zero, List.set_cons_succ, List.length_cons, List.length_nil, setAll, Option.bind_some, asB, Bool.not_true, Bool.not_false, o_add_i, o_add_s, o_add_t, o_add_l, o_sub_i, o_mul_i, o_fdv_i, o_mod_i, o_neg_i, o_lt_i, o_le_i, o_gt_i, o_ge_i, o_is_n, o_isn_n, o_eq_d, o_ne_d, o_in_d, o_nin_d, bx_len, bx_int, bx_min, bx_max, bx_sum, bx_all, bx_any, bx_tuple, b_min_i, b_max_i, b_int_i, b_int_b, b_len_t, b_len_l, b_len_c, b_len_s, b_tup_t, b_tup_l, b_lis_t, b_lis_l, isa_tab, ty_non, ty_bl, ty_int, ty_str, ty_tup, ty_lst, ty_scr, ty_dic, tr_non, tr_bl, tr_int, tr_tup, tr_lst, tr_scr, nm_set, tp_set, ix_t, ix_l, ix_c, at_0, at_1, at_2, at_3, at_m, at_m1, range1, items_t, items_l, items_s, enu_t, enu_l, bel_int, bel_str, bel_bl, bel_non, out_bl, out_int, out_str, out_non, out_nx, mk_ends, mk_join, g_ends, fEq_i, fEq_b, rI_l, rI_d, rS_d, rL_l, r_pop, r_pop1, r_app, rr_q, rr_ix, rr_ixs, rr_len, rr_tup, rr_tru, rr_mkp, rr_mka, rr_pop, rr_app, rr_put, ok_put, out_rt, out_ex, Prod.mk.injEq, exists_eq, exists_and_left, exists_eq', bne_self_eq_false, Int.reduceBNe, Bool.true_and, and_assoc, Rs.ok.injEq, D.tup.injEq, D.bl.injEq, D.int.injEq, List.cons.injEq, enter_bs, D.bel, D.bels, List.cons_append, List.nil_append, startS, List.map_cons, List.map_nil, List.replicate_succ, List.replicate_zero, Nat.reduceSub, Nat.reduceAdd, Bool.or_false, Bool.false_or, Bool.or_true, Bool.true_or, Bool.and_true, Bool.and_false, Bool.true_and, Bool.false_and, if_true, if_false, reduceCtorEq, Bool.not_eq_true, decide_eq_true_eq, decide_eq_false_iff_not, and_self, onok, onokS, onnx, ite_true, ite_false, reduceIte, ll_n, isInt_n]), fun n st => c_plain_atom n _ rfl st, rfl, rfl⟩
  · exact ⟨fun n st => run_to (d := ⟨_, _, _, f_is_hold⟩) rfl rfl (by simp only [f_is_hold, b_is_hold, onok_ok, onok_ex, onokS_ok, onokS_ex, onnx_nx, onnx_rt, onnx_bk, onnx_ct, onnx_ex, wc_ok, we_v, we_c, we_g, we_bin, we_cmp, we_ix, we_neg, we_not, we_ite, we_andv, we_orv, we_and1, we_or1, we_and, we_or, we_tup, we_frz, we_alc, we_blt, we_call, we_meth, we_sl, we_isi, we_isi2, we_dsp, we_newd, wt_val, wt_cmp, wt_not, wt_andv, wt_orv, wt_and1, wt_or1, wt_and, wt_or, wa_nil, wa_cons, wn_disp, wn_lis, wn_comp, wi_rng, wi_enu, wi_one, wo_non, wo_some, ws_nop, ws_nil, ws_brk, ws_cnt, ws_retn, ws_exp, ws_ret, ws_raise, ws_ite, ws_set, ws_set, ws_setcF, ws_setcT, ws_par, ws_put, ws_seq, ws_for, ws_while, ws_try, List.getElem?_cons_zero, List.getElem?_cons_succ, Option.some.injEq, exists_eq_left', exists_eq_left, true_implies, forall_const, Bool.true_eq_false, Bool.false_eq_true, false_implies, and_true, true_and, setT, List.set_cons_zero, List.set_cons_succ, List.length_cons, List.length_nil, setAll, Option.bind_some, asB, Bool.not_true, Bool.not_false, o_add_i, o_add_s, o_add_t, o_add_l, o_sub_i, o_mul_i, o_fdv_i, o_mod_i, o_neg_i, o_lt_i, o_le_i, o_gt_i, o_ge_i, o_is_n, o_isn_n, o_eq_d, o_ne_d, o_in_d, o_nin_d, bx_len, bx_int, bx_min, bx_max, bx_sum, bx_all, bx_any, bx_tuple, b_min_i, b_max_i, b_int_i, b_int_b, b_len_t, b_len_l, b_len_c, b_len_s, b_tup_t, b_tup_l, b_lis_t, b_lis_l, isa_tab, ty_non, ty_bl, ty_int, ty_str, ty_tup, ty_lst, ty_scr, ty_dic, tr_non, tr_bl, tr_int, tr_tup, tr_lst, tr_scr, nm_set, tp_set, ix_t, ix_l, ix_c, at_0, at_1, at_2, at_3, at_m, at_m1, range1, items_t, items_l, items_s, enu_t, enu_l, bel_int, bel_str, bel_bl, bel_non, out_bl, out_int, out_str, out_non, out_nx, mk_ends, mk_join, g_ends, fEq_i, fEq_b, rI_l, rI_d, rS_d, rL_l, r_pop, r_pop1, r_app, rr_q, rr_ix, rr_ixs, rr_len, rr_tup, rr_tru, rr_mkp, rr_mka, rr_pop, rr_app, rr_put, ok_put, out_rt, out_ex, Prod.mk.injEq, exists_eq, exists_and_left, exists_eq', bne_self_eq_false, Int.reduceBNe, Bool.true_and, and_assoc, Rs.ok.injEq, D.tup.injEq, D.bl.injEq, D.int.injEq, List.cons.injEq, enter_bs, D.bel, D.bels, List.cons_append, List.nil_append, startS, List.map_cons, List.map_nil, List.replicate_succ, List.replicate_zero, Nat.reduceSub, Nat.reduceAdd, Bool.or_false, Bool.false_or, Bool.or_true, Bool.true_or, Bool.and_true, Bool.and_false, Bool.true_and, Bool.false_and, if_true, if_false, reduceCtorEq, Bool.not_eq_true, decide_eq_true_eq, decide_eq_false_iff_not, and_self, onok, onokS, onnx, ite_true, ite_false, reduceIte, eq_EE]), fun n st => c_plain_atom n _ rfl st, rfl, by decide +kernel⟩
  · exact ⟨fun n st => run_to (d := ⟨_, _, _, f_is_hold⟩) rfl rfl (by simp only [f_is_hold, b_is_hold, onok_ok, onok_ex, onokS_ok, onokS_ex, onnx_nx, onnx_rt, onnx_bk, onnx_ct, onnx_ex, wc_ok, we_v, we_c, we_g, we_bin, we_cmp, we_ix, we_neg, we_not, we_ite, we_andv, we_orv, we_and1, we_or1, we_and, we_or, we_tup, we_frz, we_alc, we_blt, we_call, we_meth, we_sl, we_isi, we_isi2, we_dsp, we_newd, wt_val, wt_cmp, wt_not, wt_andv, wt_orv, wt_and1, wt_or1, wt_and, wt_or, wa_nil, wa_cons, wn_disp, wn_lis, wn_comp, wi_rng, wi_enu, wi_one, wo_non, wo_some, ws_nop, ws_nil, ws_brk, ws_cnt, ws_retn, ws_exp, ws_ret, ws_raise, ws_ite, ws_set, ws_set, ws_setcF, ws_setcT, ws_par, ws_put, ws_seq, ws_for, ws_while, ws_try, List.getElem?_cons_zero, List.getElem?_cons_succ, Option.some.injEq, exists_eq_left', exists_eq_left, true_implies, forall_const, Bool.true_eq_false, Bool.false_eq_true, false_implies, and_true, true_and, setT, List.set_cons_zero, List.set_cons_succ, List.length_cons, List.length_nil, setAll, Option.bind_some, asB, Bool.not_true, Bool.not_false, o_add_i, o_add_s, o_add_t, o_add_l, o_sub_i, o_mul_i, o_fdv_i, o_mod_i, o_neg_i, o_lt_i, o_le_i, o_gt_i, o_ge_i, o_is_n, o_isn_n, o_eq_d, o_ne_d, o_in_d, o_nin_d, bx_len, bx_int, bx_min, bx_max, bx_sum, bx_all, bx_any, bx_tuple, b_min_i, b_max_i, b_int_i, b_int_b, b_len_t, b_len_l, b_len_c, b_len_s, b_tup_t, b_tup_l, b_lis_t, b_lis_l, isa_tab, ty_non, ty_bl, ty_int, ty_str, ty_tup, ty_lst, ty_scr, ty_dic, tr_non, tr_bl, tr_int, tr_tup, tr_lst, tr_scr, nm_set, tp_set, ix_t, ix_l, ix_c, at_0, at_1, at_2, at_3, at_m, at_m1, range1, items_t, items_l, items_s, enu_t, enu_l, bel_int, bel_str, bel_bl, bel_non, out_bl, out_int, out_str, out_non, out_nx, mk_ends, mk_join, g_ends, fEq_i, fEq_b, rI_l, rI_d, rS_d, rL_l, r_pop, r_pop1, r_app, rr_q, rr_ix, rr_ixs, rr_len, rr_tup, rr_tru, rr_mkp, rr_mka, rr_pop, rr_app, rr_put, ok_put, out_rt, out_ex, Prod.mk.injEq, exists_eq, exists_and_left, exists_eq', bne_self_eq_false, Int.reduceBNe, Bool.true_and, and_assoc, Rs.ok.injEq, D.tup.injEq, D.bl.injEq, D.int.injEq, List.cons.injEq, enter_bs, D.bel, D.bels, List.cons_append, List.nil_append, startS, List.map_cons, List.map_nil, List.replicate_succ, List.replicate_zero, Nat.reduceSub, Nat.reduceAdd, Bool.or_false, Bool.false_or, Bool.or_true, Bool.true_or, Bool.and_true, Bool.and_false, Bool.true_and, Bool.false_and, if_true, if_false, reduceCtorEq, Bool.not_eq_true, decide_eq_true_eq, decide_eq_false_iff_not, and_self, onok, onokS, onnx, ite_true, ite_false, reduceIte, c_ll_int, isInt, Int.reduceLE, Int.reduceNeg, decide_false]), fun n st => c_plain_atom n _ rfl st, rfl, rfl⟩
/-- a value that is no text -/
structure BT (b : D) : Prop where
  text : ∀ n st, md.call (n + 1) 1 [b] st = some (.ok (.bl false), st)
  plain : ∀ n st, md.call (n + 2) 4 [b] st = some (.ok (tl b), st)
  bel : (tl b).bel 0 = true
  ek : eqOk 3 (tl b) = true
def badT : List D := [.str ⟨#[]⟩, .str ⟨#[47]⟩, .str ⟨#[97, 47, 47]⟩, .str ⟨#[65]⟩, .str ⟨#[97, 49]⟩, .str ⟨#[97, 32, 98]⟩, .int 7, .non, .lst [.str ⟨#[97]⟩]]
theorem text_no {n : Nat} {b : D} {st : Sto} {sl : Sl} (e : evS md.tb md.cfl (md.call n) b_is_text (startS 3 [b]) st.enter = some (.rt (.bl false), sl, st.enter)) : md.call (n + 1) 1 [b] st = some (.ok (.bl false), st) :=
  run_to (d := ⟨_, _, _, f_is_text⟩) rfl rfl ⟨_, _, _, e, rfl, out_bl⟩
theorem badT_ok : ∀ b ∈ badT, BT b := by
  intro b hb
  simp only [badT, List.mem_cons, List.not_mem_nil, or_false] at hb
  rcases hb with rfl | rfl | rfl | rfl | rfl | rfl | rfl | rfl | rfl
  · exact ⟨fun n st => text_no (sl := [some (.str ⟨#[]⟩), some (.str ⟨#[]⟩), none]) (by kernel_rfl), fun n st => c_plain_atom n _ rfl st, rfl, by decide +kernel⟩
  · exact ⟨fun n st => text_no (sl := [some (.str ⟨#[47]⟩), some (.str ⟨#[]⟩), none]) (by kernel_rfl), fun n st => c_plain_atom n _ rfl st, rfl, by decide +kernel⟩
  · exact ⟨fun n st => text_no (sl := [some (.str ⟨#[97, 47, 47]⟩), some (.str ⟨#[97, 47]⟩), none]) (by kernel_rfl), fun n st => c_plain_atom n _ rfl st, rfl, by decide +kernel⟩
  · exact ⟨fun n st => text_no (sl := [some (.str ⟨#[65]⟩), some (.str ⟨#[65]⟩), none]) (by kernel_rfl), fun n st => c_plain_atom n _ rfl st, rfl, by decide +kernel⟩
  · exact ⟨fun n st => text_no (sl := [some (.str ⟨#[97, 49]⟩), some (.str ⟨#[97, 49]⟩), none]) (by kernel_rfl), fun n st => c_plain_atom n _ rfl st, rfl, by decide +kernel⟩
  · exact ⟨fun n st => text_no (sl := [some (.str ⟨#[97, 32, 98]⟩), some (.str ⟨#[97, 32, 98]⟩), none]) (by kernel_rfl), fun n st => c_plain_atom n _ rfl st, rfl, by decide +kernel⟩
  · exact ⟨fun n st => text_no (sl := [some (.int 7), none, none]) (by kernel_rfl), fun n st => c_plain_atom n _ rfl st, rfl, rfl⟩
  · exact ⟨fun n st => text_no (sl := [some .non, none, none]) (by kernel_rfl), fun n st => c_plain_atom n _ rfl st, rfl, rfl⟩
  · exact ⟨fun n st => text_no (sl := [some (.lst [.str ⟨#[97]⟩]), none, none]) (by kernel_rfl), fun n st => c_plain_l n _ (atoms rfl) (by decide) st, rfl, by decide +kernel⟩
/-- a value that may not be held -/
structure BK (h : Ho) (b : D) : Prop where
  held : ∀ n st, md.call (n + 3) 14 [h.k, b] st = some (.ex 2 (tl b), st)
  bel : (tl b).bel 0 = true
  ek : eqOk 3 (tl b) = true
theorem out_exi {nw : Bool} {st : Sto} {c : Nat} {i : Int} : outF nw st st.enter (.ex c (.int i)) = some (.ex c (.int i), st) := out_ex rfl
theorem out_exb {nw : Bool} {st : Sto} {c : Nat} {i : Bool} : outF nw st st.enter (.ex c (.bl i)) = some (.ex c (.bl i), st) := out_ex rfl
theorem out_exs {nw : Bool} {st : Sto} {c : Nat} {i : Str} : outF nw st st.enter (.ex c (.str i)) = some (.ex c (.str i), st) := out_ex rfl
theorem out_exn {nw : Bool} {st : Sto} {c : Nat} : outF nw st st.enter (.ex c .non) = some (.ex c .non, st) := out_ex rfl
theorem pl_i (n : Nat) (x : Int) (st : Sto) : md.call (n + 2) 4 [.int x] st = some (.ok (.int x), st) := c_plain_atom n _ rfl st
theorem pl_b (n : Nat) (x : Bool) (st : Sto) : md.call (n + 2) 4 [.bl x] st = some (.ok (.bl x), st) := c_plain_atom n _ rfl st
theorem pl_s (n : Nat) (x : Str) (st : Sto) : md.call (n + 2) 4 [.str x] st = some (.ok (.str x), st) := c_plain_atom n _ rfl st
theorem pl_n (n : Nat) (st : Sto) : md.call (n + 2) 4 [.non] st = some (.ok .non, st) := c_plain_atom n _ rfl st
theorem pl_0 (n : Nat) (st : Sto) : md.call (n + 2) 4 [.lst [.int 0]] st = some (.ok (.tup [.int 0]), st) := c_plain_l n _ (atoms rfl) (by decide) st
def topK (h : Ho) : Int := if h.n = 0 then -1 else h.n
def badK (h : Ho) : List D := [.int (topK h), .int (-1), .bl true, .non, .str ⟨#[48]⟩, .lst [.int 0]]
theorem held_neg (n : Nat) (h : Ho) (i : Int) (hi : i < 0) (st : Sto) : md.call (n + 3) 14 [h.k, .int i] st = some (.ex 2 (.int i), st) := by
  refine run_to (d := ⟨_, _, _, f_check_held_size⟩) rfl rfl ?_
  simp only [f_check_held_size, b_check_held_size, onok_ok, onok_ex, onokS_ok, onokS_ex, onnx_nx, onnx_rt, onnx_bk, onnx_ct, onnx_ex, wc_ok, we_v, we_c, we_g, we_bin, we_cmp, we_ix, we_neg, we_not, we_ite, we_andv, we_orv, we_and1, we_or1, we_and, we_or, we_tup, we_frz, we_alc, we_blt, we_call, we_meth, we_sl, we_isi, we_isi2, we_dsp, we_newd, wt_val, wt_cmp, wt_not, wt_andv, wt_orv, wt_and1, wt_or1, wt_and, wt_or, wa_nil, wa_cons, wn_disp, wn_lis, wn_comp, wi_rng, wi_enu, wi_one, wo_non, wo_some, ws_nop, ws_nil, ws_brk, ws_cnt, ws_retn, ws_exp, ws_ret, ws_raise, ws_ite, ws_set, ws_set, ws_setcF, ws_setcT, ws_par, ws_put, ws_seq, ws_for, ws_while, ws_try, List.getElem?_cons_zero, List.getElem?_cons_succ, Option.some.injEq, exists_eq_left', exists_eq_left, true_implies, forall_const, Bool.true_eq_false, Bool.false_eq_true, false_implies, and_true, true_and, setT, List.set_cons_zero, List.set_cons_succ, List.length_cons, List.length_nil, setAll, Option.bind_some, asB, Bool.not_true, Bool.not_false, o_add_i, o_add_s, o_add_t, o_add_l, o_sub_i, o_mul_i, o_fdv_i, o_mod_i, o_neg_i, o_lt_i, o_le_i, o_gt_i, o_ge_i, o_is_n, o_isn_n, o_eq_d, o_ne_d, o_in_d, o_nin_d, bx_len, bx_int, bx_min, bx_max, bx_sum, bx_all, bx_any, bx_tuple, b_min_i, b_max_i, b_int_i, b_int_b, b_len_t, b_len_l, b_len_c, b_len_s, b_tup_t, b_tup_l, b_lis_t, b_lis_l, isa_tab, ty_non, ty_bl, ty_int, ty_str, ty_tup, ty_lst, ty_scr, ty_dic, tr_non, tr_bl, tr_int, tr_tup, tr_lst, tr_scr, nm_set, tp_set, ix_t, ix_l, ix_c, at_0, at_1, at_2, at_3, at_m, at_m1, range1, items_t, items_l, items_s, enu_t, enu_l, bel_int, bel_str, bel_bl, bel_non, out_bl, out_int, out_str, out_non, out_nx, mk_ends, mk_join, g_ends, fEq_i, fEq_b, rI_l, rI_d, rS_d, rL_l, r_pop, r_pop1, r_app, rr_q, rr_ix, rr_ixs, rr_len, rr_tup, rr_tru, rr_mkp, rr_mka, rr_pop, rr_app, rr_put, ok_put, out_rt, out_ex, Prod.mk.injEq, exists_eq, exists_and_left, exists_eq', bne_self_eq_false, Int.reduceBNe, Bool.true_and, and_assoc, Rs.ok.injEq, D.tup.injEq, D.bl.injEq, D.int.injEq, List.cons.injEq, enter_bs, D.bel, D.bels, List.cons_append, List.nil_append, startS, List.map_cons, List.map_nil, List.replicate_succ, List.replicate_zero, Nat.reduceSub, Nat.reduceAdd, Bool.or_false, Bool.false_or, Bool.or_true, Bool.true_or, Bool.and_true, Bool.and_false, Bool.true_and, Bool.false_and, if_true, if_false, reduceCtorEq, Bool.not_eq_true, decide_eq_true_eq, decide_eq_false_iff_not, and_self, onok, onokS, onnx, ite_true, ite_false, reduceIte, isInt, hi, decide_true, pl_i, out_exi]
theorem held_big (n : Nat) (h : Ho) (hh : h ≠ .en) (h1 : 1 ≤ h.n) (st : Sto) : md.call (n + 3) 14 [h.k, .int h.n] st = some (.ex 2 (.int h.n), st) := by
  refine run_to (d := ⟨_, _, _, f_check_held_size⟩) rfl rfl ?_
  cases h with
  | en => exact absurd rfl hh
  | i m =>
    have e1 : ¬ m < 0 := by have : 1 ≤ m := h1; omega
    have e2 : m - 1 < m := by omega
    simp only [f_check_held_size, b_check_held_size, Ho.k, Ho.n, onok_ok, onok_ex, onokS_ok, onokS_ex, onnx_nx, onnx_rt, onnx_bk, onnx_ct, onnx_ex, wc_ok, we_v, we_c, we_g, we_bin, we_cmp, we_ix, we_neg, we_not, we_ite, we_andv, we_orv, we_and1, we_or1, we_and, we_or, we_tup, we_frz, we_alc, we_blt, we_call, we_meth, we_sl, we_isi, we_isi2, we_dsp, we_newd, wt_val, wt_cmp, wt_not, wt_andv, wt_orv, wt_and1, wt_or1, wt_and, wt_or, wa_nil, wa_cons, wn_disp, wn_lis, wn_comp, wi_rng, wi_enu, wi_one, wo_non, wo_some, ws_nop, ws_nil, ws_brk, ws_cnt, ws_retn, ws_exp, ws_ret, ws_raise, ws_ite, ws_set, ws_set, ws_setcF, ws_setcT, ws_par, ws_put, ws_seq, ws_for, ws_while, ws_try, List.getElem?_cons_zero, List.getElem?_cons_succ, Option.some.injEq, exists_eq_left', exists_eq_left, true_implies, forall_const, Bool.true_eq_false, Bool.false_eq_true, false_implies, and_true, true_and, setT, List.set_cons_zero, List.set_cons_succ, List.length_cons, List.length_nil, setAll, Option.bind_some, asB, Bool.not_true, Bool.not_false, o_add_i, o_add_s, o_add_t, o_add_l, o_sub_i, o_mul_i, o_fdv_i, o_mod_i, o_neg_i, o_lt_i, o_le_i, o_gt_i, o_ge_i, o_is_n, o_isn_n, o_eq_d, o_ne_d, o_in_d, o_nin_d, bx_len, bx_int, bx_min, bx_max, bx_sum, bx_all, bx_any, bx_tuple, b_min_i, b_max_i, b_int_i, b_int_b, b_len_t, b_len_l, b_len_c, b_len_s, b_tup_t, b_tup_l, b_lis_t, b_lis_l, isa_tab, ty_non, ty_bl, ty_int, ty_str, ty_tup, ty_lst, ty_scr, ty_dic, tr_non, tr_bl, tr_int, tr_tup, tr_lst, tr_scr, nm_set, tp_set, ix_t, ix_l, ix_c, at_0, at_1, at_2, at_3, at_m, at_m1, range1, items_t, items_l, items_s, enu_t, enu_l, bel_int, bel_str, bel_bl, bel_non, out_bl, out_int, out_str, out_non, out_nx, mk_ends, mk_join, g_ends, fEq_i, fEq_b, rI_l, rI_d, rS_d, rL_l, r_pop, r_pop1, r_app, rr_q, rr_ix, rr_ixs, rr_len, rr_tup, rr_tru, rr_mkp, rr_mka, rr_pop, rr_app, rr_put, ok_put, out_rt, out_ex, Prod.mk.injEq, exists_eq, exists_and_left, exists_eq', bne_self_eq_false, Int.reduceBNe, Bool.true_and, and_assoc, Rs.ok.injEq, D.tup.injEq, D.bl.injEq, D.int.injEq, List.cons.injEq, enter_bs, D.bel, D.bels, List.cons_append, List.nil_append, startS, List.map_cons, List.map_nil, List.replicate_succ, List.replicate_zero, Nat.reduceSub, Nat.reduceAdd, Bool.or_false, Bool.false_or, Bool.or_true, Bool.true_or, Bool.and_true, Bool.and_false, Bool.true_and, Bool.false_and, if_true, if_false, reduceCtorEq, Bool.not_eq_true, decide_eq_true_eq, decide_eq_false_iff_not, and_self, onok, onokS, onnx, ite_true, ite_false, reduceIte, isInt, e1, e2, decide_true, decide_false, cb_i, out_exi]
  | t m =>
    have e1 : ¬ m < 0 := by have : 1 ≤ m := h1; omega
    have e2 : m - 1 < m := by omega
    simp only [f_check_held_size, b_check_held_size, Ho.k, Ho.n, onok_ok, onok_ex, onokS_ok, onokS_ex, onnx_nx, onnx_rt, onnx_bk, onnx_ct, onnx_ex, wc_ok, we_v, we_c, we_g, we_bin, we_cmp, we_ix, we_neg, we_not, we_ite, we_andv, we_orv, we_and1, we_or1, we_and, we_or, we_tup, we_frz, we_alc, we_blt, we_call, we_meth, we_sl, we_isi, we_isi2, we_dsp, we_newd, wt_val, wt_cmp, wt_not, wt_andv, wt_orv, wt_and1, wt_or1, wt_and, wt_or, wa_nil, wa_cons, wn_disp, wn_lis, wn_comp, wi_rng, wi_enu, wi_one, wo_non, wo_some, ws_nop, ws_nil, ws_brk, ws_cnt, ws_retn, ws_exp, ws_ret, ws_raise, ws_ite, ws_set, ws_set, ws_setcF, ws_setcT, ws_par, ws_put, ws_seq, ws_for, ws_while, ws_try, List.getElem?_cons_zero, List.getElem?_cons_succ, Option.some.injEq, exists_eq_left', exists_eq_left, true_implies, forall_const, Bool.true_eq_false, Bool.false_eq_true, false_implies, and_true, true_and, setT, List.set_cons_zero, List.set_cons_succ, List.length_cons, List.length_nil, setAll, Option.bind_some, asB, Bool.not_true, Bool.not_false, o_add_i, o_add_s, o_add_t, o_add_l, o_sub_i, o_mul_i, o_fdv_i, o_mod_i, o_neg_i, o_lt_i, o_le_i, o_gt_i, o_ge_i, o_is_n, o_isn_n, o_eq_d, o_ne_d, o_in_d, o_nin_d, bx_len, bx_int, bx_min, bx_max, bx_sum, bx_all, bx_any, bx_tuple, b_min_i, b_max_i, b_int_i, b_int_b, b_len_t, b_len_l, b_len_c, b_len_s, b_tup_t, b_tup_l, b_lis_t, b_lis_l, isa_tab, ty_non, ty_bl, ty_int, ty_str, ty_tup, ty_lst, ty_scr, ty_dic, tr_non, tr_bl, tr_int, tr_tup, tr_lst, tr_scr, nm_set, tp_set, ix_t, ix_l, ix_c, at_0, at_1, at_2, at_3, at_m, at_m1, range1, items_t, items_l, items_s, enu_t, enu_l, bel_int, bel_str, bel_bl, bel_non, out_bl, out_int, out_str, out_non, out_nx, mk_ends, mk_join, g_ends, fEq_i, fEq_b, rI_l, rI_d, rS_d, rL_l, r_pop, r_pop1, r_app, rr_q, rr_ix, rr_ixs, rr_len, rr_tup, rr_tru, rr_mkp, rr_mka, rr_pop, rr_app, rr_put, ok_put, out_rt, out_ex, Prod.mk.injEq, exists_eq, exists_and_left, exists_eq', bne_self_eq_false, Int.reduceBNe, Bool.true_and, and_assoc, Rs.ok.injEq, D.tup.injEq, D.bl.injEq, D.int.injEq, List.cons.injEq, enter_bs, D.bel, D.bels, List.cons_append, List.nil_append, startS, List.map_cons, List.map_nil, List.replicate_succ, List.replicate_zero, Nat.reduceSub, Nat.reduceAdd, Bool.or_false, Bool.false_or, Bool.or_true, Bool.true_or, Bool.and_true, Bool.and_false, Bool.true_and, Bool.false_and, if_true, if_false, reduceCtorEq, Bool.not_eq_true, decide_eq_true_eq, decide_eq_false_iff_not, and_self, onok, onokS, onnx, ite_true, ite_false, reduceIte, isInt, e1, e2, decide_true, decide_false, cb_t, out_exi]
  | l m =>
    have e1 : ¬ m < 0 := by have : 1 ≤ m := h1; omega
    have e2 : m - 1 < m := by omega
    simp only [f_check_held_size, b_check_held_size, Ho.k, Ho.n, onok_ok, onok_ex, onokS_ok, onokS_ex, onnx_nx, onnx_rt, onnx_bk, onnx_ct, onnx_ex, wc_ok, we_v, we_c, we_g, we_bin, we_cmp, we_ix, we_neg, we_not, we_ite, we_andv, we_orv, we_and1, we_or1, we_and, we_or, we_tup, we_frz, we_alc, we_blt, we_call, we_meth, we_sl, we_isi, we_isi2, we_dsp, we_newd, wt_val, wt_cmp, wt_not, wt_andv, wt_orv, wt_and1, wt_or1, wt_and, wt_or, wa_nil, wa_cons, wn_disp, wn_lis, wn_comp, wi_rng, wi_enu, wi_one, wo_non, wo_some, ws_nop, ws_nil, ws_brk, ws_cnt, ws_retn, ws_exp, ws_ret, ws_raise, ws_ite, ws_set, ws_set, ws_setcF, ws_setcT, ws_par, ws_put, ws_seq, ws_for, ws_while, ws_try, List.getElem?_cons_zero, List.getElem?_cons_succ, Option.some.injEq, exists_eq_left', exists_eq_left, true_implies, forall_const, Bool.true_eq_false, Bool.false_eq_true, false_implies, and_true, true_and, setT, List.set_cons_zero, List.set_cons_succ, List.length_cons, List.length_nil, setAll, Option.bind_some, asB, Bool.not_true, Bool.not_false, o_add_i, o_add_s, o_add_t, o_add_l, o_sub_i, o_mul_i, o_fdv_i, o_mod_i, o_neg_i, o_lt_i, o_le_i, o_gt_i, o_ge_i, o_is_n, o_isn_n, o_eq_d, o_ne_d, o_in_d, o_nin_d, bx_len, bx_int, bx_min, bx_max, bx_sum, bx_all, bx_any, bx_tuple, b_min_i, b_max_i, b_int_i, b_int_b, b_len_t, b_len_l, b_len_c, b_len_s, b_tup_t, b_tup_l, b_lis_t, b_lis_l, isa_tab, ty_non, ty_bl, ty_int, ty_str, ty_tup, ty_lst, ty_scr, ty_dic, tr_non, tr_bl, tr_int, tr_tup, tr_lst, tr_scr, nm_set, tp_set, ix_t, ix_l, ix_c, at_0, at_1, at_2, at_3, at_m, at_m1, range1, items_t, items_l, items_s, enu_t, enu_l, bel_int, bel_str, bel_bl, bel_non, out_bl, out_int, out_str, out_non, out_nx, mk_ends, mk_join, g_ends, fEq_i, fEq_b, rI_l, rI_d, rS_d, rL_l, r_pop, r_pop1, r_app, rr_q, rr_ix, rr_ixs, rr_len, rr_tup, rr_tru, rr_mkp, rr_mka, rr_pop, rr_app, rr_put, ok_put, out_rt, out_ex, Prod.mk.injEq, exists_eq, exists_and_left, exists_eq', bne_self_eq_false, Int.reduceBNe, Bool.true_and, and_assoc, Rs.ok.injEq, D.tup.injEq, D.bl.injEq, D.int.injEq, List.cons.injEq, enter_bs, D.bel, D.bels, List.cons_append, List.nil_append, startS, List.map_cons, List.map_nil, List.replicate_succ, List.replicate_zero, Nat.reduceSub, Nat.reduceAdd, Bool.or_false, Bool.false_or, Bool.or_true, Bool.true_or, Bool.and_true, Bool.and_false, Bool.true_and, Bool.false_and, if_true, if_false, reduceCtorEq, Bool.not_eq_true, decide_eq_true_eq, decide_eq_false_iff_not, and_self, onok, onokS, onnx, ite_true, ite_false, reduceIte, isInt, e1, e2, decide_true, decide_false, cb_t, out_exi]
theorem badK_ok (h : Ho) (hh : h.Ok) : ∀ b ∈ badK h, BK h b := by
  intro b hb
  simp only [badK, List.mem_cons, List.not_mem_nil, or_false] at hb
  rcases hb with rfl | rfl | rfl | rfl | rfl | rfl
  · refine ⟨fun n st => ?_, rfl, rfl⟩
    cases h with
    | en => exact held_neg n .en (-1) (by decide) st
    | i m =>
      have hh : 1 ≤ m := hh
      have : topK (.i m) = m := if_neg (by show ¬ m = 0; omega)
      rw [this]; exact held_big n (.i m) (by simp) hh st
    | t m =>
      have hh : 1 ≤ m := hh
      have : topK (.t m) = m := if_neg (by show ¬ m = 0; omega)
      rw [this]; exact held_big n (.t m) (by simp) hh st
    | l m =>
      have hh : 1 ≤ m := hh
      have : topK (.l m) = m := if_neg (by show ¬ m = 0; omega)
      rw [this]; exact held_big n (.l m) (by simp) hh st
  · exact ⟨fun n st => held_neg n h (-1) (by decide) st, rfl, rfl⟩
  · exact ⟨fun n st => run_to (d := ⟨_, _, _, f_check_held_size⟩) rfl rfl (by simp only [f_check_held_size, b_check_held_size, onok_ok, onok_ex, onokS_ok, onokS_ex, onnx_nx, onnx_rt, onnx_bk, onnx_ct, onnx_ex, wc_ok, we_v, we_c, we_g, we_bin, we_cmp, we_ix, we_neg, we_not, we_ite, we_andv, we_orv, we_and1, we_or1, we_and, we_or, we_tup, we_frz, we_alc, we_blt, we_call, we_meth, we_sl, we_isi, we_isi2, we_dsp, we_newd, wt_val, wt_cmp, wt_not, wt_andv, wt_orv, wt_and1, wt_or1, wt_and, wt_or, wa_nil, wa_cons, wn_disp, wn_lis, wn_comp, wi_rng, wi_enu, wi_one, wo_non, wo_some, ws_nop, ws_nil, ws_brk, ws_cnt, ws_retn, ws_exp, ws_ret, ws_raise, ws_ite, ws_set, ws_set, ws_setcF, ws_setcT, ws_par, ws_put, ws_seq, ws_for, ws_while, ws_try, List.getElem?_cons_zero, List.getElem?_cons_succ, Option.some.injEq, exists_eq_left', exists_eq_left, true_implies, forall_const, Bool.true_eq_false, Bool.false_eq_true, false_implies, and_true, true_and, setT, List.set_cons_zero, List.set_cons_succ, List.length_cons, List.length_nil, setAll, Option.bind_some, asB, Bool.not_true, Bool.not_false, o_add_i, o_add_s, o_add_t, o_add_l, o_sub_i, o_mul_i, o_fdv_i, o_mod_i, o_neg_i, o_lt_i, o_le_i, o_gt_i, o_ge_i, o_is_n, o_isn_n, o_eq_d, o_ne_d, o_in_d, o_nin_d, bx_len, bx_int, bx_min, bx_max, bx_sum, bx_all, bx_any, bx_tuple, b_min_i, b_max_i, b_int_i, b_int_b, b_len_t, b_len_l, b_len_c, b_len_s, b_tup_t, b_tup_l, b_lis_t, b_lis_l, isa_tab, ty_non, ty_bl, ty_int, ty_str, ty_tup, ty_lst, ty_scr, ty_dic, tr_non, tr_bl, tr_int, tr_tup, tr_lst, tr_scr, nm_set, tp_set, ix_t, ix_l, ix_c, at_0, at_1, at_2, at_3, at_m, at_m1, range1, items_t, items_l, items_s, enu_t, enu_l, bel_int, bel_str, bel_bl, bel_non, out_bl, out_int, out_str, out_non, out_nx, mk_ends, mk_join, g_ends, fEq_i, fEq_b, rI_l, rI_d, rS_d, rL_l, r_pop, r_pop1, r_app, rr_q, rr_ix, rr_ixs, rr_len, rr_tup, rr_tru, rr_mkp, rr_mka, rr_pop, rr_app, rr_put, ok_put, out_rt, out_ex, Prod.mk.injEq, exists_eq, exists_and_left, exists_eq', bne_self_eq_false, Int.reduceBNe, Bool.true_and, and_assoc, Rs.ok.injEq, D.tup.injEq, D.bl.injEq, D.int.injEq, List.cons.injEq, enter_bs, D.bel, D.bels, List.cons_append, List.nil_append, startS, List.map_cons, List.map_nil, List.replicate_succ, List.replicate_zero, Nat.reduceSub, Nat.reduceAdd, Bool.or_false, Bool.false_or, Bool.or_true, Bool.true_or, Bool.and_true, Bool.and_false, Bool.true_and, Bool.false_and, if_true, if_false, reduceCtorEq, Bool.not_eq_true, decide_eq_true_eq, decide_eq_false_iff_not, and_self, onok, onokS, onnx, ite_true, ite_false, reduceIte, isInt_b, pl_b, out_exb, tl]), rfl, rfl⟩
  · exact ⟨fun n st => run_to (d := ⟨_, _, _, f_check_held_size⟩) rfl rfl (by simp only [f_check_held_size, b_check_held_size, onok_ok, onok_ex, onokS_ok, onokS_ex, onnx_nx, onnx_rt, onnx_bk, onnx_ct, onnx_ex, wc_ok, we_v, we_c, we_g, we_bin, we_cmp, we_ix, we_neg, we_not, we_ite, we_andv, we_orv, we_and1, we_or1, we_and, we_or, we_tup, we_frz, we_alc, we_blt, we_call, we_meth, we_sl, we_isi, we_isi2, we_dsp, we_newd, wt_val, wt_cmp, wt_not, wt_andv, wt_orv, wt_and1, wt_or1, wt_and, wt_or, wa_nil, wa_cons, wn_disp, wn_lis, wn_comp, wi_rng, wi_enu, wi_one, wo_non, wo_some, ws_nop, ws_nil, ws_brk, ws_cnt, ws_retn, ws_exp, ws_ret, ws_raise, ws_ite, ws_set, ws_set, ws_setcF, ws_setcT, ws_par, ws_put, ws_seq, ws_for, ws_while, ws_try, List.getElem?_cons_zero, List.getElem?_cons_succ, Option.some.injEq, exists_eq_left', exists_eq_left, true_implies, forall_const, Bool.true_eq_false, Bool.false_eq_true, false_implies, and_true, true_and, setT, List.set_cons_zero, List.set_cons_succ, List.length_cons, List.length_nil, setAll, Option.bind_some, asB, Bool.not_true, Bool.not_false, o_add_i, o_add_s, o_add_t, o_add_l, o_sub_i, o_mul_i, o_fdv_i, o_mod_i, o_neg_i, o_lt_i, o_le_i, o_gt_i, o_ge_i, o_is_n, o_isn_n, o_eq_d, o_ne_d, o_in_d, o_nin_d, bx_len, bx_int, bx_min, bx_max, bx_sum, bx_all, bx_any, bx_tuple, b_min_i, b_max_i, b_int_i, b_int_b, b_len_t, b_len_l, b_len_c, b_len_s, b_tup_t, b_tup_l, b_lis_t, b_lis_l, isa_tab, ty_non, ty_bl, ty_int, ty_str, ty_tup, ty_lst, ty_scr, ty_dic, tr_non, tr_bl, tr_int, tr_tup, tr_lst, tr_scr, nm_set, tp_set, ix_t, ix_l, ix_c, at_0, at_1, at_2, at_3, at_m, at_m1, range1, items_t, items_l, items_s, enu_t, enu_l, bel_int, bel_str, bel_bl, bel_non, out_bl, out_int, out_str, out_non, out_nx, mk_ends, mk_join, g_ends, fEq_i, fEq_b, rI_l, rI_d, rS_d, rL_l, r_pop, r_pop1, r_app, rr_q, rr_ix, rr_ixs, rr_len, rr_tup, rr_tru, rr_mkp, rr_mka, rr_pop, rr_app, rr_put, ok_put, out_rt, out_ex, Prod.mk.injEq, exists_eq, exists_and_left, exists_eq', bne_self_eq_false, Int.reduceBNe, Bool.true_and, and_assoc, Rs.ok.injEq, D.tup.injEq, D.bl.injEq, D.int.injEq, List.cons.injEq, enter_bs, D.bel, D.bels, List.cons_append, List.nil_append, startS, List.map_cons, List.map_nil, List.replicate_succ, List.replicate_zero, Nat.reduceSub, Nat.reduceAdd, Bool.or_false, Bool.false_or, Bool.or_true, Bool.true_or, Bool.and_true, Bool.and_false, Bool.true_and, Bool.false_and, if_true, if_false, reduceCtorEq, Bool.not_eq_true, decide_eq_true_eq, decide_eq_false_iff_not, and_self, onok, onokS, onnx, ite_true, ite_false, reduceIte, isInt_n, pl_n, out_exn, tl]), rfl, rfl⟩
  · exact ⟨fun n st => run_to (d := ⟨_, _, _, f_check_held_size⟩) rfl rfl (by simp only [f_check_held_size, b_check_held_size, onok_ok, onok_ex, onokS_ok, onokS_ex, onnx_nx, onnx_rt, onnx_bk, onnx_ct, onnx_ex, wc_ok, we_v, we_c, we_g, we_bin, we_cmp, we_ix, we_neg, we_not, we_ite, we_andv, we_orv, we_and1, we_or1, we_and, we_or, we_tup, we_frz, we_alc, we_blt, we_call, we_meth, we_sl, we_isi, we_isi2, we_dsp, we_newd, wt_val, wt_cmp, wt_not, wt_andv, wt_orv, wt_and1, wt_or1, wt_and, wt_or, wa_nil, wa_cons, wn_disp, wn_lis, wn_comp, wi_rng, wi_enu, wi_one, wo_non, wo_some, ws_nop, ws_nil, ws_brk, ws_cnt, ws_retn, ws_exp, ws_ret, ws_raise, ws_ite, ws_set, ws_set, ws_setcF, ws_setcT, ws_par, ws_put, ws_seq, ws_for, ws_while, ws_try, List.getElem?_cons_zero, List.getElem?_cons_succ, Option.some.injEq, exists_eq_left', exists_eq_left, true_implies, forall_const, Bool.true_eq_false, Bool.false_eq_true, false_implies, and_true, true_and, setT, List.set_cons_zero, List.set_cons_succ, List.length_cons, List.length_nil, setAll, Option.bind_some, asB, Bool.not_true, Bool.not_false, o_add_i, o_add_s, o_add_t, o_add_l, o_sub_i, o_mul_i, o_fdv_i, o_mod_i, o_neg_i, o_lt_i, o_le_i, o_gt_i, o_ge_i, o_is_n, o_isn_n, o_eq_d, o_ne_d, o_in_d, o_nin_d, bx_len, bx_int, bx_min, bx_max, bx_sum, bx_all, bx_any, bx_tuple, b_min_i, b_max_i, b_int_i, b_int_b, b_len_t, b_len_l, b_len_c, b_len_s, b_tup_t, b_tup_l, b_lis_t, b_lis_l, isa_tab, ty_non, ty_bl, ty_int, ty_str, ty_tup, ty_lst, ty_scr, ty_dic, tr_non, tr_bl, tr_int, tr_tup, tr_lst, tr_scr, nm_set, tp_set, ix_t, ix_l, ix_c, at_0, at_1, at_2, at_3, at_m, at_m1, range1, items_t, items_l, items_s, enu_t, enu_l, bel_int, bel_str, bel_bl, bel_non, out_bl, out_int, out_str, out_non, out_nx, mk_ends, mk_join, g_ends, fEq_i, fEq_b, rI_l, rI_d, rS_d, rL_l, r_pop, r_pop1, r_app, rr_q, rr_ix, rr_ixs, rr_len, rr_tup, rr_tru, rr_mkp, rr_mka, rr_pop, rr_app, rr_put, ok_put, out_rt, out_ex, Prod.mk.injEq, exists_eq, exists_and_left, exists_eq', bne_self_eq_false, Int.reduceBNe, Bool.true_and, and_assoc, Rs.ok.injEq, D.tup.injEq, D.bl.injEq, D.int.injEq, List.cons.injEq, enter_bs, D.bel, D.bels, List.cons_append, List.nil_append, startS, List.map_cons, List.map_nil, List.replicate_succ, List.replicate_zero, Nat.reduceSub, Nat.reduceAdd, Bool.or_false, Bool.false_or, Bool.or_true, Bool.true_or, Bool.and_true, Bool.and_false, Bool.true_and, Bool.false_and, if_true, if_false, reduceCtorEq, Bool.not_eq_true, decide_eq_true_eq, decide_eq_false_iff_not, and_self, onok, onokS, onnx, ite_true, ite_false, reduceIte, isInt_s, pl_s, out_exs, tl]), rfl, by decide +kernel⟩
  · exact ⟨fun n st => run_to (d := ⟨_, _, _, f_check_held_size⟩) rfl rfl (by simp only [f_check_held_size, b_check_held_size, onok_ok, onok_ex, onokS_ok, onokS_ex, onnx_nx, onnx_rt, onnx_bk, onnx_ct, onnx_ex, wc_ok, we_v, we_c, we_g, we_bin, we_cmp, we_ix, we_neg, we_not, we_ite, we_andv, we_orv, we_and1, we_or1, we_and, we_or, we_tup, we_frz, we_alc, we_blt, we_call, we_meth, we_sl, we_isi, we_isi2, we_dsp, we_newd, wt_val, wt_cmp, wt_not, wt_andv, wt_orv, wt_and1, wt_or1, wt_and, wt_or, wa_nil, wa_cons, wn_disp, wn_lis, wn_comp, wi_rng, wi_enu, wi_one, wo_non, wo_some, ws_nop, ws_nil, ws_brk, ws_cnt, ws_retn, ws_exp, ws_ret, ws_raise, ws_ite, ws_set, ws_set, ws_setcF, ws_setcT, ws_par, ws_put, ws_seq, ws_for, ws_while, ws_try, List.getElem?_cons_zero, List.getElem?_cons_succ, Option.some.injEq, exists_eq_left', exists_eq_left, true_implies, forall_const, Bool.true_eq_false, Bool.false_eq_true, false_implies, and_true, true_and, setT, List.set_cons_zero, List.set_cons_succ, List.length_cons, List.length_nil, setAll, Option.bind_some, asB, Bool.not_true, Bool.not_false, o_add_i, o_add_s, o_add_t, o_add_l, o_sub_i, o_mul_i, o_fdv_i, o_mod_i, o_neg_i, o_lt_i, o_le_i, o_gt_i, o_ge_i, o_is_n, o_isn_n, o_eq_d, o_ne_d, o_in_d, o_nin_d, bx_len, bx_int, bx_min, bx_max, bx_sum, bx_all, bx_any, bx_tuple, b_min_i, b_max_i, b_int_i, b_int_b, b_len_t, b_len_l, b_len_c, b_len_s, b_tup_t, b_tup_l, b_lis_t, b_lis_l, isa_tab, ty_non, ty_bl, ty_int, ty_str, ty_tup, ty_lst, ty_scr, ty_dic, tr_non, tr_bl, tr_int, tr_tup, tr_lst, tr_scr, nm_set, tp_set, ix_t, ix_l, ix_c, at_0, at_1, at_2, at_3, at_m, at_m1, range1, items_t, items_l, items_s, enu_t, enu_l, bel_int, bel_str, bel_bl, bel_non, out_bl, out_int, out_str, out_non, out_nx, mk_ends, mk_join, g_ends, fEq_i, fEq_b, rI_l, rI_d, rS_d, rL_l, r_pop, r_pop1, r_app, rr_q, rr_ix, rr_ixs, rr_len, rr_tup, rr_tru, rr_mkp, rr_mka, rr_pop, rr_app, rr_put, ok_put, out_rt, out_ex, Prod.mk.injEq, exists_eq, exists_and_left, exists_eq', bne_self_eq_false, Int.reduceBNe, Bool.true_and, and_assoc, Rs.ok.injEq, D.tup.injEq, D.bl.injEq, D.int.injEq, List.cons.injEq, enter_bs, D.bel, D.bels, List.cons_append, List.nil_append, startS, List.map_cons, List.map_nil, List.replicate_succ, List.replicate_zero, Nat.reduceSub, Nat.reduceAdd, Bool.or_false, Bool.false_or, Bool.or_true, Bool.true_or, Bool.and_true, Bool.and_false, Bool.true_and, Bool.false_and, if_true, if_false, reduceCtorEq, Bool.not_eq_true, decide_eq_true_eq, decide_eq_false_iff_not, and_self, onok, onokS, onnx, ite_true, ite_false, reduceIte, isInt_l, pl_0, out_ex, tl]), rfl, rfl⟩
end K00

set_option Elab.async false
set_option linter.all false
set_option maxRecDepth 100000
set_option maxHeartbeats 0
namespace K00
open PySem Hb L2
theorem out_exT {st : Sto} {c : Nat} {b : D} (h : (tl b).bel 0 = true) : outF false st st.enter (.ex c (tl b)) = some (.ex c (tl b), st) := out_ex h
theorem check_hold_no (n : Nat) {b : D} (h : BH b) (st : Sto) : md.call (n + 3) 6 [b] st = some (.ex 3 (tl b), st) := by
  refine run_to (d := ⟨_, _, _, f_check_hold⟩) rfl rfl ?_
  simp only [f_check_hold, b_check_hold, onok_ok, onok_ex, onokS_ok, onokS_ex, onnx_nx, onnx_rt, onnx_bk, onnx_ct, onnx_ex, wc_ok, we_v, we_c, we_g, we_bin, we_cmp, we_ix, we_neg, we_not, we_ite, we_andv, we_orv, we_and1, we_or1, we_and, we_or, we_tup, we_frz, we_alc, we_blt, we_call, we_meth, we_sl, we_isi, we_isi2, we_dsp, we_newd, wt_val, wt_cmp, wt_not, wt_andv, wt_orv, wt_and1, wt_or1, wt_and, wt_or, wa_nil, wa_cons, wn_disp, wn_lis, wn_comp, wi_rng, wi_enu, wi_one, wo_non, wo_some, ws_nop, ws_nil, ws_brk, ws_cnt, ws_retn, ws_exp, ws_ret, ws_raise, ws_ite, ws_set, ws_set, ws_setcF, ws_setcT, ws_par, ws_put, ws_seq, ws_for, ws_while, ws_try, List.getElem?_cons_zero, List.getElem?_cons_succ, Option.some.injEq, exists_eq_left', exists_eq_left, true_implies, forall_const, Bool.true_eq_false, Bool.false_eq_true, false_implies, and_true, true_and, setT, List.set_cons_zero, List.set_cons_succ, List.length_cons, List.length_nil, setAll, Option.bind_some, asB, Bool.not_true, Bool.not_false, o_add_i, o_add_s, o_add_t, o_add_l, o_sub_i, o_mul_i, o_fdv_i, o_mod_i, o_neg_i, o_lt_i, o_le_i, o_gt_i, o_ge_i, o_is_n, o_isn_n, o_eq_d, o_ne_d, o_in_d, o_nin_d, bx_len, bx_int, bx_min, bx_max, bx_sum, bx_all, bx_any, bx_tuple, b_min_i, b_max_i, b_int_i, b_int_b, b_len_t, b_len_l, b_len_c, b_len_s, b_tup_t, b_tup_l, b_lis_t, b_lis_l, isa_tab, ty_non, ty_bl, ty_int, ty_str, ty_tup, ty_lst, ty_scr, ty_dic, tr_non, tr_bl, tr_int, tr_tup, tr_lst, tr_scr, nm_set, tp_set, ix_t, ix_l, ix_c, at_0, at_1, at_2, at_3, at_m, at_m1, range1, items_t, items_l, items_s, enu_t, enu_l, bel_int, bel_str, bel_bl, bel_non, out_bl, out_int, out_str, out_non, out_nx, mk_ends, mk_join, g_ends, fEq_i, fEq_b, rI_l, rI_d, rS_d, rL_l, r_pop, r_pop1, r_app, rr_q, rr_ix, rr_ixs, rr_len, rr_tup, rr_tru, rr_mkp, rr_mka, rr_pop, rr_app, rr_put, ok_put, out_rt, out_ex, Prod.mk.injEq, exists_eq, exists_and_left, exists_eq', bne_self_eq_false, Int.reduceBNe, Bool.true_and, and_assoc, Rs.ok.injEq, D.tup.injEq, D.bl.injEq, D.int.injEq, List.cons.injEq, enter_bs, D.bel, D.bels, List.cons_append, List.nil_append, startS, List.map_cons, List.map_nil, List.replicate_succ, List.replicate_zero, Nat.reduceSub, Nat.reduceAdd, Bool.or_false, Bool.false_or, Bool.or_true, Bool.true_or, Bool.and_true, Bool.and_false, Bool.true_and, Bool.false_and, if_true, if_false, reduceCtorEq, Bool.not_eq_true, decide_eq_true_eq, decide_eq_false_iff_not, and_self, onok, onokS, onnx, ite_true, ite_false, reduceIte, h.hold, h.plain, out_exT h.bel]
theorem check_text_no (n : Nat) {b : D} (h : BT b) (st : Sto) : md.call (n + 3) 5 [b] st = some (.ex 1 (tl b), st) := by
  refine run_to (d := ⟨_, _, _, f_check_text⟩) rfl rfl ?_
  simp only [f_check_text, b_check_text, onok_ok, onok_ex, onokS_ok, onokS_ex, onnx_nx, onnx_rt, onnx_bk, onnx_ct, onnx_ex, wc_ok, we_v, we_c, we_g, we_bin, we_cmp, we_ix, we_neg, we_not, we_ite, we_andv, we_orv, we_and1, we_or1, we_and, we_or, we_tup, we_frz, we_alc, we_blt, we_call, we_meth, we_sl, we_isi, we_isi2, we_dsp, we_newd, wt_val, wt_cmp, wt_not, wt_andv, wt_orv, wt_and1, wt_or1, wt_and, wt_or, wa_nil, wa_cons, wn_disp, wn_lis, wn_comp, wi_rng, wi_enu, wi_one, wo_non, wo_some, ws_nop, ws_nil, ws_brk, ws_cnt, ws_retn, ws_exp, ws_ret, ws_raise, ws_ite, ws_set, ws_set, ws_setcF, ws_setcT, ws_par, ws_put, ws_seq, ws_for, ws_while, ws_try, List.getElem?_cons_zero, List.getElem?_cons_succ, Option.some.injEq, exists_eq_left', exists_eq_left, true_implies, forall_const, Bool.true_eq_false, Bool.false_eq_true, false_implies, and_true, true_and, setT, List.set_cons_zero, List.set_cons_succ, List.length_cons, List.length_nil, setAll, Option.bind_some, asB, Bool.not_true, Bool.not_false, o_add_i, o_add_s, o_add_t, o_add_l, o_sub_i, o_mul_i, o_fdv_i, o_mod_i, o_neg_i, o_lt_i, o_le_i, o_gt_i, o_ge_i, o_is_n, o_isn_n, o_eq_d, o_ne_d, o_in_d, o_nin_d, bx_len, bx_int, bx_min, bx_max, bx_sum, bx_all, bx_any, bx_tuple, b_min_i, b_max_i, b_int_i, b_int_b, b_len_t, b_len_l, b_len_c, b_len_s, b_tup_t, b_tup_l, b_lis_t, b_lis_l, isa_tab, ty_non, ty_bl, ty_int, ty_str, ty_tup, ty_lst, ty_scr, ty_dic, tr_non, tr_bl, tr_int, tr_tup, tr_lst, tr_scr, nm_set, tp_set, ix_t, ix_l, ix_c, at_0, at_1, at_2, at_3, at_m, at_m1, range1, items_t, items_l, items_s, enu_t, enu_l, bel_int, bel_str, bel_bl, bel_non, out_bl, out_int, out_str, out_non, out_nx, mk_ends, mk_join, g_ends, fEq_i, fEq_b, rI_l, rI_d, rS_d, rL_l, r_pop, r_pop1, r_app, rr_q, rr_ix, rr_ixs, rr_len, rr_tup, rr_tru, rr_mkp, rr_mka, rr_pop, rr_app, rr_put, ok_put, out_rt, out_ex, Prod.mk.injEq, exists_eq, exists_and_left, exists_eq', bne_self_eq_false, Int.reduceBNe, Bool.true_and, and_assoc, Rs.ok.injEq, D.tup.injEq, D.bl.injEq, D.int.injEq, List.cons.injEq, enter_bs, D.bel, D.bels, List.cons_append, List.nil_append, startS, List.map_cons, List.map_nil, List.replicate_succ, List.replicate_zero, Nat.reduceSub, Nat.reduceAdd, Bool.or_false, Bool.false_or, Bool.or_true, Bool.true_or, Bool.and_true, Bool.and_false, Bool.true_and, Bool.false_and, if_true, if_false, reduceCtorEq, Bool.not_eq_true, decide_eq_true_eq, decide_eq_false_iff_not, and_self, onok, onokS, onnx, ite_true, ite_false, reduceIte, h.text, h.plain, out_exT h.bel]
theorem said_H (n : Nat) {b : D} (h : BH b) (y z : D) (st : Sto) : md.call (n + 4) 15 [b, y, z] st = some (.ex 3 (tl b), st) := by
  refine run_to (d := ⟨_, _, _, f_said⟩) rfl rfl ?_
  simp only [f_said, b_said, onok_ok, onok_ex, onokS_ok, onokS_ex, onnx_nx, onnx_rt, onnx_bk, onnx_ct, onnx_ex, wc_ok, we_v, we_c, we_g, we_bin, we_cmp, we_ix, we_neg, we_not, we_ite, we_andv, we_orv, we_and1, we_or1, we_and, we_or, we_tup, we_frz, we_alc, we_blt, we_call, we_meth, we_sl, we_isi, we_isi2, we_dsp, we_newd, wt_val, wt_cmp, wt_not, wt_andv, wt_orv, wt_and1, wt_or1, wt_and, wt_or, wa_nil, wa_cons, wn_disp, wn_lis, wn_comp, wi_rng, wi_enu, wi_one, wo_non, wo_some, ws_nop, ws_nil, ws_brk, ws_cnt, ws_retn, ws_exp, ws_ret, ws_raise, ws_ite, ws_set, ws_set, ws_setcF, ws_setcT, ws_par, ws_put, ws_seq, ws_for, ws_while, ws_try, List.getElem?_cons_zero, List.getElem?_cons_succ, Option.some.injEq, exists_eq_left', exists_eq_left, true_implies, forall_const, Bool.true_eq_false, Bool.false_eq_true, false_implies, and_true, true_and, setT, List.set_cons_zero, List.set_cons_succ, List.length_cons, List.length_nil, setAll, Option.bind_some, asB, Bool.not_true, Bool.not_false, o_add_i, o_add_s, o_add_t, o_add_l, o_sub_i, o_mul_i, o_fdv_i, o_mod_i, o_neg_i, o_lt_i, o_le_i, o_gt_i, o_ge_i, o_is_n, o_isn_n, o_eq_d, o_ne_d, o_in_d, o_nin_d, bx_len, bx_int, bx_min, bx_max, bx_sum, bx_all, bx_any, bx_tuple, b_min_i, b_max_i, b_int_i, b_int_b, b_len_t, b_len_l, b_len_c, b_len_s, b_tup_t, b_tup_l, b_lis_t, b_lis_l, isa_tab, ty_non, ty_bl, ty_int, ty_str, ty_tup, ty_lst, ty_scr, ty_dic, tr_non, tr_bl, tr_int, tr_tup, tr_lst, tr_scr, nm_set, tp_set, ix_t, ix_l, ix_c, at_0, at_1, at_2, at_3, at_m, at_m1, range1, items_t, items_l, items_s, enu_t, enu_l, bel_int, bel_str, bel_bl, bel_non, out_bl, out_int, out_str, out_non, out_nx, mk_ends, mk_join, g_ends, fEq_i, fEq_b, rI_l, rI_d, rS_d, rL_l, r_pop, r_pop1, r_app, rr_q, rr_ix, rr_ixs, rr_len, rr_tup, rr_tru, rr_mkp, rr_mka, rr_pop, rr_app, rr_put, ok_put, out_rt, out_ex, Prod.mk.injEq, exists_eq, exists_and_left, exists_eq', bne_self_eq_false, Int.reduceBNe, Bool.true_and, and_assoc, Rs.ok.injEq, D.tup.injEq, D.bl.injEq, D.int.injEq, List.cons.injEq, enter_bs, D.bel, D.bels, List.cons_append, List.nil_append, startS, List.map_cons, List.map_nil, List.replicate_succ, List.replicate_zero, Nat.reduceSub, Nat.reduceAdd, Bool.or_false, Bool.false_or, Bool.or_true, Bool.true_or, Bool.and_true, Bool.and_false, Bool.true_and, Bool.false_and, if_true, if_false, reduceCtorEq, Bool.not_eq_true, decide_eq_true_eq, decide_eq_false_iff_not, and_self, onok, onokS, onnx, ite_true, ite_false, reduceIte, check_hold_no _ h, out_exT h.bel]
theorem said_K (n : Nat) (ho : Ho) (hh : ho.Ok) {b : D} (h : BK ho b) (z : D) (st : Sto) : md.call (n + 4) 15 [ho.d, b, z] st = some (.ex 2 (tl b), st) := by
  refine run_to (d := ⟨_, _, _, f_said⟩) rfl rfl ?_
  simp only [f_said, b_said, onok_ok, onok_ex, onokS_ok, onokS_ex, onnx_nx, onnx_rt, onnx_bk, onnx_ct, onnx_ex, wc_ok, we_v, we_c, we_g, we_bin, we_cmp, we_ix, we_neg, we_not, we_ite, we_andv, we_orv, we_and1, we_or1, we_and, we_or, we_tup, we_frz, we_alc, we_blt, we_call, we_meth, we_sl, we_isi, we_isi2, we_dsp, we_newd, wt_val, wt_cmp, wt_not, wt_andv, wt_orv, wt_and1, wt_or1, wt_and, wt_or, wa_nil, wa_cons, wn_disp, wn_lis, wn_comp, wi_rng, wi_enu, wi_one, wo_non, wo_some, ws_nop, ws_nil, ws_brk, ws_cnt, ws_retn, ws_exp, ws_ret, ws_raise, ws_ite, ws_set, ws_set, ws_setcF, ws_setcT, ws_par, ws_put, ws_seq, ws_for, ws_while, ws_try, List.getElem?_cons_zero, List.getElem?_cons_succ, Option.some.injEq, exists_eq_left', exists_eq_left, true_implies, forall_const, Bool.true_eq_false, Bool.false_eq_true, false_implies, and_true, true_and, setT, List.set_cons_zero, List.set_cons_succ, List.length_cons, List.length_nil, setAll, Option.bind_some, asB, Bool.not_true, Bool.not_false, o_add_i, o_add_s, o_add_t, o_add_l, o_sub_i, o_mul_i, o_fdv_i, o_mod_i, o_neg_i, o_lt_i, o_le_i, o_gt_i, o_ge_i, o_is_n, o_isn_n, o_eq_d, o_ne_d, o_in_d, o_nin_d, bx_len, bx_int, bx_min, bx_max, bx_sum, bx_all, bx_any, bx_tuple, b_min_i, b_max_i, b_int_i, b_int_b, b_len_t, b_len_l, b_len_c, b_len_s, b_tup_t, b_tup_l, b_lis_t, b_lis_l, isa_tab, ty_non, ty_bl, ty_int, ty_str, ty_tup, ty_lst, ty_scr, ty_dic, tr_non, tr_bl, tr_int, tr_tup, tr_lst, tr_scr, nm_set, tp_set, ix_t, ix_l, ix_c, at_0, at_1, at_2, at_3, at_m, at_m1, range1, items_t, items_l, items_s, enu_t, enu_l, bel_int, bel_str, bel_bl, bel_non, out_bl, out_int, out_str, out_non, out_nx, mk_ends, mk_join, g_ends, fEq_i, fEq_b, rI_l, rI_d, rS_d, rL_l, r_pop, r_pop1, r_app, rr_q, rr_ix, rr_ixs, rr_len, rr_tup, rr_tru, rr_mkp, rr_mka, rr_pop, rr_app, rr_put, ok_put, out_rt, out_ex, Prod.mk.injEq, exists_eq, exists_and_left, exists_eq', bne_self_eq_false, Int.reduceBNe, Bool.true_and, and_assoc, Rs.ok.injEq, D.tup.injEq, D.bl.injEq, D.int.injEq, List.cons.injEq, enter_bs, D.bel, D.bels, List.cons_append, List.nil_append, startS, List.map_cons, List.map_nil, List.replicate_succ, List.replicate_zero, Nat.reduceSub, Nat.reduceAdd, Bool.or_false, Bool.false_or, Bool.or_true, Bool.true_or, Bool.and_true, Bool.and_false, Bool.true_and, Bool.false_and, if_true, if_false, reduceCtorEq, Bool.not_eq_true, decide_eq_true_eq, decide_eq_false_iff_not, and_self, onok, onokS, onnx, ite_true, ite_false, reduceIte, c_check_hold _ _ hh, h.held, out_exT h.bel]
theorem may0 (ho : Ho) (hh : ho.Ok) : ho.may 0 := by
  cases ho with
  | en => exact Int.le_refl 0
  | i m => exact ⟨by omega, by have : 1 ≤ m := hh; show (0 : Int) ≤ m - 1; omega⟩
  | t m => exact ⟨by omega, by have : 1 ≤ m := hh; show (0 : Int) ≤ m - 1; omega⟩
  | l m => exact ⟨by omega, by have : 1 ≤ m := hh; show (0 : Int) ≤ m - 1; omega⟩
theorem said_T (n : Nat) (ho : Ho) (hh : ho.Ok) {b : D} (h : BT b) (st : Sto) : md.call (n + 4) 15 [ho.d, .int 0, b] st = some (.ex 1 (tl b), st) := by
  refine run_to (d := ⟨_, _, _, f_said⟩) rfl rfl ?_
  simp only [f_said, b_said, onok_ok, onok_ex, onokS_ok, onokS_ex, onnx_nx, onnx_rt, onnx_bk, onnx_ct, onnx_ex, wc_ok, we_v, we_c, we_g, we_bin, we_cmp, we_ix, we_neg, we_not, we_ite, we_andv, we_orv, we_and1, we_or1, we_and, we_or, we_tup, we_frz, we_alc, we_blt, we_call, we_meth, we_sl, we_isi, we_isi2, we_dsp, we_newd, wt_val, wt_cmp, wt_not, wt_andv, wt_orv, wt_and1, wt_or1, wt_and, wt_or, wa_nil, wa_cons, wn_disp, wn_lis, wn_comp, wi_rng, wi_enu, wi_one, wo_non, wo_some, ws_nop, ws_nil, ws_brk, ws_cnt, ws_retn, ws_exp, ws_ret, ws_raise, ws_ite, ws_set, ws_set, ws_setcF, ws_setcT, ws_par, ws_put, ws_seq, ws_for, ws_while, ws_try, List.getElem?_cons_zero, List.getElem?_cons_succ, Option.some.injEq, exists_eq_left', exists_eq_left, true_implies, forall_const, Bool.true_eq_false, Bool.false_eq_true, false_implies, and_true, true_and, setT, List.set_cons_zero, List.set_cons_succ, List.length_cons, List.length_nil, setAll, Option.bind_some, asB, Bool.not_true, Bool.not_false, o_add_i, o_add_s, o_add_t, o_add_l, o_sub_i, o_mul_i, o_fdv_i, o_mod_i, o_neg_i, o_lt_i, o_le_i, o_gt_i, o_ge_i, o_is_n, o_isn_n, o_eq_d, o_ne_d, o_in_d, o_nin_d, bx_len, bx_int, bx_min, bx_max, bx_sum, bx_all, bx_any, bx_tuple, b_min_i, b_max_i, b_int_i, b_int_b, b_len_t, b_len_l, b_len_c, b_len_s, b_tup_t, b_tup_l, b_lis_t, b_lis_l, isa_tab, ty_non, ty_bl, ty_int, ty_str, ty_tup, ty_lst, ty_scr, ty_dic, tr_non, tr_bl, tr_int, tr_tup, tr_lst, tr_scr, nm_set, tp_set, ix_t, ix_l, ix_c, at_0, at_1, at_2, at_3, at_m, at_m1, range1, items_t, items_l, items_s, enu_t, enu_l, bel_int, bel_str, bel_bl, bel_non, out_bl, out_int, out_str, out_non, out_nx, mk_ends, mk_join, g_ends, fEq_i, fEq_b, rI_l, rI_d, rS_d, rL_l, r_pop, r_pop1, r_app, rr_q, rr_ix, rr_ixs, rr_len, rr_tup, rr_tru, rr_mkp, rr_mka, rr_pop, rr_app, rr_put, ok_put, out_rt, out_ex, Prod.mk.injEq, exists_eq, exists_and_left, exists_eq', bne_self_eq_false, Int.reduceBNe, Bool.true_and, and_assoc, Rs.ok.injEq, D.tup.injEq, D.bl.injEq, D.int.injEq, List.cons.injEq, enter_bs, D.bel, D.bels, List.cons_append, List.nil_append, startS, List.map_cons, List.map_nil, List.replicate_succ, List.replicate_zero, Nat.reduceSub, Nat.reduceAdd, Bool.or_false, Bool.false_or, Bool.or_true, Bool.true_or, Bool.and_true, Bool.and_false, Bool.true_and, Bool.false_and, if_true, if_false, reduceCtorEq, Bool.not_eq_true, decide_eq_true_eq, decide_eq_false_iff_not, and_self, onok, onokS, onnx, ite_true, ite_false, reduceIte, c_check_hold _ _ hh, c_check_held _ _ _ (may0 ho hh), check_text_no _ h, out_exT h.bel]
theorem row_H (n : Nat) {b : D} (h : BH b) (y z : D) (st : Sto) : md.call (n + 4) 16 [b, y, z] st = some (.ex 3 (tl b), st) := by
  refine run_to (d := ⟨_, _, _, f_said_row⟩) rfl rfl ?_
  simp only [f_said_row, b_said_row, onok_ok, onok_ex, onokS_ok, onokS_ex, onnx_nx, onnx_rt, onnx_bk, onnx_ct, onnx_ex, wc_ok, we_v, we_c, we_g, we_bin, we_cmp, we_ix, we_neg, we_not, we_ite, we_andv, we_orv, we_and1, we_or1, we_and, we_or, we_tup, we_frz, we_alc, we_blt, we_call, we_meth, we_sl, we_isi, we_isi2, we_dsp, we_newd, wt_val, wt_cmp, wt_not, wt_andv, wt_orv, wt_and1, wt_or1, wt_and, wt_or, wa_nil, wa_cons, wn_disp, wn_lis, wn_comp, wi_rng, wi_enu, wi_one, wo_non, wo_some, ws_nop, ws_nil, ws_brk, ws_cnt, ws_retn, ws_exp, ws_ret, ws_raise, ws_ite, ws_set, ws_set, ws_setcF, ws_setcT, ws_par, ws_put, ws_seq, ws_for, ws_while, ws_try, List.getElem?_cons_zero, List.getElem?_cons_succ, Option.some.injEq, exists_eq_left', exists_eq_left, true_implies, forall_const, Bool.true_eq_false, Bool.false_eq_true, false_implies, and_true, true_and, setT, List.set_cons_zero, List.set_cons_succ, List.length_cons, List.length_nil, setAll, Option.bind_some, asB, Bool.not_true, Bool.not_false, o_add_i, o_add_s, o_add_t, o_add_l, o_sub_i, o_mul_i, o_fdv_i, o_mod_i, o_neg_i, o_lt_i, o_le_i, o_gt_i, o_ge_i, o_is_n, o_isn_n, o_eq_d, o_ne_d, o_in_d, o_nin_d, bx_len, bx_int, bx_min, bx_max, bx_sum, bx_all, bx_any, bx_tuple, b_min_i, b_max_i, b_int_i, b_int_b, b_len_t, b_len_l, b_len_c, b_len_s, b_tup_t, b_tup_l, b_lis_t, b_lis_l, isa_tab, ty_non, ty_bl, ty_int, ty_str, ty_tup, ty_lst, ty_scr, ty_dic, tr_non, tr_bl, tr_int, tr_tup, tr_lst, tr_scr, nm_set, tp_set, ix_t, ix_l, ix_c, at_0, at_1, at_2, at_3, at_m, at_m1, range1, items_t, items_l, items_s, enu_t, enu_l, bel_int, bel_str, bel_bl, bel_non, out_bl, out_int, out_str, out_non, out_nx, mk_ends, mk_join, g_ends, fEq_i, fEq_b, rI_l, rI_d, rS_d, rL_l, r_pop, r_pop1, r_app, rr_q, rr_ix, rr_ixs, rr_len, rr_tup, rr_tru, rr_mkp, rr_mka, rr_pop, rr_app, rr_put, ok_put, out_rt, out_ex, Prod.mk.injEq, exists_eq, exists_and_left, exists_eq', bne_self_eq_false, Int.reduceBNe, Bool.true_and, and_assoc, Rs.ok.injEq, D.tup.injEq, D.bl.injEq, D.int.injEq, List.cons.injEq, enter_bs, D.bel, D.bels, List.cons_append, List.nil_append, startS, List.map_cons, List.map_nil, List.replicate_succ, List.replicate_zero, Nat.reduceSub, Nat.reduceAdd, Bool.or_false, Bool.false_or, Bool.or_true, Bool.true_or, Bool.and_true, Bool.and_false, Bool.true_and, Bool.false_and, if_true, if_false, reduceCtorEq, Bool.not_eq_true, decide_eq_true_eq, decide_eq_false_iff_not, and_self, onok, onokS, onnx, ite_true, ite_false, reduceIte, check_hold_no _ h, out_exT h.bel]
theorem row_K (n : Nat) (ho : Ho) (hh : ho.Ok) {b : D} (h : BK ho b) (z : D) (st : Sto) : md.call (n + 4) 16 [ho.d, b, z] st = some (.ex 2 (tl b), st) := by
  refine run_to (d := ⟨_, _, _, f_said_row⟩) rfl rfl ?_
  simp only [f_said_row, b_said_row, onok_ok, onok_ex, onokS_ok, onokS_ex, onnx_nx, onnx_rt, onnx_bk, onnx_ct, onnx_ex, wc_ok, we_v, we_c, we_g, we_bin, we_cmp, we_ix, we_neg, we_not, we_ite, we_andv, we_orv, we_and1, we_or1, we_and, we_or, we_tup, we_frz, we_alc, we_blt, we_call, we_meth, we_sl, we_isi, we_isi2, we_dsp, we_newd, wt_val, wt_cmp, wt_not, wt_andv, wt_orv, wt_and1, wt_or1, wt_and, wt_or, wa_nil, wa_cons, wn_disp, wn_lis, wn_comp, wi_rng, wi_enu, wi_one, wo_non, wo_some, ws_nop, ws_nil, ws_brk, ws_cnt, ws_retn, ws_exp, ws_ret, ws_raise, ws_ite, ws_set, ws_set, ws_setcF, ws_setcT, ws_par, ws_put, ws_seq, ws_for, ws_while, ws_try, List.getElem?_cons_zero, List.getElem?_cons_succ, Option.some.injEq, exists_eq_left', exists_eq_left, true_implies, forall_const, Bool.true_eq_false, Bool.false_eq_true, false_implies, and_true, true_and, setT, List.set_cons_zero, List.set_cons_succ, List.length_cons, List.length_nil, setAll, Option.bind_some, asB, Bool.not_true, Bool.not_false, o_add_i, o_add_s, o_add_t, o_add_l, o_sub_i, o_mul_i, o_fdv_i, o_mod_i, o_neg_i, o_lt_i, o_le_i, o_gt_i, o_ge_i, o_is_n, o_isn_n, o_eq_d, o_ne_d, o_in_d, o_nin_d, bx_len, bx_int, bx_min, bx_max, bx_sum, bx_all, bx_any, bx_tuple, b_min_i, b_max_i, b_int_i, b_int_b, b_len_t, b_len_l, b_len_c, b_len_s, b_tup_t, b_tup_l, b_lis_t, b_lis_l, isa_tab, ty_non, ty_bl, ty_int, ty_str, ty_tup, ty_lst, ty_scr, ty_dic, tr_non, tr_bl, tr_int, tr_tup, tr_lst, tr_scr, nm_set, tp_set, ix_t, ix_l, ix_c, at_0, at_1, at_2, at_3, at_m, at_m1, range1, items_t, items_l, items_s, enu_t, enu_l, bel_int, bel_str, bel_bl, bel_non, out_bl, out_int, out_str, out_non, out_nx, mk_ends, mk_join, g_ends, fEq_i, fEq_b, rI_l, rI_d, rS_d, rL_l, r_pop, r_pop1, r_app, rr_q, rr_ix, rr_ixs, rr_len, rr_tup, rr_tru, rr_mkp, rr_mka, rr_pop, rr_app, rr_put, ok_put, out_rt, out_ex, Prod.mk.injEq, exists_eq, exists_and_left, exists_eq', bne_self_eq_false, Int.reduceBNe, Bool.true_and, and_assoc, Rs.ok.injEq, D.tup.injEq, D.bl.injEq, D.int.injEq, List.cons.injEq, enter_bs, D.bel, D.bels, List.cons_append, List.nil_append, startS, List.map_cons, List.map_nil, List.replicate_succ, List.replicate_zero, Nat.reduceSub, Nat.reduceAdd, Bool.or_false, Bool.false_or, Bool.or_true, Bool.true_or, Bool.and_true, Bool.and_false, Bool.true_and, Bool.false_and, if_true, if_false, reduceCtorEq, Bool.not_eq_true, decide_eq_true_eq, decide_eq_false_iff_not, and_self, onok, onokS, onnx, ite_true, ite_false, reduceIte, c_check_hold _ _ hh, h.held, out_exT h.bel]
theorem texts_no (n : Nat) (ws : List Wd) (hw : ∀ w ∈ ws, w.Ok) {b : D} (h : BT b) (ys : List D) (st : Sto) : md.call (n + 2) 7 [.lst (ws.map strD ++ b :: ys)] st = some (.ex 4 (.int (ws.length : Nat)), st) := by
  refine run_to (d := ⟨_, _, _, f_check_texts⟩) rfl rfl ?_
  simp only [f_check_texts, b_check_texts, onok_ok, onok_ex, onokS_ok, onokS_ex, onnx_nx, onnx_rt, onnx_bk, onnx_ct, onnx_ex, wc_ok, we_v, we_c, we_g, we_bin, we_cmp, we_ix, we_neg, we_not, we_ite, we_andv, we_orv, we_and1, we_or1, we_and, we_or, we_tup, we_frz, we_alc, we_blt, we_call, we_meth, we_sl, we_isi, we_isi2, we_dsp, we_newd, wt_val, wt_cmp, wt_not, wt_andv, wt_orv, wt_and1, wt_or1, wt_and, wt_or, wa_nil, wa_cons, wn_disp, wn_lis, wn_comp, wi_rng, wi_enu, wi_one, wo_non, wo_some, ws_nop, ws_nil, ws_brk, ws_cnt, ws_retn, ws_exp, ws_ret, ws_raise, ws_ite, ws_set, ws_set, ws_setcF, ws_setcT, ws_par, ws_put, ws_seq, ws_for, ws_while, ws_try, List.getElem?_cons_zero, List.getElem?_cons_succ, Option.some.injEq, exists_eq_left', exists_eq_left, true_implies, forall_const, Bool.true_eq_false, Bool.false_eq_true, false_implies, and_true, true_and, setT, List.set_cons_zero, List.set_cons_succ, List.length_cons, List.length_nil, setAll, Option.bind_some, asB, Bool.not_true, Bool.not_false, o_add_i, o_add_s, o_add_t, o_add_l, o_sub_i, o_mul_i, o_fdv_i, o_mod_i, o_neg_i, o_lt_i, o_le_i, o_gt_i, o_ge_i, o_is_n, o_isn_n, o_eq_d, o_ne_d, o_in_d, o_nin_d, bx_len, bx_int, bx_min, bx_max, bx_sum, bx_all, bx_any, bx_tuple, b_min_i, b_max_i, b_int_i, b_int_b, b_len_t, b_len_l, b_len_c, b_len_s, b_tup_t, b_tup_l, b_lis_t, b_lis_l, isa_tab, ty_non, ty_bl, ty_int, ty_str, ty_tup, ty_lst, ty_scr, ty_dic, tr_non, tr_bl, tr_int, tr_tup, tr_lst, tr_scr, nm_set, tp_set, ix_t, ix_l, ix_c, at_0, at_1, at_2, at_3, at_m, at_m1, range1, items_t, items_l, items_s, enu_t, enu_l, bel_int, bel_str, bel_bl, bel_non, out_bl, out_int, out_str, out_non, out_nx, mk_ends, mk_join, g_ends, fEq_i, fEq_b, rI_l, rI_d, rS_d, rL_l, r_pop, r_pop1, r_app, rr_q, rr_ix, rr_ixs, rr_len, rr_tup, rr_tru, rr_mkp, rr_mka, rr_pop, rr_app, rr_put, ok_put, out_rt, out_ex, Prod.mk.injEq, exists_eq, exists_and_left, exists_eq', bne_self_eq_false, Int.reduceBNe, Bool.true_and, and_assoc, Rs.ok.injEq, D.tup.injEq, D.bl.injEq, D.int.injEq, List.cons.injEq, enter_bs, D.bel, D.bels, List.cons_append, List.nil_append, startS, List.map_cons, List.map_nil, List.replicate_succ, List.replicate_zero, Nat.reduceSub, Nat.reduceAdd, Bool.or_false, Bool.false_or, Bool.or_true, Bool.true_or, Bool.and_true, Bool.and_false, Bool.true_and, Bool.false_and, if_true, if_false, reduceCtorEq, Bool.not_eq_true, decide_eq_true_eq, decide_eq_false_iff_not, and_self, onok, onokS, onnx, ite_true, ite_false, reduceIte, c_ll_lst]
  refine for_inv (fun xs sl s1 => ∃ (k : Nat) (us : List Wd) (o1 o2 : Option D), (∀ w ∈ us, w.Ok) ∧ k + us.length = ws.length ∧ xs = numb k (us.map strD ++ b :: ys) ∧ sl = [some (.lst (ws.map strD ++ b :: ys)), o1, o2] ∧ s1 = st.enter) (fun _ _ _ _ => rfl) ?_ ?_ ⟨0, ws, none, none, hw, by omega, rfl, rfl, rfl⟩
  · rintro x r sl s1 ⟨k, us, o1, o2, hu, hk, hx, rfl, rfl⟩
    cases us with
    | nil =>
      rw [List.map_nil, List.nil_append, numb_cons] at hx
      obtain ⟨rfl, rfl⟩ := List.cons.inj hx
      have hk : k = ws.length := hk
      subst hk
      refine ⟨_, rfl, ?_⟩
      simp only [onok_ok, onok_ex, onokS_ok, onokS_ex, onnx_nx, onnx_rt, onnx_bk, onnx_ct, onnx_ex, wc_ok, we_v, we_c, we_g, we_bin, we_cmp, we_ix, we_neg, we_not, we_ite, we_andv, we_orv, we_and1, we_or1, we_and, we_or, we_tup, we_frz, we_alc, we_blt, we_call, we_meth, we_sl, we_isi, we_isi2, we_dsp, we_newd, wt_val, wt_cmp, wt_not, wt_andv, wt_orv, wt_and1, wt_or1, wt_and, wt_or, wa_nil, wa_cons, wn_disp, wn_lis, wn_comp, wi_rng, wi_enu, wi_one, wo_non, wo_some, ws_nop, ws_nil, ws_brk, ws_cnt, ws_retn, ws_exp, ws_ret, ws_raise, ws_ite, ws_set, ws_set, ws_setcF, ws_setcT, ws_par, ws_put, ws_seq, ws_for, ws_while, ws_try, List.getElem?_cons_zero, List.getElem?_cons_succ, Option.some.injEq, exists_eq_left', exists_eq_left, true_implies, forall_const, Bool.true_eq_false, Bool.false_eq_true, false_implies, and_true, true_and, setT, List.set_cons_zero, List.set_cons_succ, List.length_cons, List.length_nil, setAll, Option.bind_some, asB, Bool.not_true, Bool.not_false, o_add_i, o_add_s, o_add_t, o_add_l, o_sub_i, o_mul_i, o_fdv_i, o_mod_i, o_neg_i, o_lt_i, o_le_i, o_gt_i, o_ge_i, o_is_n, o_isn_n, o_eq_d, o_ne_d, o_in_d, o_nin_d, bx_len, bx_int, bx_min, bx_max, bx_sum, bx_all, bx_any, bx_tuple, b_min_i, b_max_i, b_int_i, b_int_b, b_len_t, b_len_l, b_len_c, b_len_s, b_tup_t, b_tup_l, b_lis_t, b_lis_l, isa_tab, ty_non, ty_bl, ty_int, ty_str, ty_tup, ty_lst, ty_scr, ty_dic, tr_non, tr_bl, tr_int, tr_tup, tr_lst, tr_scr, nm_set, tp_set, ix_t, ix_l, ix_c, at_0, at_1, at_2, at_3, at_m, at_m1, range1, items_t, items_l, items_s, enu_t, enu_l, bel_int, bel_str, bel_bl, bel_non, out_bl, out_int, out_str, out_non, out_nx, mk_ends, mk_join, g_ends, fEq_i, fEq_b, rI_l, rI_d, rS_d, rL_l, r_pop, r_pop1, r_app, rr_q, rr_ix, rr_ixs, rr_len, rr_tup, rr_tru, rr_mkp, rr_mka, rr_pop, rr_app, rr_put, ok_put, out_rt, out_ex, Prod.mk.injEq, exists_eq, exists_and_left, exists_eq', bne_self_eq_false, Int.reduceBNe, Bool.true_and, and_assoc, Rs.ok.injEq, D.tup.injEq, D.bl.injEq, D.int.injEq, List.cons.injEq, enter_bs, D.bel, D.bels, List.cons_append, List.nil_append, startS, List.map_cons, List.map_nil, List.replicate_succ, List.replicate_zero, Nat.reduceSub, Nat.reduceAdd, Bool.or_false, Bool.false_or, Bool.or_true, Bool.true_or, Bool.and_true, Bool.and_false, Bool.true_and, Bool.false_and, if_true, if_false, reduceCtorEq, Bool.not_eq_true, decide_eq_true_eq, decide_eq_false_iff_not, and_self, onok, onokS, onnx, ite_true, ite_false, reduceIte, h.text, out_exi]
    | cons u us =>
      rw [List.map_cons, List.cons_append, numb_cons] at hx
      obtain ⟨rfl, rfl⟩ := List.cons.inj hx
      refine ⟨_, rfl, ?_⟩
      simp only [strD, onok_ok, onok_ex, onokS_ok, onokS_ex, onnx_nx, onnx_rt, onnx_bk, onnx_ct, onnx_ex, wc_ok, we_v, we_c, we_g, we_bin, we_cmp, we_ix, we_neg, we_not, we_ite, we_andv, we_orv, we_and1, we_or1, we_and, we_or, we_tup, we_frz, we_alc, we_blt, we_call, we_meth, we_sl, we_isi, we_isi2, we_dsp, we_newd, wt_val, wt_cmp, wt_not, wt_andv, wt_orv, wt_and1, wt_or1, wt_and, wt_or, wa_nil, wa_cons, wn_disp, wn_lis, wn_comp, wi_rng, wi_enu, wi_one, wo_non, wo_some, ws_nop, ws_nil, ws_brk, ws_cnt, ws_retn, ws_exp, ws_ret, ws_raise, ws_ite, ws_set, ws_set, ws_setcF, ws_setcT, ws_par, ws_put, ws_seq, ws_for, ws_while, ws_try, List.getElem?_cons_zero, List.getElem?_cons_succ, Option.some.injEq, exists_eq_left', exists_eq_left, true_implies, forall_const, Bool.true_eq_false, Bool.false_eq_true, false_implies, and_true, true_and, setT, List.set_cons_zero, List.set_cons_succ, List.length_cons, List.length_nil, setAll, Option.bind_some, asB, Bool.not_true, Bool.not_false, o_add_i, o_add_s, o_add_t, o_add_l, o_sub_i, o_mul_i, o_fdv_i, o_mod_i, o_neg_i, o_lt_i, o_le_i, o_gt_i, o_ge_i, o_is_n, o_isn_n, o_eq_d, o_ne_d, o_in_d, o_nin_d, bx_len, bx_int, bx_min, bx_max, bx_sum, bx_all, bx_any, bx_tuple, b_min_i, b_max_i, b_int_i, b_int_b, b_len_t, b_len_l, b_len_c, b_len_s, b_tup_t, b_tup_l, b_lis_t, b_lis_l, isa_tab, ty_non, ty_bl, ty_int, ty_str, ty_tup, ty_lst, ty_scr, ty_dic, tr_non, tr_bl, tr_int, tr_tup, tr_lst, tr_scr, nm_set, tp_set, ix_t, ix_l, ix_c, at_0, at_1, at_2, at_3, at_m, at_m1, range1, items_t, items_l, items_s, enu_t, enu_l, bel_int, bel_str, bel_bl, bel_non, out_bl, out_int, out_str, out_non, out_nx, mk_ends, mk_join, g_ends, fEq_i, fEq_b, rI_l, rI_d, rS_d, rL_l, r_pop, r_pop1, r_app, rr_q, rr_ix, rr_ixs, rr_len, rr_tup, rr_tru, rr_mkp, rr_mka, rr_pop, rr_app, rr_put, ok_put, out_rt, out_ex, Prod.mk.injEq, exists_eq, exists_and_left, exists_eq', bne_self_eq_false, Int.reduceBNe, Bool.true_and, and_assoc, Rs.ok.injEq, D.tup.injEq, D.bl.injEq, D.int.injEq, List.cons.injEq, enter_bs, D.bel, D.bels, List.cons_append, List.nil_append, startS, List.map_cons, List.map_nil, List.replicate_succ, List.replicate_zero, Nat.reduceSub, Nat.reduceAdd, Bool.or_false, Bool.false_or, Bool.or_true, Bool.true_or, Bool.and_true, Bool.and_false, Bool.true_and, Bool.false_and, if_true, if_false, reduceCtorEq, Bool.not_eq_true, decide_eq_true_eq, decide_eq_false_iff_not, and_self, onok, onokS, onnx, ite_true, ite_false, reduceIte, c_is_text _ _ (hu u List.mem_cons_self)]
      rw [List.length_cons] at hk
      exact ⟨k + 1, us, fun w hw => hu w (List.mem_cons_of_mem _ hw), by omega, rfl⟩
  · rintro sl s1 ⟨k, us, o1, o2, hu, hk, hx, rfl, rfl⟩
    cases us with
    | nil => cases hx
    | cons _ _ => cases hx
theorem texts_lone (n : Nat) {b : D} (h : ∀ n st, md.call (n + 1) 2 [b] st = some (.ok (.bl false), st)) (st : Sto) : md.call (n + 2) 7 [b] st = some (.ex 4 (.int (-1)), st) := by
  refine run_to (d := ⟨_, _, _, f_check_texts⟩) rfl rfl ?_
  simp only [f_check_texts, b_check_texts, onok_ok, onok_ex, onokS_ok, onokS_ex, onnx_nx, onnx_rt, onnx_bk, onnx_ct, onnx_ex, wc_ok, we_v, we_c, we_g, we_bin, we_cmp, we_ix, we_neg, we_not, we_ite, we_andv, we_orv, we_and1, we_or1, we_and, we_or, we_tup, we_frz, we_alc, we_blt, we_call, we_meth, we_sl, we_isi, we_isi2, we_dsp, we_newd, wt_val, wt_cmp, wt_not, wt_andv, wt_orv, wt_and1, wt_or1, wt_and, wt_or, wa_nil, wa_cons, wn_disp, wn_lis, wn_comp, wi_rng, wi_enu, wi_one, wo_non, wo_some, ws_nop, ws_nil, ws_brk, ws_cnt, ws_retn, ws_exp, ws_ret, ws_raise, ws_ite, ws_set, ws_set, ws_setcF, ws_setcT, ws_par, ws_put, ws_seq, ws_for, ws_while, ws_try, List.getElem?_cons_zero, List.getElem?_cons_succ, Option.some.injEq, exists_eq_left', exists_eq_left, true_implies, forall_const, Bool.true_eq_false, Bool.false_eq_true, false_implies, and_true, true_and, setT, List.set_cons_zero, List.set_cons_succ, List.length_cons, List.length_nil, setAll, Option.bind_some, asB, Bool.not_true, Bool.not_false, o_add_i, o_add_s, o_add_t, o_add_l, o_sub_i, o_mul_i, o_fdv_i, o_mod_i, o_neg_i, o_lt_i, o_le_i, o_gt_i, o_ge_i, o_is_n, o_isn_n, o_eq_d, o_ne_d, o_in_d, o_nin_d, bx_len, bx_int, bx_min, bx_max, bx_sum, bx_all, bx_any, bx_tuple, b_min_i, b_max_i, b_int_i, b_int_b, b_len_t, b_len_l, b_len_c, b_len_s, b_tup_t, b_tup_l, b_lis_t, b_lis_l, isa_tab, ty_non, ty_bl, ty_int, ty_str, ty_tup, ty_lst, ty_scr, ty_dic, tr_non, tr_bl, tr_int, tr_tup, tr_lst, tr_scr, nm_set, tp_set, ix_t, ix_l, ix_c, at_0, at_1, at_2, at_3, at_m, at_m1, range1, items_t, items_l, items_s, enu_t, enu_l, bel_int, bel_str, bel_bl, bel_non, out_bl, out_int, out_str, out_non, out_nx, mk_ends, mk_join, g_ends, fEq_i, fEq_b, rI_l, rI_d, rS_d, rL_l, r_pop, r_pop1, r_app, rr_q, rr_ix, rr_ixs, rr_len, rr_tup, rr_tru, rr_mkp, rr_mka, rr_pop, rr_app, rr_put, ok_put, out_rt, out_ex, Prod.mk.injEq, exists_eq, exists_and_left, exists_eq', bne_self_eq_false, Int.reduceBNe, Bool.true_and, and_assoc, Rs.ok.injEq, D.tup.injEq, D.bl.injEq, D.int.injEq, List.cons.injEq, enter_bs, D.bel, D.bels, List.cons_append, List.nil_append, startS, List.map_cons, List.map_nil, List.replicate_succ, List.replicate_zero, Nat.reduceSub, Nat.reduceAdd, Bool.or_false, Bool.false_or, Bool.or_true, Bool.true_or, Bool.and_true, Bool.and_false, Bool.true_and, Bool.false_and, if_true, if_false, reduceCtorEq, Bool.not_eq_true, decide_eq_true_eq, decide_eq_false_iff_not, and_self, onok, onokS, onnx, ite_true, ite_false, reduceIte, h, out_exi, Int.reduceNeg]
theorem row_T (n : Nat) (ho : Ho) (hh : ho.Ok) (d : D) (i : Int) (e : ∀ n st, md.call (n + 2) 7 [d] st = some (.ex 4 (.int i), st)) (st : Sto) : md.call (n + 4) 16 [ho.d, .int 0, d] st = some (.ex 4 (.int i), st) := by
  refine run_to (d := ⟨_, _, _, f_said_row⟩) rfl rfl ?_
  simp only [f_said_row, b_said_row, onok_ok, onok_ex, onokS_ok, onokS_ex, onnx_nx, onnx_rt, onnx_bk, onnx_ct, onnx_ex, wc_ok, we_v, we_c, we_g, we_bin, we_cmp, we_ix, we_neg, we_not, we_ite, we_andv, we_orv, we_and1, we_or1, we_and, we_or, we_tup, we_frz, we_alc, we_blt, we_call, we_meth, we_sl, we_isi, we_isi2, we_dsp, we_newd, wt_val, wt_cmp, wt_not, wt_andv, wt_orv, wt_and1, wt_or1, wt_and, wt_or, wa_nil, wa_cons, wn_disp, wn_lis, wn_comp, wi_rng, wi_enu, wi_one, wo_non, wo_some, ws_nop, ws_nil, ws_brk, ws_cnt, ws_retn, ws_exp, ws_ret, ws_raise, ws_ite, ws_set, ws_set, ws_setcF, ws_setcT, ws_par, ws_put, ws_seq, ws_for, ws_while, ws_try, List.getElem?_cons_zero, List.getElem?_cons_succ, Option.some.injEq, exists_eq_left', exists_eq_left, true_implies, forall_const, Bool.true_eq_false, Bool.false_eq_true, false_implies, and_true, true_and, setT, List.set_cons_zero, List.set_cons_succ, List.length_cons, List.length_nil, setAll, Option.bind_some, asB, Bool.not_true, Bool.not_false, o_add_i, o_add_s, o_add_t, o_add_l, o_sub_i, o_mul_i, o_fdv_i, o_mod_i, o_neg_i, o_lt_i, o_le_i, o_gt_i, o_ge_i, o_is_n, o_isn_n, o_eq_d, o_ne_d, o_in_d, o_nin_d, bx_len, bx_int, bx_min, bx_max, bx_sum, bx_all, bx_any, bx_tuple, b_min_i, b_max_i, b_int_i, b_int_b, b_len_t, b_len_l, b_len_c, b_len_s, b_tup_t, b_tup_l, b_lis_t, b_lis_l, isa_tab, ty_non, ty_bl, ty_int, ty_str, ty_tup, ty_lst, ty_scr, ty_dic, tr_non, tr_bl, tr_int, tr_tup, tr_lst, tr_scr, nm_set, tp_set, ix_t, ix_l, ix_c, at_0, at_1, at_2, at_3, at_m, at_m1, range1, items_t, items_l, items_s, enu_t, enu_l, bel_int, bel_str, bel_bl, bel_non, out_bl, out_int, out_str, out_non, out_nx, mk_ends, mk_join, g_ends, fEq_i, fEq_b, rI_l, rI_d, rS_d, rL_l, r_pop, r_pop1, r_app, rr_q, rr_ix, rr_ixs, rr_len, rr_tup, rr_tru, rr_mkp, rr_mka, rr_pop, rr_app, rr_put, ok_put, out_rt, out_ex, Prod.mk.injEq, exists_eq, exists_and_left, exists_eq', bne_self_eq_false, Int.reduceBNe, Bool.true_and, and_assoc, Rs.ok.injEq, D.tup.injEq, D.bl.injEq, D.int.injEq, List.cons.injEq, enter_bs, D.bel, D.bels, List.cons_append, List.nil_append, startS, List.map_cons, List.map_nil, List.replicate_succ, List.replicate_zero, Nat.reduceSub, Nat.reduceAdd, Bool.or_false, Bool.false_or, Bool.or_true, Bool.true_or, Bool.and_true, Bool.and_false, Bool.true_and, Bool.false_and, if_true, if_false, reduceCtorEq, Bool.not_eq_true, decide_eq_true_eq, decide_eq_false_iff_not, and_self, onok, onokS, onnx, ite_true, ite_false, reduceIte, c_check_hold _ _ hh, c_check_held _ _ _ (may0 ho hh), e, out_exi]
/-! what is told -/
abbrev nH : Str := ⟨#[66, 97, 100, 72, 111, 108, 100]⟩
abbrev nK : Str := ⟨#[66, 97, 100, 78, 117, 109, 98, 101, 114]⟩
abbrev nT : Str := ⟨#[66, 97, 100, 84, 101, 120, 116]⟩
abbrev nR : Str := ⟨#[66, 97, 100, 82, 111, 119]⟩
theorem out_2 {st : Sto} {x : Str} {v : D} (h : v.bel 0 = true) : outF false st st.enter (.rt (.tup [.str x, v])) = some (.ok (.tup [.str x, v]), st) := out_rt (by
  show (true && (v.bel 0 && true)) = true
  rw [h]; rfl)
theorem told_of (n : Nat) (x y z v : D) (k : Nat) (nm : Str) (hk : (k = 3 ∧ nm = nH) ∨ (k = 2 ∧ nm = nK) ∨ (k = 1 ∧ nm = nT)) (hv : v.bel 0 = true) (e : ∀ st, md.call (n + 4) 15 [x, y, z] st = some (.ex k v, st)) (st : Sto) : md.call (n + 5) 27 [x, y, z] st = some (.ok (.tup [.str nm, v]), st) := by
  refine run_to (d := ⟨_, _, _, f__law_said_told⟩) rfl rfl ?_
  simp only [f__law_said_told, b__law_said_told, onok_ok, onok_ex, onokS_ok, onokS_ex, onnx_nx, onnx_rt, onnx_bk, onnx_ct, onnx_ex, wc_ok, we_v, we_c, we_g, we_bin, we_cmp, we_ix, we_neg, we_not, we_ite, we_andv, we_orv, we_and1, we_or1, we_and, we_or, we_tup, we_frz, we_alc, we_blt, we_call, we_meth, we_sl, we_isi, we_isi2, we_dsp, we_newd, wt_val, wt_cmp, wt_not, wt_andv, wt_orv, wt_and1, wt_or1, wt_and, wt_or, wa_nil, wa_cons, wn_disp, wn_lis, wn_comp, wi_rng, wi_enu, wi_one, wo_non, wo_some, ws_nop, ws_nil, ws_brk, ws_cnt, ws_retn, ws_exp, ws_ret, ws_raise, ws_ite, ws_set, ws_set, ws_setcF, ws_setcT, ws_par, ws_put, ws_seq, ws_for, ws_while, ws_try, List.getElem?_cons_zero, List.getElem?_cons_succ, Option.some.injEq, exists_eq_left', exists_eq_left, true_implies, forall_const, Bool.true_eq_false, Bool.false_eq_true, false_implies, and_true, true_and, setT, List.set_cons_zero, List.set_cons_succ, List.length_cons, List.length_nil, setAll, Option.bind_some, asB, Bool.not_true, Bool.not_false, o_add_i, o_add_s, o_add_t, o_add_l, o_sub_i, o_mul_i, o_fdv_i, o_mod_i, o_neg_i, o_lt_i, o_le_i, o_gt_i, o_ge_i, o_is_n, o_isn_n, o_eq_d, o_ne_d, o_in_d, o_nin_d, bx_len, bx_int, bx_min, bx_max, bx_sum, bx_all, bx_any, bx_tuple, b_min_i, b_max_i, b_int_i, b_int_b, b_len_t, b_len_l, b_len_c, b_len_s, b_tup_t, b_tup_l, b_lis_t, b_lis_l, isa_tab, ty_non, ty_bl, ty_int, ty_str, ty_tup, ty_lst, ty_scr, ty_dic, tr_non, tr_bl, tr_int, tr_tup, tr_lst, tr_scr, nm_set, tp_set, ix_t, ix_l, ix_c, at_0, at_1, at_2, at_3, at_m, at_m1, range1, items_t, items_l, items_s, enu_t, enu_l, bel_int, bel_str, bel_bl, bel_non, out_bl, out_int, out_str, out_non, out_nx, mk_ends, mk_join, g_ends, fEq_i, fEq_b, rI_l, rI_d, rS_d, rL_l, r_pop, r_pop1, r_app, rr_q, rr_ix, rr_ixs, rr_len, rr_tup, rr_tru, rr_mkp, rr_mka, rr_pop, rr_app, rr_put, ok_put, out_rt, out_ex, Prod.mk.injEq, exists_eq, exists_and_left, exists_eq', bne_self_eq_false, Int.reduceBNe, Bool.true_and, and_assoc, Rs.ok.injEq, D.tup.injEq, D.bl.injEq, D.int.injEq, List.cons.injEq, enter_bs, D.bel, D.bels, List.cons_append, List.nil_append, startS, List.map_cons, List.map_nil, List.replicate_succ, List.replicate_zero, Nat.reduceSub, Nat.reduceAdd, Bool.or_false, Bool.false_or, Bool.or_true, Bool.true_or, Bool.and_true, Bool.and_false, Bool.true_and, Bool.false_and, if_true, if_false, reduceCtorEq, Bool.not_eq_true, decide_eq_true_eq, decide_eq_false_iff_not, and_self, onok, onokS, onnx, ite_true, ite_false, reduceIte, e]
  rcases hk with ⟨rfl, rfl⟩ | ⟨rfl, rfl⟩ | ⟨rfl, rfl⟩
  · exact ⟨rfl, .tup [.str nH, v], by kernel_rfl, _, rfl, out_2 hv⟩
  · exact ⟨rfl, .tup [.str nK, v], by kernel_rfl, _, rfl, out_2 hv⟩
  · exact ⟨rfl, .tup [.str nT, v], by kernel_rfl, _, rfl, out_2 hv⟩
theorem told_row (n : Nat) (x y z v : D) (k : Nat) (nm : Str) (hk : (k = 3 ∧ nm = nH) ∨ (k = 2 ∧ nm = nK) ∨ (k = 4 ∧ nm = nR)) (hv : v.bel 0 = true) (e : ∀ st, md.call (n + 4) 16 [x, y, z] st = some (.ex k v, st)) (st : Sto) : md.call (n + 5) 28 [x, y, z] st = some (.ok (.tup [.str nm, v]), st) := by
  refine run_to (d := ⟨_, _, _, f__law_row_told⟩) rfl rfl ?_
  simp only [f__law_row_told, b__law_row_told, onok_ok, onok_ex, onokS_ok, onokS_ex, onnx_nx, onnx_rt, onnx_bk, onnx_ct, onnx_ex, wc_ok, we_v, we_c, we_g, we_bin, we_cmp, we_ix, we_neg, we_not, we_ite, we_andv, we_orv, we_and1, we_or1, we_and, we_or, we_tup, we_frz, we_alc, we_blt, we_call, we_meth, we_sl, we_isi, we_isi2, we_dsp, we_newd, wt_val, wt_cmp, wt_not, wt_andv, wt_orv, wt_and1, wt_or1, wt_and, wt_or, wa_nil, wa_cons, wn_disp, wn_lis, wn_comp, wi_rng, wi_enu, wi_one, wo_non, wo_some, ws_nop, ws_nil, ws_brk, ws_cnt, ws_retn, ws_exp, ws_ret, ws_raise, ws_ite, ws_set, ws_set, ws_setcF, ws_setcT, ws_par, ws_put, ws_seq, ws_for, ws_while, ws_try, List.getElem?_cons_zero, List.getElem?_cons_succ, Option.some.injEq, exists_eq_left', exists_eq_left, true_implies, forall_const, Bool.true_eq_false, Bool.false_eq_true, false_implies, and_true, true_and, setT, List.set_cons_zero, List.set_cons_succ, List.length_cons, List.length_nil, setAll, Option.bind_some, asB, Bool.not_true, Bool.not_false, o_add_i, o_add_s, o_add_t, o_add_l, o_sub_i, o_mul_i, o_fdv_i, o_mod_i, o_neg_i, o_lt_i, o_le_i, o_gt_i, o_ge_i, o_is_n, o_isn_n, o_eq_d, o_ne_d, o_in_d, o_nin_d, bx_len, bx_int, bx_min, bx_max, bx_sum, bx_all, bx_any, bx_tuple, b_min_i, b_max_i, b_int_i, b_int_b, b_len_t, b_len_l, b_len_c, b_len_s, b_tup_t, b_tup_l, b_lis_t, b_lis_l, isa_tab, ty_non, ty_bl, ty_int, ty_str, ty_tup, ty_lst, ty_scr, ty_dic, tr_non, tr_bl, tr_int, tr_tup, tr_lst, tr_scr, nm_set, tp_set, ix_t, ix_l, ix_c, at_0, at_1, at_2, at_3, at_m, at_m1, range1, items_t, items_l, items_s, enu_t, enu_l, bel_int, bel_str, bel_bl, bel_non, out_bl, out_int, out_str, out_non, out_nx, mk_ends, mk_join, g_ends, fEq_i, fEq_b, rI_l, rI_d, rS_d, rL_l, r_pop, r_pop1, r_app, rr_q, rr_ix, rr_ixs, rr_len, rr_tup, rr_tru, rr_mkp, rr_mka, rr_pop, rr_app, rr_put, ok_put, out_rt, out_ex, Prod.mk.injEq, exists_eq, exists_and_left, exists_eq', bne_self_eq_false, Int.reduceBNe, Bool.true_and, and_assoc, Rs.ok.injEq, D.tup.injEq, D.bl.injEq, D.int.injEq, List.cons.injEq, enter_bs, D.bel, D.bels, List.cons_append, List.nil_append, startS, List.map_cons, List.map_nil, List.replicate_succ, List.replicate_zero, Nat.reduceSub, Nat.reduceAdd, Bool.or_false, Bool.false_or, Bool.or_true, Bool.true_or, Bool.and_true, Bool.and_false, Bool.true_and, Bool.false_and, if_true, if_false, reduceCtorEq, Bool.not_eq_true, decide_eq_true_eq, decide_eq_false_iff_not, and_self, onok, onokS, onnx, ite_true, ite_false, reduceIte, e]
  rcases hk with ⟨rfl, rfl⟩ | ⟨rfl, rfl⟩ | ⟨rfl, rfl⟩
  · exact ⟨rfl, .tup [.str nH, v], by kernel_rfl, _, rfl, out_2 hv⟩
  · exact ⟨rfl, .tup [.str nK, v], by kernel_rfl, _, rfl, out_2 hv⟩
  · exact ⟨rfl, .tup [.str nR, v], by kernel_rfl, _, rfl, out_2 hv⟩
end K00

set_option Elab.async false
set_option linter.all false
set_option maxRecDepth 100000
set_option maxHeartbeats 0
namespace K00
open PySem Hb L2
theorem wf_nil {t : Tg} {g : Sto → Bool} {body : Ds} {sl : Sl} {st : Sto} {Q : Fl → Sl → Sto → Prop} (h : g st = true) : wS (forL t g body []) sl st Q = Q .nx sl st := ws_now (by unfold forL; rw [h])
theorem wf_cons {t : Tg} {g : Sto → Bool} {body : Ds} {x : D} {r : List D} {sl sl1 : Sl} {st : Sto} {Q : Fl → Sl → Sto → Prop} (h : g st = true) (hs : setT t x sl = some sl1) {sl2 : Sl} {st2 : Sto} (hb : ∀ Q', wS body sl1 st Q' = Q' .nx sl2 st2) :
    wS (forL t g body (x :: r)) sl st Q = wS (forL t g body r) sl2 st2 Q := by
  have e : body sl1 st = some (.nx, sl2, st2) := by
    have := hb fun f a b => f = .nx ∧ a = sl2 ∧ b = st2
    obtain ⟨f, a, b, e, rfl, rfl, rfl⟩ := (of_eq_true (this.trans (eq_true ⟨rfl, rfl, rfl⟩)) : wS body sl1 st fun f a b => f = .nx ∧ a = sl2 ∧ b = st2)
    exact e
  have step : forL t g body (x :: r) sl st = forL t g body r sl2 st2 := by
    show (match g st with
      | false => none
      | true => match setT t x sl with
        | none => none
        | some sl1 => match body sl1 st with
          | some (.nx, sl2, st2) => forL t g body r sl2 st2
          | some (.ct, sl2, st2) => forL t g body r sl2 st2
          | some (.bk, sl2, st2) => some (.nx, sl2, st2)
          | r => r) = _
    rw [h, hs]
    dsimp only
    rw [e]
  unfold wS
  rw [step]
abbrev sN : Str := ⟨#[110, 111, 110, 101]⟩
abbrev sP : Str := ⟨#[115, 112, 111, 107, 101, 110]⟩
abbrev sM : Str := ⟨#[109, 97, 110, 121]⟩
abbrev KS : List L2.Key := [.inr sN, .inr sP, .inr sM]
theorem dg1 {x y z : D} : dget KS [x, y, z] (.inr sN) = some x := by simp [dget]
theorem dg2 {x y z : D} : dget KS [x, y, z] (.inr sP) = some y := by simp [dget]
theorem dg3 {x y z : D} : dget KS [x, y, z] (.inr sM) = some z := by simp [dget]
theorem dp1 {x y z v : D} : dput KS [x, y, z] (.inr sN) v = (KS, [v, y, z]) := by simp [dput, dset]
theorem dp2 {x y z v : D} : dput KS [x, y, z] (.inr sP) v = (KS, [x, v, z]) := by simp [dput, dset]
theorem dp3 {x y z v : D} : dput KS [x, y, z] (.inr sM) v = (KS, [x, y, v]) := by simp [dput, dset]
def plB : D → Bool
  | .ref _ => false
  | .ins _ _ => false
  | .dic _ _ => false
  | .scr _ => false
  | _ => true
abbrev bTurn : S := .seq (.ite (.val (.isi (.ix (.v 7) (.v 8)) .lst)) (.seq (.put (.blt .tuple (.cons (.ix (.v 7) (.v 8)) (.nil))) (.v 7) (.v 8)) (.nil)) (.nil)) (.nil)
theorem turn (call : Nat → Cl) (X : SO) (vs vs' : List D) (nm : Str) (b : D) (hp : plB b = true) (hg : dget KS vs (.inr nm) = some b) (hd : dput KS vs (.inr nm) (tl b) = (KS, vs')) (hi : tl b = b → vs' = vs) (o0 o1 o2 o3 o4 o5 o6 o9 o10 o11 : Option D) (Q : Fl → Sl → Sto → Prop) :
    wS (evS md.tb md.cfl call bTurn) [o0, o1, o2, o3, o4, o5, o6, some (.ref 1), some (.str nm), o9, o10, o11] ⟨[1, 0], [X, .dic KS vs]⟩ Q = Q .nx [o0, o1, o2, o3, o4, o5, o6, some (.ref 1), some (.str nm), o9, o10, o11] ⟨[1, 0], [X, .dic KS vs']⟩ := by
  have pr : ∀ xs, b = .lst xs → putR ⟨[1, 0], [X, .dic KS vs]⟩ 1 (.str nm) (.tup xs) (some (.dic KS vs)) = some ⟨[1, 0], [X, .dic KS vs']⟩ := fun xs e => by
    subst e
    have hd : dput KS vs (.inr nm) (.tup xs) = (KS, vs') := hd
    show (if KS.length < sizeLine ∧ okPut ⟨[1, 0], [X, .dic KS vs]⟩ 1 (.tup xs) = true then some (Sto.put ⟨[1, 0], [X, .dic KS vs]⟩ 1 (.dic (dput KS vs (.inr nm) (.tup xs)).1 (dput KS vs (.inr nm) (.tup xs)).2)) else none) = _
    rw [if_pos ⟨by decide, rfl⟩, hd]
    rfl
  cases b with
  | lst xs => simp only [onok_ok, onok_ex, onokS_ok, onokS_ex, onnx_nx, onnx_rt, onnx_bk, onnx_ct, onnx_ex, wc_ok, we_v, we_c, we_g, we_bin, we_cmp, we_ix, we_neg, we_not, we_ite, we_andv, we_orv, we_and1, we_or1, we_and, we_or, we_tup, we_frz, we_alc, we_blt, we_call, we_meth, we_sl, we_isi, we_isi2, we_dsp, we_newd, wt_val, wt_cmp, wt_not, wt_andv, wt_orv, wt_and1, wt_or1, wt_and, wt_or, wa_nil, wa_cons, wn_disp, wn_lis, wn_comp, wi_rng, wi_enu, wi_one, wo_non, wo_some, ws_nop, ws_nil, ws_brk, ws_cnt, ws_retn, ws_exp, ws_ret, ws_raise, ws_ite, ws_set, ws_set, ws_setcF, ws_setcT, ws_par, ws_put, ws_seq, ws_for, ws_while, ws_try, List.getElem?_cons_zero, List.getElem?_cons_succ, Option.some.injEq, exists_eq_left', exists_eq_left, true_implies, forall_const, Bool.true_eq_false, Bool.false_eq_true, false_implies, and_true, true_and, setT, List.set_cons_zero, List.set_cons_succ, List.length_cons, List.length_nil, setAll, Option.bind_some, asB, Bool.not_true, Bool.not_false, o_add_i, o_add_s, o_add_t, o_add_l, o_sub_i, o_mul_i, o_fdv_i, o_mod_i, o_neg_i, o_lt_i, o_le_i, o_gt_i, o_ge_i, o_is_n, o_isn_n, o_eq_d, o_ne_d, o_in_d, o_nin_d, bx_len, bx_int, bx_min, bx_max, bx_sum, bx_all, bx_any, bx_tuple, b_min_i, b_max_i, b_int_i, b_int_b, b_len_t, b_len_l, b_len_c, b_len_s, b_tup_t, b_tup_l, b_lis_t, b_lis_l, isa_tab, ty_non, ty_bl, ty_int, ty_str, ty_tup, ty_lst, ty_scr, ty_dic, tr_non, tr_bl, tr_int, tr_tup, tr_lst, tr_scr, nm_set, tp_set, ix_t, ix_l, ix_c, at_0, at_1, at_2, at_3, at_m, at_m1, range1, items_t, items_l, items_s, enu_t, enu_l, bel_int, bel_str, bel_bl, bel_non, out_bl, out_int, out_str, out_non, out_nx, mk_ends, mk_join, g_ends, fEq_i, fEq_b, rI_l, rI_d, rS_d, rL_l, r_pop, r_pop1, r_app, rr_q, rr_ix, rr_ixs, rr_len, rr_tup, rr_tru, rr_mkp, rr_mka, rr_pop, rr_app, rr_put, ok_put, out_rt, out_ex, Prod.mk.injEq, exists_eq, exists_and_left, exists_eq', bne_self_eq_false, Int.reduceBNe, Bool.true_and, and_assoc, Rs.ok.injEq, D.tup.injEq, D.bl.injEq, D.int.injEq, List.cons.injEq, enter_bs, D.bel, D.bels, List.cons_append, List.nil_append, startS, List.map_cons, List.map_nil, List.replicate_succ, List.replicate_zero, Nat.reduceSub, Nat.reduceAdd, Bool.or_false, Bool.false_or, Bool.or_true, Bool.true_or, Bool.and_true, Bool.and_false, Bool.true_and, Bool.false_and, if_true, if_false, reduceCtorEq, Bool.not_eq_true, decide_eq_true_eq, decide_eq_false_iff_not, and_self, onok, onokS, onnx, ite_true, ite_false, reduceIte, rS_d, hg, pr xs rfl]
  | ref _ => cases hp
  | ins _ _ => cases hp
  | dic _ _ => cases hp
  | scr _ => cases hp
  | non => rw [hi rfl]; simp only [onok_ok, onok_ex, onokS_ok, onokS_ex, onnx_nx, onnx_rt, onnx_bk, onnx_ct, onnx_ex, wc_ok, we_v, we_c, we_g, we_bin, we_cmp, we_ix, we_neg, we_not, we_ite, we_andv, we_orv, we_and1, we_or1, we_and, we_or, we_tup, we_frz, we_alc, we_blt, we_call, we_meth, we_sl, we_isi, we_isi2, we_dsp, we_newd, wt_val, wt_cmp, wt_not, wt_andv, wt_orv, wt_and1, wt_or1, wt_and, wt_or, wa_nil, wa_cons, wn_disp, wn_lis, wn_comp, wi_rng, wi_enu, wi_one, wo_non, wo_some, ws_nop, ws_nil, ws_brk, ws_cnt, ws_retn, ws_exp, ws_ret, ws_raise, ws_ite, ws_set, ws_set, ws_setcF, ws_setcT, ws_par, ws_put, ws_seq, ws_for, ws_while, ws_try, List.getElem?_cons_zero, List.getElem?_cons_succ, Option.some.injEq, exists_eq_left', exists_eq_left, true_implies, forall_const, Bool.true_eq_false, Bool.false_eq_true, false_implies, and_true, true_and, setT, List.set_cons_zero, List.set_cons_succ, List.length_cons, List.length_nil, setAll, Option.bind_some, asB, Bool.not_true, Bool.not_false, o_add_i, o_add_s, o_add_t, o_add_l, o_sub_i, o_mul_i, o_fdv_i, o_mod_i, o_neg_i, o_lt_i, o_le_i, o_gt_i, o_ge_i, o_is_n, o_isn_n, o_eq_d, o_ne_d, o_in_d, o_nin_d, bx_len, bx_int, bx_min, bx_max, bx_sum, bx_all, bx_any, bx_tuple, b_min_i, b_max_i, b_int_i, b_int_b, b_len_t, b_len_l, b_len_c, b_len_s, b_tup_t, b_tup_l, b_lis_t, b_lis_l, isa_tab, ty_non, ty_bl, ty_int, ty_str, ty_tup, ty_lst, ty_scr, ty_dic, tr_non, tr_bl, tr_int, tr_tup, tr_lst, tr_scr, nm_set, tp_set, ix_t, ix_l, ix_c, at_0, at_1, at_2, at_3, at_m, at_m1, range1, items_t, items_l, items_s, enu_t, enu_l, bel_int, bel_str, bel_bl, bel_non, out_bl, out_int, out_str, out_non, out_nx, mk_ends, mk_join, g_ends, fEq_i, fEq_b, rI_l, rI_d, rS_d, rL_l, r_pop, r_pop1, r_app, rr_q, rr_ix, rr_ixs, rr_len, rr_tup, rr_tru, rr_mkp, rr_mka, rr_pop, rr_app, rr_put, ok_put, out_rt, out_ex, Prod.mk.injEq, exists_eq, exists_and_left, exists_eq', bne_self_eq_false, Int.reduceBNe, Bool.true_and, and_assoc, Rs.ok.injEq, D.tup.injEq, D.bl.injEq, D.int.injEq, List.cons.injEq, enter_bs, D.bel, D.bels, List.cons_append, List.nil_append, startS, List.map_cons, List.map_nil, List.replicate_succ, List.replicate_zero, Nat.reduceSub, Nat.reduceAdd, Bool.or_false, Bool.false_or, Bool.or_true, Bool.true_or, Bool.and_true, Bool.and_false, Bool.true_and, Bool.false_and, if_true, if_false, reduceCtorEq, Bool.not_eq_true, decide_eq_true_eq, decide_eq_false_iff_not, and_self, onok, onokS, onnx, ite_true, ite_false, reduceIte, rS_d, hg]
  | bl _ => rw [hi rfl]; simp only [onok_ok, onok_ex, onokS_ok, onokS_ex, onnx_nx, onnx_rt, onnx_bk, onnx_ct, onnx_ex, wc_ok, we_v, we_c, we_g, we_bin, we_cmp, we_ix, we_neg, we_not, we_ite, we_andv, we_orv, we_and1, we_or1, we_and, we_or, we_tup, we_frz, we_alc, we_blt, we_call, we_meth, we_sl, we_isi, we_isi2, we_dsp, we_newd, wt_val, wt_cmp, wt_not, wt_andv, wt_orv, wt_and1, wt_or1, wt_and, wt_or, wa_nil, wa_cons, wn_disp, wn_lis, wn_comp, wi_rng, wi_enu, wi_one, wo_non, wo_some, ws_nop, ws_nil, ws_brk, ws_cnt, ws_retn, ws_exp, ws_ret, ws_raise, ws_ite, ws_set, ws_set, ws_setcF, ws_setcT, ws_par, ws_put, ws_seq, ws_for, ws_while, ws_try, List.getElem?_cons_zero, List.getElem?_cons_succ, Option.some.injEq, exists_eq_left', exists_eq_left, true_implies, forall_const, Bool.true_eq_false, Bool.false_eq_true, false_implies, and_true, true_and, setT, List.set_cons_zero, List.set_cons_succ, List.length_cons, List.length_nil, setAll, Option.bind_some, asB, Bool.not_true, Bool.not_false, o_add_i, o_add_s, o_add_t, o_add_l, o_sub_i, o_mul_i, o_fdv_i, o_mod_i, o_neg_i, o_lt_i, o_le_i, o_gt_i, o_ge_i, o_is_n, o_isn_n, o_eq_d, o_ne_d, o_in_d, o_nin_d, bx_len, bx_int, bx_min, bx_max, bx_sum, bx_all, bx_any, bx_tuple, b_min_i, b_max_i, b_int_i, b_int_b, b_len_t, b_len_l, b_len_c, b_len_s, b_tup_t, b_tup_l, b_lis_t, b_lis_l, isa_tab, ty_non, ty_bl, ty_int, ty_str, ty_tup, ty_lst, ty_scr, ty_dic, tr_non, tr_bl, tr_int, tr_tup, tr_lst, tr_scr, nm_set, tp_set, ix_t, ix_l, ix_c, at_0, at_1, at_2, at_3, at_m, at_m1, range1, items_t, items_l, items_s, enu_t, enu_l, bel_int, bel_str, bel_bl, bel_non, out_bl, out_int, out_str, out_non, out_nx, mk_ends, mk_join, g_ends, fEq_i, fEq_b, rI_l, rI_d, rS_d, rL_l, r_pop, r_pop1, r_app, rr_q, rr_ix, rr_ixs, rr_len, rr_tup, rr_tru, rr_mkp, rr_mka, rr_pop, rr_app, rr_put, ok_put, out_rt, out_ex, Prod.mk.injEq, exists_eq, exists_and_left, exists_eq', bne_self_eq_false, Int.reduceBNe, Bool.true_and, and_assoc, Rs.ok.injEq, D.tup.injEq, D.bl.injEq, D.int.injEq, List.cons.injEq, enter_bs, D.bel, D.bels, List.cons_append, List.nil_append, startS, List.map_cons, List.map_nil, List.replicate_succ, List.replicate_zero, Nat.reduceSub, Nat.reduceAdd, Bool.or_false, Bool.false_or, Bool.or_true, Bool.true_or, Bool.and_true, Bool.and_false, Bool.true_and, Bool.false_and, if_true, if_false, reduceCtorEq, Bool.not_eq_true, decide_eq_true_eq, decide_eq_false_iff_not, and_self, onok, onokS, onnx, ite_true, ite_false, reduceIte, rS_d, hg]
  | int _ => rw [hi rfl]; simp only [onok_ok, onok_ex, onokS_ok, onokS_ex, onnx_nx, onnx_rt, onnx_bk, onnx_ct, onnx_ex, wc_ok, we_v, we_c, we_g, we_bin, we_cmp, we_ix, we_neg, we_not, we_ite, we_andv, we_orv, we_and1, we_or1, we_and, we_or, we_tup, we_frz, we_alc, we_blt, we_call, we_meth, we_sl, we_isi, we_isi2, we_dsp, we_newd, wt_val, wt_cmp, wt_not, wt_andv, wt_orv, wt_and1, wt_or1, wt_and, wt_or, wa_nil, wa_cons, wn_disp, wn_lis, wn_comp, wi_rng, wi_enu, wi_one, wo_non, wo_some, ws_nop, ws_nil, ws_brk, ws_cnt, ws_retn, ws_exp, ws_ret, ws_raise, ws_ite, ws_set, ws_set, ws_setcF, ws_setcT, ws_par, ws_put, ws_seq, ws_for, ws_while, ws_try, List.getElem?_cons_zero, List.getElem?_cons_succ, Option.some.injEq, exists_eq_left', exists_eq_left, true_implies, forall_const, Bool.true_eq_false, Bool.false_eq_true, false_implies, and_true, true_and, setT, List.set_cons_zero, List.set_cons_succ, List.length_cons, List.length_nil, setAll, Option.bind_some, asB, Bool.not_true, Bool.not_false, o_add_i, o_add_s, o_add_t, o_add_l, o_sub_i, o_mul_i, o_fdv_i, o_mod_i, o_neg_i, o_lt_i, o_le_i, o_gt_i, o_ge_i, o_is_n, o_isn_n, o_eq_d, o_ne_d, o_in_d, o_nin_d, bx_len, bx_int, bx_min, bx_max, bx_sum, bx_all, bx_any, bx_tuple, b_min_i, b_max_i, b_int_i, b_int_b, b_len_t, b_len_l, b_len_c, b_len_s, b_tup_t, b_tup_l, b_lis_t, b_lis_l, isa_tab, ty_non, ty_bl, ty_int, ty_str, ty_tup, ty_lst, ty_scr, ty_dic, tr_non, tr_bl, tr_int, tr_tup, tr_lst, tr_scr, nm_set, tp_set, ix_t, ix_l, ix_c, at_0, at_1, at_2, at_3, at_m, at_m1, range1, items_t, items_l, items_s, enu_t, enu_l, bel_int, bel_str, bel_bl, bel_non, out_bl, out_int, out_str, out_non, out_nx, mk_ends, mk_join, g_ends, fEq_i, fEq_b, rI_l, rI_d, rS_d, rL_l, r_pop, r_pop1, r_app, rr_q, rr_ix, rr_ixs, rr_len, rr_tup, rr_tru, rr_mkp, rr_mka, rr_pop, rr_app, rr_put, ok_put, out_rt, out_ex, Prod.mk.injEq, exists_eq, exists_and_left, exists_eq', bne_self_eq_false, Int.reduceBNe, Bool.true_and, and_assoc, Rs.ok.injEq, D.tup.injEq, D.bl.injEq, D.int.injEq, List.cons.injEq, enter_bs, D.bel, D.bels, List.cons_append, List.nil_append, startS, List.map_cons, List.map_nil, List.replicate_succ, List.replicate_zero, Nat.reduceSub, Nat.reduceAdd, Bool.or_false, Bool.false_or, Bool.or_true, Bool.true_or, Bool.and_true, Bool.and_false, Bool.true_and, Bool.false_and, if_true, if_false, reduceCtorEq, Bool.not_eq_true, decide_eq_true_eq, decide_eq_false_iff_not, and_self, onok, onokS, onnx, ite_true, ite_false, reduceIte, rS_d, hg]
  | str _ => rw [hi rfl]; simp only [onok_ok, onok_ex, onokS_ok, onokS_ex, onnx_nx, onnx_rt, onnx_bk, onnx_ct, onnx_ex, wc_ok, we_v, we_c, we_g, we_bin, we_cmp, we_ix, we_neg, we_not, we_ite, we_andv, we_orv, we_and1, we_or1, we_and, we_or, we_tup, we_frz, we_alc, we_blt, we_call, we_meth, we_sl, we_isi, we_isi2, we_dsp, we_newd, wt_val, wt_cmp, wt_not, wt_andv, wt_orv, wt_and1, wt_or1, wt_and, wt_or, wa_nil, wa_cons, wn_disp, wn_lis, wn_comp, wi_rng, wi_enu, wi_one, wo_non, wo_some, ws_nop, ws_nil, ws_brk, ws_cnt, ws_retn, ws_exp, ws_ret, ws_raise, ws_ite, ws_set, ws_set, ws_setcF, ws_setcT, ws_par, ws_put, ws_seq, ws_for, ws_while, ws_try, List.getElem?_cons_zero, List.getElem?_cons_succ, Option.some.injEq, exists_eq_left', exists_eq_left, true_implies, forall_const, Bool.true_eq_false, Bool.false_eq_true, false_implies, and_true, true_and, setT, List.set_cons_zero, List.set_cons_succ, List.length_cons, List.length_nil, setAll, Option.bind_some, asB, Bool.not_true, Bool.not_false, o_add_i, o_add_s, o_add_t, o_add_l, o_sub_i, o_mul_i, o_fdv_i, o_mod_i, o_neg_i, o_lt_i, o_le_i, o_gt_i, o_ge_i, o_is_n, o_isn_n, o_eq_d, o_ne_d, o_in_d, o_nin_d, bx_len, bx_int, bx_min, bx_max, bx_sum, bx_all, bx_any, bx_tuple, b_min_i, b_max_i, b_int_i, b_int_b, b_len_t, b_len_l, b_len_c, b_len_s, b_tup_t, b_tup_l, b_lis_t, b_lis_l, isa_tab, ty_non, ty_bl, ty_int, ty_str, ty_tup, ty_lst, ty_scr, ty_dic, tr_non, tr_bl, tr_int, tr_tup, tr_lst, tr_scr, nm_set, tp_set, ix_t, ix_l, ix_c, at_0, at_1, at_2, at_3, at_m, at_m1, range1, items_t, items_l, items_s, enu_t, enu_l, bel_int, bel_str, bel_bl, bel_non, out_bl, out_int, out_str, out_non, out_nx, mk_ends, mk_join, g_ends, fEq_i, fEq_b, rI_l, rI_d, rS_d, rL_l, r_pop, r_pop1, r_app, rr_q, rr_ix, rr_ixs, rr_len, rr_tup, rr_tru, rr_mkp, rr_mka, rr_pop, rr_app, rr_put, ok_put, out_rt, out_ex, Prod.mk.injEq, exists_eq, exists_and_left, exists_eq', bne_self_eq_false, Int.reduceBNe, Bool.true_and, and_assoc, Rs.ok.injEq, D.tup.injEq, D.bl.injEq, D.int.injEq, List.cons.injEq, enter_bs, D.bel, D.bels, List.cons_append, List.nil_append, startS, List.map_cons, List.map_nil, List.replicate_succ, List.replicate_zero, Nat.reduceSub, Nat.reduceAdd, Bool.or_false, Bool.false_or, Bool.or_true, Bool.true_or, Bool.and_true, Bool.and_false, Bool.true_and, Bool.false_and, if_true, if_false, reduceCtorEq, Bool.not_eq_true, decide_eq_true_eq, decide_eq_false_iff_not, and_self, onok, onokS, onnx, ite_true, ite_false, reduceIte, rS_d, hg]
  | tup _ => rw [hi rfl]; simp only [onok_ok, onok_ex, onokS_ok, onokS_ex, onnx_nx, onnx_rt, onnx_bk, onnx_ct, onnx_ex, wc_ok, we_v, we_c, we_g, we_bin, we_cmp, we_ix, we_neg, we_not, we_ite, we_andv, we_orv, we_and1, we_or1, we_and, we_or, we_tup, we_frz, we_alc, we_blt, we_call, we_meth, we_sl, we_isi, we_isi2, we_dsp, we_newd, wt_val, wt_cmp, wt_not, wt_andv, wt_orv, wt_and1, wt_or1, wt_and, wt_or, wa_nil, wa_cons, wn_disp, wn_lis, wn_comp, wi_rng, wi_enu, wi_one, wo_non, wo_some, ws_nop, ws_nil, ws_brk, ws_cnt, ws_retn, ws_exp, ws_ret, ws_raise, ws_ite, ws_set, ws_set, ws_setcF, ws_setcT, ws_par, ws_put, ws_seq, ws_for, ws_while, ws_try, List.getElem?_cons_zero, List.getElem?_cons_succ, Option.some.injEq, exists_eq_left', exists_eq_left, true_implies, forall_const, Bool.true_eq_false, Bool.false_eq_true, false_implies, and_true, true_and, setT, List.set_cons_zero, List.set_cons_succ, List.length_cons, List.length_nil, setAll, Option.bind_some, asB, Bool.not_true, Bool.not_false, o_add_i, o_add_s, o_add_t, o_add_l, o_sub_i, o_mul_i, o_fdv_i, o_mod_i, o_neg_i, o_lt_i, o_le_i, o_gt_i, o_ge_i, o_is_n, o_isn_n, o_eq_d, o_ne_d, o_in_d, o_nin_d, bx_len, bx_int, bx_min, bx_max, bx_sum, bx_all, bx_any, bx_tuple, b_min_i, b_max_i, b_int_i, b_int_b, b_len_t, b_len_l, b_len_c, b_len_s, b_tup_t, b_tup_l, b_lis_t, b_lis_l, isa_tab, ty_non, ty_bl, ty_int, ty_str, ty_tup, ty_lst, ty_scr, ty_dic, tr_non, tr_bl, tr_int, tr_tup, tr_lst, tr_scr, nm_set, tp_set, ix_t, ix_l, ix_c, at_0, at_1, at_2, at_3, at_m, at_m1, range1, items_t, items_l, items_s, enu_t, enu_l, bel_int, bel_str, bel_bl, bel_non, out_bl, out_int, out_str, out_non, out_nx, mk_ends, mk_join, g_ends, fEq_i, fEq_b, rI_l, rI_d, rS_d, rL_l, r_pop, r_pop1, r_app, rr_q, rr_ix, rr_ixs, rr_len, rr_tup, rr_tru, rr_mkp, rr_mka, rr_pop, rr_app, rr_put, ok_put, out_rt, out_ex, Prod.mk.injEq, exists_eq, exists_and_left, exists_eq', bne_self_eq_false, Int.reduceBNe, Bool.true_and, and_assoc, Rs.ok.injEq, D.tup.injEq, D.bl.injEq, D.int.injEq, List.cons.injEq, enter_bs, D.bel, D.bels, List.cons_append, List.nil_append, startS, List.map_cons, List.map_nil, List.replicate_succ, List.replicate_zero, Nat.reduceSub, Nat.reduceAdd, Bool.or_false, Bool.false_or, Bool.or_true, Bool.true_or, Bool.and_true, Bool.and_false, Bool.true_and, Bool.false_and, if_true, if_false, reduceCtorEq, Bool.not_eq_true, decide_eq_true_eq, decide_eq_false_iff_not, and_self, onok, onokS, onnx, ite_true, ite_false, reduceIte, rS_d, hg]
theorem ek4 {x : Str} {v : D} (hx : PyData.canLay0 (.str x) = true) (h : eqOk 3 v = true) : eqOk 4 (.tup [.str x, v]) = true := by
  show (decide (2 ≤ 1000) && (PyData.canLay0 (.str x) && (eqOk 3 v && true))) = true
  rw [hx, h]; rfl
theorem mem_at {xs : List D} {r : Int} (h0 : 0 ≤ r) (h1 : r < xs.length) : ∃ b, b ∈ xs ∧ L2.atI xs r = some b := by
  obtain ⟨k, rfl⟩ : ∃ k : Nat, r = (k : Nat) := ⟨r.toNat, by omega⟩
  have hl : k < xs.length := by omega
  exact ⟨xs[k], List.getElem_mem hl, by rw [at_ok hl]; simp [hl]⟩
theorem plB_of {b : D} (h : (tl b).bel 0 = true) (h2 : eqOk 3 (tl b) = true) : plB b = true := by
  cases b with
  | ref _ => cases h2
  | ins _ _ => cases h2
  | dic _ _ => cases h2
  | scr _ => cases h2
  | _ => rfl
end K00

set_option Elab.async false
set_option linter.all false
set_option maxRecDepth 100000
set_option maxHeartbeats 0
namespace K00
open PySem Hb L2
theorem seq_step {a r : S} {call : Nat → Cl} {sl sl1 : Sl} {st s1 : Sto} {Q : Fl → Sl → Sto → Prop} (h : ∀ Q, wS (evS md.tb md.cfl call a) sl st Q = Q .nx sl1 s1) (k : wS (evS md.tb md.cfl call r) sl1 s1 Q) : wS (evS md.tb md.cfl call (.seq a r)) sl st Q := by
  rw [ws_seq, h]
  exact k
theorem we_dsp' {tb : Tb} {call : Nat → Cl} {sl : Sl} {st : Sto} {Q : Rs D → Sto → Prop} {ks : List L2.Key} {r : E} {xs : List D} {s1 : Sto} (e : evA tb call r sl st = some (.ok xs, s1)) (hl : xs.length = ks.length) : wE (evE tb call (.dsp true ks r)) sl st Q = Q (.ok (.ref s1.o.length)) (s1.add (.dic ks xs)) := by
  rw [we_dsp]
  apply propext
  constructor
  · rintro ⟨ys, s2, e2, _, h, _⟩
    rw [e] at e2
    cases e2
    exact h rfl
  · intro h
    exact ⟨xs, s1, e, hl, fun _ => h, fun z => by cases z⟩
theorem dk0 {bs : List Nat} {O : List SO} {a : Int} {fs : List Int} (h0 : 0 ≤ a) (hf : ∀ f ∈ fs, 0 ≤ f ∧ f < 36) : Dk ⟨bs, dk a fs :: O⟩ 0 a fs := ⟨rfl, h0, hf⟩
theorem draw0 (n : Nat) {bs : List Nat} {O : List SO} {a : Int} {fs : List Int} (h0 : 0 ≤ a) (hf : ∀ f ∈ fs, 0 ≤ f ∧ f < 36) (m : Int) (hm : 0 < m) (hm2 : m < 1000) : ∃ r, 0 ≤ r ∧ r < m ∧ md.call (n + 1) 18 [.ref 0, .int m] ⟨bs, dk a fs :: O⟩ = some (.ok (.int r), ⟨bs, dk (a + 1) fs :: O⟩) := c_draw n 0 a fs _ m hm hm2 (dk0 h0 hf)
theorem out_ref {a a' : Int} {fs : List Int} {Y : SO} {b : Bool} : outF false ⟨[0], [dk a fs]⟩ ⟨[1, 0], [dk a' fs, Y]⟩ (.rt (.bl b)) = some (.ok (.bl b), ⟨[0], [dk a' fs]⟩) := rfl
theorem lN : PyData.canLay0 (.str nH) = true := by decide +kernel
theorem lK : PyData.canLay0 (.str nK) = true := by decide +kernel
theorem lT : PyData.canLay0 (.str nT) = true := by decide +kernel
theorem lR : PyData.canLay0 (.str nR) = true := by decide +kernel
theorem c_refusals (a : Int) (fs : List Int) (h0 : 0 ≤ a) (hf : ∀ f ∈ fs, 0 ≤ f ∧ f < 36) (ho : Ho) (hh : ho.Ok) (ws : List Wd) (hw : ∀ w ∈ ws, w.Ok) (hl : ws.length ≤ 100) :
    ∃ a', md.call 29 30 [.ref 0, ho.d, .lst (ws.map strD)] ⟨[0], [dk a fs]⟩ = some (.ok (.bl true), ⟨[0], [dk a' fs]⟩) := by
  obtain ⟨r1, p1, p2, e1⟩ := draw0 27 (bs := [1, 0]) (O := []) h0 hf 9 (by omega) (by omega)
  obtain ⟨r2, p3, p4, e2⟩ := draw0 27 (bs := [1, 0]) (O := []) (a := a + 1) (by omega) hf 9 (by omega) (by omega)
  obtain ⟨r3, p5, p6, e3⟩ := draw0 27 (bs := [1, 0]) (O := []) (a := a + 1 + 1) (by omega) hf 6 (by omega) (by omega)
  obtain ⟨b1, m1, g1⟩ := mem_at (xs := badH) p1 p2
  obtain ⟨b2, m2, g2⟩ := mem_at (xs := badT) p3 p4
  obtain ⟨b3, m3, g3⟩ := mem_at (xs := badK ho) p5 p6
  have B1 := badH_ok b1 m1
  have B2 := badT_ok b2 m2
  have B3 := badK_ok ho hh b3 m3
  obtain ⟨r4, p7, p8, e4⟩ := draw0 27 (bs := [1, 0]) (O := [.dic KS [tl b1, tl b2, tl b3]]) (a := a + 1 + 1 + 1) (by omega) hf 36 (by omega) (by omega)
  obtain ⟨r5, p9, p10, e5⟩ := draw0 27 (bs := [1, 0]) (O := [.dic KS [tl b1, tl b2, tl b3]]) (a := a + 1 + 1 + 1 + 1) (by omega) hf 3 (by omega) (by omega)
  refine ⟨a + 1 + 1 + 1 + 1 + 1, run_to (d := ⟨_, _, _, f__law_refusals⟩) rfl rfl ?_⟩
  -- the row's place
  have q0 : (0 : Int) < (ws.length : Int) + 1 := by omega
  obtain ⟨j, hj⟩ : ∃ j : Nat, r4 % ((ws.length : Int) + 1) = (j : Nat) := ⟨(r4 % ((ws.length : Int) + 1)).toNat, by have := Int.emod_nonneg r4 (show ((ws.length : Int) + 1) ≠ 0 by omega); omega⟩
  have hjl : j ≤ ws.length := by have := Int.emod_lt_of_pos r4 q0; omega
  have lw : (ws.map strD).length = ws.length := by simp
  have s1 : ∀ st, fSl (.lst (ws.map strD)) none (some (j : Nat)) st = some (.lst ((ws.take j).map strD)) := fun st => by
    show some (D.lst (cutD (ws.map strD) none (some ((j : Nat) : Int)))) = _
    unfold cutD
    rw [HT.sIx_nat, HT.sIx_none, lw, Nat.min_eq_left hjl]
    simp
  have s2 : ∀ st, fSl (.lst (ws.map strD)) (some (j : Nat)) none st = some (.lst ((ws.drop j).map strD)) := fun st => by
    show some (D.lst (cutD (ws.map strD) (some ((j : Nat) : Int)) none)) = _
    unfold cutD
    rw [HT.sIx_nat, HT.sIx_none, lw, Nat.min_eq_left hjl]
    simp [List.take_of_length_le]
  have lim : 300 < sizeLine := by decide
  have lt : (ws.take j).length = j := by simp [hjl]
  have ld : (ws.drop j).length = ws.length - j := by simp
  have a1 : ((ws.take j).map strD).length + 1 ≤ sizeLine := by rw [List.length_map, lt]; omega
  have a2 : ((ws.take j).map strD ++ [b2]).length + ((ws.drop j).map strD).length ≤ sizeLine := by
    rw [List.length_append, List.length_map, List.length_map, lt, ld]; show j + 1 + _ ≤ _; omega
  have a3 : (((ws.take j).map strD ++ [b2]) ++ (ws.drop j).map strD).length + 1 ≤ sizeLine := by
    rw [List.length_append, List.length_append, List.length_map, List.length_map, lt, ld]; show j + 1 + _ + 1 ≤ _; omega
  have rowE : (((ws.take j).map strD ++ [b2]) ++ (ws.drop j).map strD) ++ [b2] = (ws.take j).map strD ++ b2 :: ((ws.drop j).map strD ++ [b2]) := by simp
  have okt : ∀ w ∈ ws.take j, w.Ok := fun w h => hw w (List.mem_of_mem_take h)
  have tR : ∀ st, md.call 28 28 [ho.d, .int 0, .lst ((ws.take j).map strD ++ b2 :: ((ws.drop j).map strD ++ [b2]))] st = some (.ok (.tup [.str nR, .int (j : Nat)]), st) := fun st => told_row 23 _ _ _ _ 4 nR (.inr (.inr ⟨rfl, rfl⟩)) rfl (fun st => row_T _ ho hh _ _ (fun n st => by
    have := texts_no n (ws.take j) okt B2 ((ws.drop j).map strD ++ [b2]) st
    rw [lt] at this
    exact this) st) st
  -- the lone one
  obtain ⟨b5, m5, g5⟩ := mem_at (xs := [D.str ⟨#[97, 98]⟩, .int 7, .non]) p9 p10
  have L5 : ∀ n st, md.call (n + 1) 2 [b5] st = some (.ok (.bl false), st) := fun n st => c_ll_atom n b5 (by
    simp only [List.mem_cons, List.not_mem_nil, or_false] at m5
    rcases m5 with rfl | rfl | rfl <;> rfl) st
  have t1 : ∀ y z st, md.call 28 27 [b1, y, z] st = some (.ok (.tup [.str nH, tl b1]), st) := fun y z st => told_of 23 _ _ _ _ 3 nH (.inl ⟨rfl, rfl⟩) B1.bel (fun st => said_H _ B1 y z st) st
  have t2 : ∀ z st, md.call 28 27 [ho.d, b3, z] st = some (.ok (.tup [.str nK, tl b3]), st) := fun z st => told_of 23 _ _ _ _ 2 nK (.inr (.inl ⟨rfl, rfl⟩)) B3.bel (fun st => said_K _ ho hh B3 z st) st
  have t3 : ∀ st, md.call 28 27 [ho.d, .int 0, b2] st = some (.ok (.tup [.str nT, tl b2]), st) := fun st => told_of 23 _ _ _ _ 1 nT (.inr (.inr ⟨rfl, rfl⟩)) B2.bel (fun st => said_T _ ho hh B2 st) st
  have t5 : ∀ st, md.call 28 28 [ho.d, .int 0, b5] st = some (.ok (.tup [.str nR, .int (-1)]), st) := fun st => told_row 23 _ _ _ _ 4 nR (.inr (.inr ⟨rfl, rfl⟩)) rfl (fun st => row_T _ ho hh _ _ (fun n st => texts_lone n L5 st) st) st
  have t6 : ∀ z st, md.call 28 28 [ho.d, b3, z] st = some (.ok (.tup [.str nK, tl b3]), st) := fun z st => told_row 23 _ _ _ _ 2 nK (.inr (.inl ⟨rfl, rfl⟩)) B3.bel (fun st => row_K _ ho hh B3 z st) st
  have t7 : ∀ y z st, md.call 28 28 [b1, y, z] st = some (.ok (.tup [.str nH, tl b1]), st) := fun y z st => told_row 23 _ _ _ _ 3 nH (.inl ⟨rfl, rfl⟩) B1.bel (fun st => row_H _ B1 y z st) st
  have q1 : ∀ st, md.call 28 21 [.tup [.str nH, tl b1], .tup [.str nH, tl b1], .int 4] st = some (.ok (.bl true), st) := fun st => c_eq4 22 _ st (ek4 lN B1.ek)
  have q2 : ∀ st, md.call 28 21 [.tup [.str nK, tl b3], .tup [.str nK, tl b3], .int 4] st = some (.ok (.bl true), st) := fun st => c_eq4 22 _ st (ek4 lK B3.ek)
  have q3 : ∀ st, md.call 28 21 [.tup [.str nT, tl b2], .tup [.str nT, tl b2], .int 4] st = some (.ok (.bl true), st) := fun st => c_eq4 22 _ st (ek4 lT B2.ek)
  have q4 : ∀ i st, md.call 28 21 [.tup [.str nR, .int i], .tup [.str nR, .int i], .int 3] st = some (.ok (.bl true), st) := fun i st => c_eq3 23 _ st (by
    show (decide (2 ≤ 1000) && (PyData.canLay0 (.str nR) && (true && true))) = true
    rw [lR]; rfl)
  have lb : ∀ st, md.call 28 24 [ho.d] st = some (.ok (.int ho.n), st) := fun st => c_lbound 27 ho st
  have u1 : ∀ X Q (o0 o1 o2 o3 o4 o5 o6 o9 o10 o11 : Option D), wS (evS md.tb md.cfl (md.call 28) bTurn) [o0, o1, o2, o3, o4, o5, o6, some (.ref 1), some (.str sN), o9, o10, o11] ⟨[1, 0], [X, .dic KS [b1, b2, b3]]⟩ Q = Q .nx [o0, o1, o2, o3, o4, o5, o6, some (.ref 1), some (.str sN), o9, o10, o11] ⟨[1, 0], [X, .dic KS [tl b1, b2, b3]]⟩ := fun X Q _ _ _ _ _ _ _ _ _ _ => turn _ X _ _ sN b1 (plB_of B1.bel B1.ek) dg1 dp1 (fun e => by rw [e]) _ _ _ _ _ _ _ _ _ _ Q
  have u2 : ∀ X Q (o0 o1 o2 o3 o4 o5 o6 o9 o10 o11 : Option D), wS (evS md.tb md.cfl (md.call 28) bTurn) [o0, o1, o2, o3, o4, o5, o6, some (.ref 1), some (.str sP), o9, o10, o11] ⟨[1, 0], [X, .dic KS [tl b1, b2, b3]]⟩ Q = Q .nx [o0, o1, o2, o3, o4, o5, o6, some (.ref 1), some (.str sP), o9, o10, o11] ⟨[1, 0], [X, .dic KS [tl b1, tl b2, b3]]⟩ := fun X Q _ _ _ _ _ _ _ _ _ _ => turn _ X _ _ sP b2 (plB_of B2.bel B2.ek) dg2 dp2 (fun e => by rw [e]) _ _ _ _ _ _ _ _ _ _ Q
  have u3 : ∀ X Q (o0 o1 o2 o3 o4 o5 o6 o9 o10 o11 : Option D), wS (evS md.tb md.cfl (md.call 28) bTurn) [o0, o1, o2, o3, o4, o5, o6, some (.ref 1), some (.str sM), o9, o10, o11] ⟨[1, 0], [X, .dic KS [tl b1, tl b2, b3]]⟩ Q = Q .nx [o0, o1, o2, o3, o4, o5, o6, some (.ref 1), some (.str sM), o9, o10, o11] ⟨[1, 0], [X, .dic KS [tl b1, tl b2, tl b3]]⟩ := fun X Q _ _ _ _ _ _ _ _ _ _ => turn _ X _ _ sM b3 (plB_of B3.bel B3.ek) dg3 dp3 (fun e => by rw [e]) _ _ _ _ _ _ _ _ _ _ Q
  simp only [badH] at g1
  simp only [badT] at g2
  have en : Sto.enter ⟨[0], [dk a fs]⟩ = ⟨[1, 0], [dk a fs]⟩ := rfl
  have tp : ∀ Q, wS (evS md.tb md.cfl (md.call 28) (.ite (.cmp .eq (.v 5) (.c (.int 0))) (.seq (.set (.nm 5) (.neg (.c (.int 1)))) (.nil)) (.nil))) [some (.ref 0), some ho.d, some (.lst (ws.map strD)), some b1, some b2, some (.int ho.n), none, none, none, none, none, none] ⟨[1, 0], [dk (a + 1 + 1) fs]⟩ Q = Q .nx [some (.ref 0), some ho.d, some (.lst (ws.map strD)), some b1, some b2, some (.int (topK ho)), none, none, none, none, none, none] ⟨[1, 0], [dk (a + 1 + 1) fs]⟩ := fun Q => by
    by_cases z : ho.n = 0
    · have tk : topK ho = -1 := if_pos z
      simp only [onok_ok, onok_ex, onokS_ok, onokS_ex, onnx_nx, onnx_rt, onnx_bk, onnx_ct, onnx_ex, wc_ok, we_v, we_c, we_g, we_bin, we_cmp, we_ix, we_neg, we_not, we_ite, we_andv, we_orv, we_and1, we_or1, we_and, we_or, we_tup, we_frz, we_alc, we_blt, we_call, we_meth, we_sl, we_isi, we_isi2, we_dsp, we_newd, wt_val, wt_cmp, wt_not, wt_andv, wt_orv, wt_and1, wt_or1, wt_and, wt_or, wa_nil, wa_cons, wn_disp, wn_lis, wn_comp, wi_rng, wi_enu, wi_one, wo_non, wo_some, ws_nop, ws_nil, ws_brk, ws_cnt, ws_retn, ws_exp, ws_ret, ws_raise, ws_ite, ws_set, ws_set, ws_setcF, ws_setcT, ws_par, ws_put, ws_seq, ws_for, ws_while, ws_try, List.getElem?_cons_zero, List.getElem?_cons_succ, Option.some.injEq, exists_eq_left', exists_eq_left, true_implies, forall_const, Bool.true_eq_false, Bool.false_eq_true, false_implies, and_true, true_and, setT, List.set_cons_zero, List.set_cons_succ, List.length_cons, List.length_nil, setAll, Option.bind_some, asB, Bool.not_true, Bool.not_false, o_add_i, o_add_s, o_add_t, o_add_l, o_sub_i, o_mul_i, o_fdv_i, o_mod_i, o_neg_i, o_lt_i, o_le_i, o_gt_i, o_ge_i, o_is_n, o_isn_n, o_eq_d, o_ne_d, o_in_d, o_nin_d, bx_len, bx_int, bx_min, bx_max, bx_sum, bx_all, bx_any, bx_tuple, b_min_i, b_max_i, b_int_i, b_int_b, b_len_t, b_len_l, b_len_c, b_len_s, b_tup_t, b_tup_l, b_lis_t, b_lis_l, isa_tab, ty_non, ty_bl, ty_int, ty_str, ty_tup, ty_lst, ty_scr, ty_dic, tr_non, tr_bl, tr_int, tr_tup, tr_lst, tr_scr, nm_set, tp_set, ix_t, ix_l, ix_c, at_0, at_1, at_2, at_3, at_m, at_m1, range1, items_t, items_l, items_s, enu_t, enu_l, bel_int, bel_str, bel_bl, bel_non, out_bl, out_int, out_str, out_non, out_nx, mk_ends, mk_join, g_ends, fEq_i, fEq_b, rI_l, rI_d, rS_d, rL_l, r_pop, r_pop1, r_app, rr_q, rr_ix, rr_ixs, rr_len, rr_tup, rr_tru, rr_mkp, rr_mka, rr_pop, rr_app, rr_put, ok_put, out_rt, out_ex, Prod.mk.injEq, exists_eq, exists_and_left, exists_eq', bne_self_eq_false, Int.reduceBNe, Bool.true_and, and_assoc, Rs.ok.injEq, D.tup.injEq, D.bl.injEq, D.int.injEq, List.cons.injEq, enter_bs, D.bel, D.bels, List.cons_append, List.nil_append, startS, List.map_cons, List.map_nil, List.replicate_succ, List.replicate_zero, Nat.reduceSub, Nat.reduceAdd, Bool.or_false, Bool.false_or, Bool.or_true, Bool.true_or, Bool.and_true, Bool.and_false, Bool.true_and, Bool.false_and, if_true, if_false, reduceCtorEq, Bool.not_eq_true, decide_eq_true_eq, decide_eq_false_iff_not, and_self, onok, onokS, onnx, ite_true, ite_false, reduceIte, fEq_i, z, decide_true, Int.reduceNeg, tk]
    · have tk : topK ho = ho.n := if_neg z
      simp only [onok_ok, onok_ex, onokS_ok, onokS_ex, onnx_nx, onnx_rt, onnx_bk, onnx_ct, onnx_ex, wc_ok, we_v, we_c, we_g, we_bin, we_cmp, we_ix, we_neg, we_not, we_ite, we_andv, we_orv, we_and1, we_or1, we_and, we_or, we_tup, we_frz, we_alc, we_blt, we_call, we_meth, we_sl, we_isi, we_isi2, we_dsp, we_newd, wt_val, wt_cmp, wt_not, wt_andv, wt_orv, wt_and1, wt_or1, wt_and, wt_or, wa_nil, wa_cons, wn_disp, wn_lis, wn_comp, wi_rng, wi_enu, wi_one, wo_non, wo_some, ws_nop, ws_nil, ws_brk, ws_cnt, ws_retn, ws_exp, ws_ret, ws_raise, ws_ite, ws_set, ws_set, ws_setcF, ws_setcT, ws_par, ws_put, ws_seq, ws_for, ws_while, ws_try, List.getElem?_cons_zero, List.getElem?_cons_succ, Option.some.injEq, exists_eq_left', exists_eq_left, true_implies, forall_const, Bool.true_eq_false, Bool.false_eq_true, false_implies, and_true, true_and, setT, List.set_cons_zero, List.set_cons_succ, List.length_cons, List.length_nil, setAll, Option.bind_some, asB, Bool.not_true, Bool.not_false, o_add_i, o_add_s, o_add_t, o_add_l, o_sub_i, o_mul_i, o_fdv_i, o_mod_i, o_neg_i, o_lt_i, o_le_i, o_gt_i, o_ge_i, o_is_n, o_isn_n, o_eq_d, o_ne_d, o_in_d, o_nin_d, bx_len, bx_int, bx_min, bx_max, bx_sum, bx_all, bx_any, bx_tuple, b_min_i, b_max_i, b_int_i, b_int_b, b_len_t, b_len_l, b_len_c, b_len_s, b_tup_t, b_tup_l, b_lis_t, b_lis_l, isa_tab, ty_non, ty_bl, ty_int, ty_str, ty_tup, ty_lst, ty_scr, ty_dic, tr_non, tr_bl, tr_int, tr_tup, tr_lst, tr_scr, nm_set, tp_set, ix_t, ix_l, ix_c, at_0, at_1, at_2, at_3, at_m, at_m1, range1, items_t, items_l, items_s, enu_t, enu_l, bel_int, bel_str, bel_bl, bel_non, out_bl, out_int, out_str, out_non, out_nx, mk_ends, mk_join, g_ends, fEq_i, fEq_b, rI_l, rI_d, rS_d, rL_l, r_pop, r_pop1, r_app, rr_q, rr_ix, rr_ixs, rr_len, rr_tup, rr_tru, rr_mkp, rr_mka, rr_pop, rr_app, rr_put, ok_put, out_rt, out_ex, Prod.mk.injEq, exists_eq, exists_and_left, exists_eq', bne_self_eq_false, Int.reduceBNe, Bool.true_and, and_assoc, Rs.ok.injEq, D.tup.injEq, D.bl.injEq, D.int.injEq, List.cons.injEq, enter_bs, D.bel, D.bels, List.cons_append, List.nil_append, startS, List.map_cons, List.map_nil, List.replicate_succ, List.replicate_zero, Nat.reduceSub, Nat.reduceAdd, Bool.or_false, Bool.false_or, Bool.or_true, Bool.true_or, Bool.and_true, Bool.and_false, Bool.true_and, Bool.false_and, if_true, if_false, reduceCtorEq, Bool.not_eq_true, decide_eq_true_eq, decide_eq_false_iff_not, and_self, onok, onokS, onnx, ite_true, ite_false, reduceIte, fEq_i, z, decide_false, tk]
  simp only [badK] at g3
  simp only [f__law_refusals, b__law_refusals, startS, List.map_cons, List.map_nil, List.length_cons, List.length_nil, Nat.reduceSub, Nat.reduceAdd, List.replicate_succ, List.replicate_zero, List.cons_append, List.nil_append, en]
  refine seq_step (sl1 := [some (.ref 0), some ho.d, some (.lst (ws.map strD)), some b1, none, none, none, none, none, none, none, none]) (s1 := ⟨[1, 0], [dk (a + 1) fs]⟩) (fun Q => by simp only [onok_ok, onok_ex, onokS_ok, onokS_ex, onnx_nx, onnx_rt, onnx_bk, onnx_ct, onnx_ex, wc_ok, we_v, we_c, we_g, we_bin, we_cmp, we_ix, we_neg, we_not, we_ite, we_andv, we_orv, we_and1, we_or1, we_and, we_or, we_tup, we_frz, we_alc, we_blt, we_call, we_meth, we_sl, we_isi, we_isi2, we_dsp, we_newd, wt_val, wt_cmp, wt_not, wt_andv, wt_orv, wt_and1, wt_or1, wt_and, wt_or, wa_nil, wa_cons, wn_disp, wn_lis, wn_comp, wi_rng, wi_enu, wi_one, wo_non, wo_some, ws_nop, ws_nil, ws_brk, ws_cnt, ws_retn, ws_exp, ws_ret, ws_raise, ws_ite, ws_set, ws_set, ws_setcF, ws_setcT, ws_par, ws_put, ws_seq, ws_for, ws_while, ws_try, List.getElem?_cons_zero, List.getElem?_cons_succ, Option.some.injEq, exists_eq_left', exists_eq_left, true_implies, forall_const, Bool.true_eq_false, Bool.false_eq_true, false_implies, and_true, true_and, setT, List.set_cons_zero, List.set_cons_succ, List.length_cons, List.length_nil, setAll, Option.bind_some, asB, Bool.not_true, Bool.not_false, o_add_i, o_add_s, o_add_t, o_add_l, o_sub_i, o_mul_i, o_fdv_i, o_mod_i, o_neg_i, o_lt_i, o_le_i, o_gt_i, o_ge_i, o_is_n, o_isn_n, o_eq_d, o_ne_d, o_in_d, o_nin_d, bx_len, bx_int, bx_min, bx_max, bx_sum, bx_all, bx_any, bx_tuple, b_min_i, b_max_i, b_int_i, b_int_b, b_len_t, b_len_l, b_len_c, b_len_s, b_tup_t, b_tup_l, b_lis_t, b_lis_l, isa_tab, ty_non, ty_bl, ty_int, ty_str, ty_tup, ty_lst, ty_scr, ty_dic, tr_non, tr_bl, tr_int, tr_tup, tr_lst, tr_scr, nm_set, tp_set, ix_t, ix_l, ix_c, at_0, at_1, at_2, at_3, at_m, at_m1, range1, items_t, items_l, items_s, enu_t, enu_l, bel_int, bel_str, bel_bl, bel_non, out_bl, out_int, out_str, out_non, out_nx, mk_ends, mk_join, g_ends, fEq_i, fEq_b, rI_l, rI_d, rS_d, rL_l, r_pop, r_pop1, r_app, rr_q, rr_ix, rr_ixs, rr_len, rr_tup, rr_tru, rr_mkp, rr_mka, rr_pop, rr_app, rr_put, ok_put, out_rt, out_ex, Prod.mk.injEq, exists_eq, exists_and_left, exists_eq', bne_self_eq_false, Int.reduceBNe, Bool.true_and, and_assoc, Rs.ok.injEq, D.tup.injEq, D.bl.injEq, D.int.injEq, List.cons.injEq, enter_bs, D.bel, D.bels, List.cons_append, List.nil_append, startS, List.map_cons, List.map_nil, List.replicate_succ, List.replicate_zero, Nat.reduceSub, Nat.reduceAdd, Bool.or_false, Bool.false_or, Bool.or_true, Bool.true_or, Bool.and_true, Bool.and_false, Bool.true_and, Bool.false_and, if_true, if_false, reduceCtorEq, Bool.not_eq_true, decide_eq_true_eq, decide_eq_false_iff_not, and_self, onok, onokS, onnx, ite_true, ite_false, reduceIte, e1, g1, Int.reduceNeg]) ?_
  refine seq_step (sl1 := [some (.ref 0), some ho.d, some (.lst (ws.map strD)), some b1, some b2, none, none, none, none, none, none, none]) (s1 := ⟨[1, 0], [dk (a + 1 + 1) fs]⟩) (fun Q => by simp only [onok_ok, onok_ex, onokS_ok, onokS_ex, onnx_nx, onnx_rt, onnx_bk, onnx_ct, onnx_ex, wc_ok, we_v, we_c, we_g, we_bin, we_cmp, we_ix, we_neg, we_not, we_ite, we_andv, we_orv, we_and1, we_or1, we_and, we_or, we_tup, we_frz, we_alc, we_blt, we_call, we_meth, we_sl, we_isi, we_isi2, we_dsp, we_newd, wt_val, wt_cmp, wt_not, wt_andv, wt_orv, wt_and1, wt_or1, wt_and, wt_or, wa_nil, wa_cons, wn_disp, wn_lis, wn_comp, wi_rng, wi_enu, wi_one, wo_non, wo_some, ws_nop, ws_nil, ws_brk, ws_cnt, ws_retn, ws_exp, ws_ret, ws_raise, ws_ite, ws_set, ws_set, ws_setcF, ws_setcT, ws_par, ws_put, ws_seq, ws_for, ws_while, ws_try, List.getElem?_cons_zero, List.getElem?_cons_succ, Option.some.injEq, exists_eq_left', exists_eq_left, true_implies, forall_const, Bool.true_eq_false, Bool.false_eq_true, false_implies, and_true, true_and, setT, List.set_cons_zero, List.set_cons_succ, List.length_cons, List.length_nil, setAll, Option.bind_some, asB, Bool.not_true, Bool.not_false, o_add_i, o_add_s, o_add_t, o_add_l, o_sub_i, o_mul_i, o_fdv_i, o_mod_i, o_neg_i, o_lt_i, o_le_i, o_gt_i, o_ge_i, o_is_n, o_isn_n, o_eq_d, o_ne_d, o_in_d, o_nin_d, bx_len, bx_int, bx_min, bx_max, bx_sum, bx_all, bx_any, bx_tuple, b_min_i, b_max_i, b_int_i, b_int_b, b_len_t, b_len_l, b_len_c, b_len_s, b_tup_t, b_tup_l, b_lis_t, b_lis_l, isa_tab, ty_non, ty_bl, ty_int, ty_str, ty_tup, ty_lst, ty_scr, ty_dic, tr_non, tr_bl, tr_int, tr_tup, tr_lst, tr_scr, nm_set, tp_set, ix_t, ix_l, ix_c, at_0, at_1, at_2, at_3, at_m, at_m1, range1, items_t, items_l, items_s, enu_t, enu_l, bel_int, bel_str, bel_bl, bel_non, out_bl, out_int, out_str, out_non, out_nx, mk_ends, mk_join, g_ends, fEq_i, fEq_b, rI_l, rI_d, rS_d, rL_l, r_pop, r_pop1, r_app, rr_q, rr_ix, rr_ixs, rr_len, rr_tup, rr_tru, rr_mkp, rr_mka, rr_pop, rr_app, rr_put, ok_put, out_rt, out_ex, Prod.mk.injEq, exists_eq, exists_and_left, exists_eq', bne_self_eq_false, Int.reduceBNe, Bool.true_and, and_assoc, Rs.ok.injEq, D.tup.injEq, D.bl.injEq, D.int.injEq, List.cons.injEq, enter_bs, D.bel, D.bels, List.cons_append, List.nil_append, startS, List.map_cons, List.map_nil, List.replicate_succ, List.replicate_zero, Nat.reduceSub, Nat.reduceAdd, Bool.or_false, Bool.false_or, Bool.or_true, Bool.true_or, Bool.and_true, Bool.and_false, Bool.true_and, Bool.false_and, if_true, if_false, reduceCtorEq, Bool.not_eq_true, decide_eq_true_eq, decide_eq_false_iff_not, and_self, onok, onokS, onnx, ite_true, ite_false, reduceIte, e2, g2]) ?_
  refine seq_step (sl1 := [some (.ref 0), some ho.d, some (.lst (ws.map strD)), some b1, some b2, some (.int ho.n), none, none, none, none, none, none]) (s1 := ⟨[1, 0], [dk (a + 1 + 1) fs]⟩) (fun Q => by simp only [onok_ok, onok_ex, onokS_ok, onokS_ex, onnx_nx, onnx_rt, onnx_bk, onnx_ct, onnx_ex, wc_ok, we_v, we_c, we_g, we_bin, we_cmp, we_ix, we_neg, we_not, we_ite, we_andv, we_orv, we_and1, we_or1, we_and, we_or, we_tup, we_frz, we_alc, we_blt, we_call, we_meth, we_sl, we_isi, we_isi2, we_dsp, we_newd, wt_val, wt_cmp, wt_not, wt_andv, wt_orv, wt_and1, wt_or1, wt_and, wt_or, wa_nil, wa_cons, wn_disp, wn_lis, wn_comp, wi_rng, wi_enu, wi_one, wo_non, wo_some, ws_nop, ws_nil, ws_brk, ws_cnt, ws_retn, ws_exp, ws_ret, ws_raise, ws_ite, ws_set, ws_set, ws_setcF, ws_setcT, ws_par, ws_put, ws_seq, ws_for, ws_while, ws_try, List.getElem?_cons_zero, List.getElem?_cons_succ, Option.some.injEq, exists_eq_left', exists_eq_left, true_implies, forall_const, Bool.true_eq_false, Bool.false_eq_true, false_implies, and_true, true_and, setT, List.set_cons_zero, List.set_cons_succ, List.length_cons, List.length_nil, setAll, Option.bind_some, asB, Bool.not_true, Bool.not_false, o_add_i, o_add_s, o_add_t, o_add_l, o_sub_i, o_mul_i, o_fdv_i, o_mod_i, o_neg_i, o_lt_i, o_le_i, o_gt_i, o_ge_i, o_is_n, o_isn_n, o_eq_d, o_ne_d, o_in_d, o_nin_d, bx_len, bx_int, bx_min, bx_max, bx_sum, bx_all, bx_any, bx_tuple, b_min_i, b_max_i, b_int_i, b_int_b, b_len_t, b_len_l, b_len_c, b_len_s, b_tup_t, b_tup_l, b_lis_t, b_lis_l, isa_tab, ty_non, ty_bl, ty_int, ty_str, ty_tup, ty_lst, ty_scr, ty_dic, tr_non, tr_bl, tr_int, tr_tup, tr_lst, tr_scr, nm_set, tp_set, ix_t, ix_l, ix_c, at_0, at_1, at_2, at_3, at_m, at_m1, range1, items_t, items_l, items_s, enu_t, enu_l, bel_int, bel_str, bel_bl, bel_non, out_bl, out_int, out_str, out_non, out_nx, mk_ends, mk_join, g_ends, fEq_i, fEq_b, rI_l, rI_d, rS_d, rL_l, r_pop, r_pop1, r_app, rr_q, rr_ix, rr_ixs, rr_len, rr_tup, rr_tru, rr_mkp, rr_mka, rr_pop, rr_app, rr_put, ok_put, out_rt, out_ex, Prod.mk.injEq, exists_eq, exists_and_left, exists_eq', bne_self_eq_false, Int.reduceBNe, Bool.true_and, and_assoc, Rs.ok.injEq, D.tup.injEq, D.bl.injEq, D.int.injEq, List.cons.injEq, enter_bs, D.bel, D.bels, List.cons_append, List.nil_append, startS, List.map_cons, List.map_nil, List.replicate_succ, List.replicate_zero, Nat.reduceSub, Nat.reduceAdd, Bool.or_false, Bool.false_or, Bool.or_true, Bool.true_or, Bool.and_true, Bool.and_false, Bool.true_and, Bool.false_and, if_true, if_false, reduceCtorEq, Bool.not_eq_true, decide_eq_true_eq, decide_eq_false_iff_not, and_self, onok, onokS, onnx, ite_true, ite_false, reduceIte, lb]) ?_
  refine seq_step tp ?_
  refine seq_step (sl1 := [some (.ref 0), some ho.d, some (.lst (ws.map strD)), some b1, some b2, some (.int (topK ho)), some b3, none, none, none, none, none]) (s1 := ⟨[1, 0], [dk (a + 1 + 1 + 1) fs]⟩) (fun Q => by simp only [onok_ok, onok_ex, onokS_ok, onokS_ex, onnx_nx, onnx_rt, onnx_bk, onnx_ct, onnx_ex, wc_ok, we_v, we_c, we_g, we_bin, we_cmp, we_ix, we_neg, we_not, we_ite, we_andv, we_orv, we_and1, we_or1, we_and, we_or, we_tup, we_frz, we_alc, we_blt, we_call, we_meth, we_sl, we_isi, we_isi2, we_dsp, we_newd, wt_val, wt_cmp, wt_not, wt_andv, wt_orv, wt_and1, wt_or1, wt_and, wt_or, wa_nil, wa_cons, wn_disp, wn_lis, wn_comp, wi_rng, wi_enu, wi_one, wo_non, wo_some, ws_nop, ws_nil, ws_brk, ws_cnt, ws_retn, ws_exp, ws_ret, ws_raise, ws_ite, ws_set, ws_set, ws_setcF, ws_setcT, ws_par, ws_put, ws_seq, ws_for, ws_while, ws_try, List.getElem?_cons_zero, List.getElem?_cons_succ, Option.some.injEq, exists_eq_left', exists_eq_left, true_implies, forall_const, Bool.true_eq_false, Bool.false_eq_true, false_implies, and_true, true_and, setT, List.set_cons_zero, List.set_cons_succ, List.length_cons, List.length_nil, setAll, Option.bind_some, asB, Bool.not_true, Bool.not_false, o_add_i, o_add_s, o_add_t, o_add_l, o_sub_i, o_mul_i, o_fdv_i, o_mod_i, o_neg_i, o_lt_i, o_le_i, o_gt_i, o_ge_i, o_is_n, o_isn_n, o_eq_d, o_ne_d, o_in_d, o_nin_d, bx_len, bx_int, bx_min, bx_max, bx_sum, bx_all, bx_any, bx_tuple, b_min_i, b_max_i, b_int_i, b_int_b, b_len_t, b_len_l, b_len_c, b_len_s, b_tup_t, b_tup_l, b_lis_t, b_lis_l, isa_tab, ty_non, ty_bl, ty_int, ty_str, ty_tup, ty_lst, ty_scr, ty_dic, tr_non, tr_bl, tr_int, tr_tup, tr_lst, tr_scr, nm_set, tp_set, ix_t, ix_l, ix_c, at_0, at_1, at_2, at_3, at_m, at_m1, range1, items_t, items_l, items_s, enu_t, enu_l, bel_int, bel_str, bel_bl, bel_non, out_bl, out_int, out_str, out_non, out_nx, mk_ends, mk_join, g_ends, fEq_i, fEq_b, rI_l, rI_d, rS_d, rL_l, r_pop, r_pop1, r_app, rr_q, rr_ix, rr_ixs, rr_len, rr_tup, rr_tru, rr_mkp, rr_mka, rr_pop, rr_app, rr_put, ok_put, out_rt, out_ex, Prod.mk.injEq, exists_eq, exists_and_left, exists_eq', bne_self_eq_false, Int.reduceBNe, Bool.true_and, and_assoc, Rs.ok.injEq, D.tup.injEq, D.bl.injEq, D.int.injEq, List.cons.injEq, enter_bs, D.bel, D.bels, List.cons_append, List.nil_append, startS, List.map_cons, List.map_nil, List.replicate_succ, List.replicate_zero, Nat.reduceSub, Nat.reduceAdd, Bool.or_false, Bool.false_or, Bool.or_true, Bool.true_or, Bool.and_true, Bool.and_false, Bool.true_and, Bool.false_and, if_true, if_false, reduceCtorEq, Bool.not_eq_true, decide_eq_true_eq, decide_eq_false_iff_not, and_self, onok, onokS, onnx, ite_true, ite_false, reduceIte, e3, g3, Int.reduceNeg]) ?_
  refine seq_step (sl1 := [some (.ref 0), some ho.d, some (.lst (ws.map strD)), some b1, some b2, some (.int (topK ho)), some b3, some (.ref 1), none, none, none, none]) (s1 := ⟨[1, 0], [dk (a + 1 + 1 + 1) fs, .dic KS [b1, b2, b3]]⟩) (fun Q => by
    rw [ws_set, we_dsp' (xs := [b1, b2, b3]) (s1 := ⟨[1, 0], [dk (a + 1 + 1 + 1) fs]⟩) rfl rfl]
    simp only [onokS_ok, nm_set, Option.some.injEq, exists_eq_left', List.set_cons_zero, List.set_cons_succ]
    rfl) ?_
  refine seq_step (sl1 := [some (.ref 0), some ho.d, some (.lst (ws.map strD)), some b1, some b2, some (.int (topK ho)), some b3, some (.ref 1), some (.str sM), none, none, none]) (s1 := ⟨[1, 0], [dk (a + 1 + 1 + 1) fs, .dic KS [tl b1, tl b2, tl b3]]⟩) (fun Q => by
    simp only [ws_for, wi_one, we_tup, wa_cons, wa_nil, we_c, onok_ok, onokS_ok, items_t, Option.some.injEq, exists_eq_left']
    rw [wf_cons rfl rfl (fun Q' => u1 _ Q' _ _ _ _ _ _ _ _ _ _), wf_cons rfl rfl (fun Q' => u2 _ Q' _ _ _ _ _ _ _ _ _ _), wf_cons rfl rfl (fun Q' => u3 _ Q' _ _ _ _ _ _ _ _ _ _), wf_nil rfl]) ?_
  have nochg : ∀ {s : S} {sl : Sl} {st : Sto} {Q : Fl → Sl → Sto → Prop} {r : S}, (∀ Q, wS (evS md.tb md.cfl (md.call 28) s) sl st Q = Q .nx sl st) → wS (evS md.tb md.cfl (md.call 28) r) sl st Q → wS (evS md.tb md.cfl (md.call 28) (.seq s r)) sl st Q := fun h k => seq_step h k
  refine nochg (fun Q => by simp only [onok_ok, onok_ex, onokS_ok, onokS_ex, onnx_nx, onnx_rt, onnx_bk, onnx_ct, onnx_ex, wc_ok, we_v, we_c, we_g, we_bin, we_cmp, we_ix, we_neg, we_not, we_ite, we_andv, we_orv, we_and1, we_or1, we_and, we_or, we_tup, we_frz, we_alc, we_blt, we_call, we_meth, we_sl, we_isi, we_isi2, we_dsp, we_newd, wt_val, wt_cmp, wt_not, wt_andv, wt_orv, wt_and1, wt_or1, wt_and, wt_or, wa_nil, wa_cons, wn_disp, wn_lis, wn_comp, wi_rng, wi_enu, wi_one, wo_non, wo_some, ws_nop, ws_nil, ws_brk, ws_cnt, ws_retn, ws_exp, ws_ret, ws_raise, ws_ite, ws_set, ws_set, ws_setcF, ws_setcT, ws_par, ws_put, ws_seq, ws_for, ws_while, ws_try, List.getElem?_cons_zero, List.getElem?_cons_succ, Option.some.injEq, exists_eq_left', exists_eq_left, true_implies, forall_const, Bool.true_eq_false, Bool.false_eq_true, false_implies, and_true, true_and, setT, List.set_cons_zero, List.set_cons_succ, List.length_cons, List.length_nil, setAll, Option.bind_some, asB, Bool.not_true, Bool.not_false, o_add_i, o_add_s, o_add_t, o_add_l, o_sub_i, o_mul_i, o_fdv_i, o_mod_i, o_neg_i, o_lt_i, o_le_i, o_gt_i, o_ge_i, o_is_n, o_isn_n, o_eq_d, o_ne_d, o_in_d, o_nin_d, bx_len, bx_int, bx_min, bx_max, bx_sum, bx_all, bx_any, bx_tuple, b_min_i, b_max_i, b_int_i, b_int_b, b_len_t, b_len_l, b_len_c, b_len_s, b_tup_t, b_tup_l, b_lis_t, b_lis_l, isa_tab, ty_non, ty_bl, ty_int, ty_str, ty_tup, ty_lst, ty_scr, ty_dic, tr_non, tr_bl, tr_int, tr_tup, tr_lst, tr_scr, nm_set, tp_set, ix_t, ix_l, ix_c, at_0, at_1, at_2, at_3, at_m, at_m1, range1, items_t, items_l, items_s, enu_t, enu_l, bel_int, bel_str, bel_bl, bel_non, out_bl, out_int, out_str, out_non, out_nx, mk_ends, mk_join, g_ends, fEq_i, fEq_b, rI_l, rI_d, rS_d, rL_l, r_pop, r_pop1, r_app, rr_q, rr_ix, rr_ixs, rr_len, rr_tup, rr_tru, rr_mkp, rr_mka, rr_pop, rr_app, rr_put, ok_put, out_rt, out_ex, Prod.mk.injEq, exists_eq, exists_and_left, exists_eq', bne_self_eq_false, Int.reduceBNe, Bool.true_and, and_assoc, Rs.ok.injEq, D.tup.injEq, D.bl.injEq, D.int.injEq, List.cons.injEq, enter_bs, D.bel, D.bels, List.cons_append, List.nil_append, startS, List.map_cons, List.map_nil, List.replicate_succ, List.replicate_zero, Nat.reduceSub, Nat.reduceAdd, Bool.or_false, Bool.false_or, Bool.or_true, Bool.true_or, Bool.and_true, Bool.and_false, Bool.true_and, Bool.false_and, if_true, if_false, reduceCtorEq, Bool.not_eq_true, decide_eq_true_eq, decide_eq_false_iff_not, and_self, onok, onokS, onnx, ite_true, ite_false, reduceIte, t1, rr_ixs, rS_d, dg1, q1]) ?_
  refine nochg (fun Q => by simp only [onok_ok, onok_ex, onokS_ok, onokS_ex, onnx_nx, onnx_rt, onnx_bk, onnx_ct, onnx_ex, wc_ok, we_v, we_c, we_g, we_bin, we_cmp, we_ix, we_neg, we_not, we_ite, we_andv, we_orv, we_and1, we_or1, we_and, we_or, we_tup, we_frz, we_alc, we_blt, we_call, we_meth, we_sl, we_isi, we_isi2, we_dsp, we_newd, wt_val, wt_cmp, wt_not, wt_andv, wt_orv, wt_and1, wt_or1, wt_and, wt_or, wa_nil, wa_cons, wn_disp, wn_lis, wn_comp, wi_rng, wi_enu, wi_one, wo_non, wo_some, ws_nop, ws_nil, ws_brk, ws_cnt, ws_retn, ws_exp, ws_ret, ws_raise, ws_ite, ws_set, ws_set, ws_setcF, ws_setcT, ws_par, ws_put, ws_seq, ws_for, ws_while, ws_try, List.getElem?_cons_zero, List.getElem?_cons_succ, Option.some.injEq, exists_eq_left', exists_eq_left, true_implies, forall_const, Bool.true_eq_false, Bool.false_eq_true, false_implies, and_true, true_and, setT, List.set_cons_zero, List.set_cons_succ, List.length_cons, List.length_nil, setAll, Option.bind_some, asB, Bool.not_true, Bool.not_false, o_add_i, o_add_s, o_add_t, o_add_l, o_sub_i, o_mul_i, o_fdv_i, o_mod_i, o_neg_i, o_lt_i, o_le_i, o_gt_i, o_ge_i, o_is_n, o_isn_n, o_eq_d, o_ne_d, o_in_d, o_nin_d, bx_len, bx_int, bx_min, bx_max, bx_sum, bx_all, bx_any, bx_tuple, b_min_i, b_max_i, b_int_i, b_int_b, b_len_t, b_len_l, b_len_c, b_len_s, b_tup_t, b_tup_l, b_lis_t, b_lis_l, isa_tab, ty_non, ty_bl, ty_int, ty_str, ty_tup, ty_lst, ty_scr, ty_dic, tr_non, tr_bl, tr_int, tr_tup, tr_lst, tr_scr, nm_set, tp_set, ix_t, ix_l, ix_c, at_0, at_1, at_2, at_3, at_m, at_m1, range1, items_t, items_l, items_s, enu_t, enu_l, bel_int, bel_str, bel_bl, bel_non, out_bl, out_int, out_str, out_non, out_nx, mk_ends, mk_join, g_ends, fEq_i, fEq_b, rI_l, rI_d, rS_d, rL_l, r_pop, r_pop1, r_app, rr_q, rr_ix, rr_ixs, rr_len, rr_tup, rr_tru, rr_mkp, rr_mka, rr_pop, rr_app, rr_put, ok_put, out_rt, out_ex, Prod.mk.injEq, exists_eq, exists_and_left, exists_eq', bne_self_eq_false, Int.reduceBNe, Bool.true_and, and_assoc, Rs.ok.injEq, D.tup.injEq, D.bl.injEq, D.int.injEq, List.cons.injEq, enter_bs, D.bel, D.bels, List.cons_append, List.nil_append, startS, List.map_cons, List.map_nil, List.replicate_succ, List.replicate_zero, Nat.reduceSub, Nat.reduceAdd, Bool.or_false, Bool.false_or, Bool.or_true, Bool.true_or, Bool.and_true, Bool.and_false, Bool.true_and, Bool.false_and, if_true, if_false, reduceCtorEq, Bool.not_eq_true, decide_eq_true_eq, decide_eq_false_iff_not, and_self, onok, onokS, onnx, ite_true, ite_false, reduceIte, t1, rr_ixs, rS_d, dg1, q1]) ?_
  refine nochg (fun Q => by simp only [onok_ok, onok_ex, onokS_ok, onokS_ex, onnx_nx, onnx_rt, onnx_bk, onnx_ct, onnx_ex, wc_ok, we_v, we_c, we_g, we_bin, we_cmp, we_ix, we_neg, we_not, we_ite, we_andv, we_orv, we_and1, we_or1, we_and, we_or, we_tup, we_frz, we_alc, we_blt, we_call, we_meth, we_sl, we_isi, we_isi2, we_dsp, we_newd, wt_val, wt_cmp, wt_not, wt_andv, wt_orv, wt_and1, wt_or1, wt_and, wt_or, wa_nil, wa_cons, wn_disp, wn_lis, wn_comp, wi_rng, wi_enu, wi_one, wo_non, wo_some, ws_nop, ws_nil, ws_brk, ws_cnt, ws_retn, ws_exp, ws_ret, ws_raise, ws_ite, ws_set, ws_set, ws_setcF, ws_setcT, ws_par, ws_put, ws_seq, ws_for, ws_while, ws_try, List.getElem?_cons_zero, List.getElem?_cons_succ, Option.some.injEq, exists_eq_left', exists_eq_left, true_implies, forall_const, Bool.true_eq_false, Bool.false_eq_true, false_implies, and_true, true_and, setT, List.set_cons_zero, List.set_cons_succ, List.length_cons, List.length_nil, setAll, Option.bind_some, asB, Bool.not_true, Bool.not_false, o_add_i, o_add_s, o_add_t, o_add_l, o_sub_i, o_mul_i, o_fdv_i, o_mod_i, o_neg_i, o_lt_i, o_le_i, o_gt_i, o_ge_i, o_is_n, o_isn_n, o_eq_d, o_ne_d, o_in_d, o_nin_d, bx_len, bx_int, bx_min, bx_max, bx_sum, bx_all, bx_any, bx_tuple, b_min_i, b_max_i, b_int_i, b_int_b, b_len_t, b_len_l, b_len_c, b_len_s, b_tup_t, b_tup_l, b_lis_t, b_lis_l, isa_tab, ty_non, ty_bl, ty_int, ty_str, ty_tup, ty_lst, ty_scr, ty_dic, tr_non, tr_bl, tr_int, tr_tup, tr_lst, tr_scr, nm_set, tp_set, ix_t, ix_l, ix_c, at_0, at_1, at_2, at_3, at_m, at_m1, range1, items_t, items_l, items_s, enu_t, enu_l, bel_int, bel_str, bel_bl, bel_non, out_bl, out_int, out_str, out_non, out_nx, mk_ends, mk_join, g_ends, fEq_i, fEq_b, rI_l, rI_d, rS_d, rL_l, r_pop, r_pop1, r_app, rr_q, rr_ix, rr_ixs, rr_len, rr_tup, rr_tru, rr_mkp, rr_mka, rr_pop, rr_app, rr_put, ok_put, out_rt, out_ex, Prod.mk.injEq, exists_eq, exists_and_left, exists_eq', bne_self_eq_false, Int.reduceBNe, Bool.true_and, and_assoc, Rs.ok.injEq, D.tup.injEq, D.bl.injEq, D.int.injEq, List.cons.injEq, enter_bs, D.bel, D.bels, List.cons_append, List.nil_append, startS, List.map_cons, List.map_nil, List.replicate_succ, List.replicate_zero, Nat.reduceSub, Nat.reduceAdd, Bool.or_false, Bool.false_or, Bool.or_true, Bool.true_or, Bool.and_true, Bool.and_false, Bool.true_and, Bool.false_and, if_true, if_false, reduceCtorEq, Bool.not_eq_true, decide_eq_true_eq, decide_eq_false_iff_not, and_self, onok, onokS, onnx, ite_true, ite_false, reduceIte, t2, rr_ixs, rS_d, dg3, q2]) ?_
  refine nochg (fun Q => by simp only [onok_ok, onok_ex, onokS_ok, onokS_ex, onnx_nx, onnx_rt, onnx_bk, onnx_ct, onnx_ex, wc_ok, we_v, we_c, we_g, we_bin, we_cmp, we_ix, we_neg, we_not, we_ite, we_andv, we_orv, we_and1, we_or1, we_and, we_or, we_tup, we_frz, we_alc, we_blt, we_call, we_meth, we_sl, we_isi, we_isi2, we_dsp, we_newd, wt_val, wt_cmp, wt_not, wt_andv, wt_orv, wt_and1, wt_or1, wt_and, wt_or, wa_nil, wa_cons, wn_disp, wn_lis, wn_comp, wi_rng, wi_enu, wi_one, wo_non, wo_some, ws_nop, ws_nil, ws_brk, ws_cnt, ws_retn, ws_exp, ws_ret, ws_raise, ws_ite, ws_set, ws_set, ws_setcF, ws_setcT, ws_par, ws_put, ws_seq, ws_for, ws_while, ws_try, List.getElem?_cons_zero, List.getElem?_cons_succ, Option.some.injEq, exists_eq_left', exists_eq_left, true_implies, forall_const, Bool.true_eq_false, Bool.false_eq_true, false_implies, and_true, true_and, setT, List.set_cons_zero, List.set_cons_succ, List.length_cons, List.length_nil, setAll, Option.bind_some, asB, Bool.not_true, Bool.not_false, o_add_i, o_add_s, o_add_t, o_add_l, o_sub_i, o_mul_i, o_fdv_i, o_mod_i, o_neg_i, o_lt_i, o_le_i, o_gt_i, o_ge_i, o_is_n, o_isn_n, o_eq_d, o_ne_d, o_in_d, o_nin_d, bx_len, bx_int, bx_min, bx_max, bx_sum, bx_all, bx_any, bx_tuple, b_min_i, b_max_i, b_int_i, b_int_b, b_len_t, b_len_l, b_len_c, b_len_s, b_tup_t, b_tup_l, b_lis_t, b_lis_l, isa_tab, ty_non, ty_bl, ty_int, ty_str, ty_tup, ty_lst, ty_scr, ty_dic, tr_non, tr_bl, tr_int, tr_tup, tr_lst, tr_scr, nm_set, tp_set, ix_t, ix_l, ix_c, at_0, at_1, at_2, at_3, at_m, at_m1, range1, items_t, items_l, items_s, enu_t, enu_l, bel_int, bel_str, bel_bl, bel_non, out_bl, out_int, out_str, out_non, out_nx, mk_ends, mk_join, g_ends, fEq_i, fEq_b, rI_l, rI_d, rS_d, rL_l, r_pop, r_pop1, r_app, rr_q, rr_ix, rr_ixs, rr_len, rr_tup, rr_tru, rr_mkp, rr_mka, rr_pop, rr_app, rr_put, ok_put, out_rt, out_ex, Prod.mk.injEq, exists_eq, exists_and_left, exists_eq', bne_self_eq_false, Int.reduceBNe, Bool.true_and, and_assoc, Rs.ok.injEq, D.tup.injEq, D.bl.injEq, D.int.injEq, List.cons.injEq, enter_bs, D.bel, D.bels, List.cons_append, List.nil_append, startS, List.map_cons, List.map_nil, List.replicate_succ, List.replicate_zero, Nat.reduceSub, Nat.reduceAdd, Bool.or_false, Bool.false_or, Bool.or_true, Bool.true_or, Bool.and_true, Bool.and_false, Bool.true_and, Bool.false_and, if_true, if_false, reduceCtorEq, Bool.not_eq_true, decide_eq_true_eq, decide_eq_false_iff_not, and_self, onok, onokS, onnx, ite_true, ite_false, reduceIte, t3, rr_ixs, rS_d, dg2, q3]) ?_
  refine seq_step (sl1 := [some (.ref 0), some ho.d, some (.lst (ws.map strD)), some b1, some b2, some (.int (topK ho)), some b3, some (.ref 1), some (.str sM), some (.int (j : Nat)), none, none]) (s1 := ⟨[1, 0], [dk (a + 1 + 1 + 1 + 1) fs, .dic KS [tl b1, tl b2, tl b3]]⟩) (fun Q => by simp only [onok_ok, onok_ex, onokS_ok, onokS_ex, onnx_nx, onnx_rt, onnx_bk, onnx_ct, onnx_ex, wc_ok, we_v, we_c, we_g, we_bin, we_cmp, we_ix, we_neg, we_not, we_ite, we_andv, we_orv, we_and1, we_or1, we_and, we_or, we_tup, we_frz, we_alc, we_blt, we_call, we_meth, we_sl, we_isi, we_isi2, we_dsp, we_newd, wt_val, wt_cmp, wt_not, wt_andv, wt_orv, wt_and1, wt_or1, wt_and, wt_or, wa_nil, wa_cons, wn_disp, wn_lis, wn_comp, wi_rng, wi_enu, wi_one, wo_non, wo_some, ws_nop, ws_nil, ws_brk, ws_cnt, ws_retn, ws_exp, ws_ret, ws_raise, ws_ite, ws_set, ws_set, ws_setcF, ws_setcT, ws_par, ws_put, ws_seq, ws_for, ws_while, ws_try, List.getElem?_cons_zero, List.getElem?_cons_succ, Option.some.injEq, exists_eq_left', exists_eq_left, true_implies, forall_const, Bool.true_eq_false, Bool.false_eq_true, false_implies, and_true, true_and, setT, List.set_cons_zero, List.set_cons_succ, List.length_cons, List.length_nil, setAll, Option.bind_some, asB, Bool.not_true, Bool.not_false, o_add_i, o_add_s, o_add_t, o_add_l, o_sub_i, o_mul_i, o_fdv_i, o_mod_i, o_neg_i, o_lt_i, o_le_i, o_gt_i, o_ge_i, o_is_n, o_isn_n, o_eq_d, o_ne_d, o_in_d, o_nin_d, bx_len, bx_int, bx_min, bx_max, bx_sum, bx_all, bx_any, bx_tuple, b_min_i, b_max_i, b_int_i, b_int_b, b_len_t, b_len_l, b_len_c, b_len_s, b_tup_t, b_tup_l, b_lis_t, b_lis_l, isa_tab, ty_non, ty_bl, ty_int, ty_str, ty_tup, ty_lst, ty_scr, ty_dic, tr_non, tr_bl, tr_int, tr_tup, tr_lst, tr_scr, nm_set, tp_set, ix_t, ix_l, ix_c, at_0, at_1, at_2, at_3, at_m, at_m1, range1, items_t, items_l, items_s, enu_t, enu_l, bel_int, bel_str, bel_bl, bel_non, out_bl, out_int, out_str, out_non, out_nx, mk_ends, mk_join, g_ends, fEq_i, fEq_b, rI_l, rI_d, rS_d, rL_l, r_pop, r_pop1, r_app, rr_q, rr_ix, rr_ixs, rr_len, rr_tup, rr_tru, rr_mkp, rr_mka, rr_pop, rr_app, rr_put, ok_put, out_rt, out_ex, Prod.mk.injEq, exists_eq, exists_and_left, exists_eq', bne_self_eq_false, Int.reduceBNe, Bool.true_and, and_assoc, Rs.ok.injEq, D.tup.injEq, D.bl.injEq, D.int.injEq, List.cons.injEq, enter_bs, D.bel, D.bels, List.cons_append, List.nil_append, startS, List.map_cons, List.map_nil, List.replicate_succ, List.replicate_zero, Nat.reduceSub, Nat.reduceAdd, Bool.or_false, Bool.false_or, Bool.or_true, Bool.true_or, Bool.and_true, Bool.and_false, Bool.true_and, Bool.false_and, if_true, if_false, reduceCtorEq, Bool.not_eq_true, decide_eq_true_eq, decide_eq_false_iff_not, and_self, onok, onokS, onnx, ite_true, ite_false, reduceIte, e4, lw, q0, hj, decide_true]) ?_
  refine seq_step (sl1 := [some (.ref 0), some ho.d, some (.lst (ws.map strD)), some b1, some b2, some (.int (topK ho)), some b3, some (.ref 1), some (.str sM), some (.int (j : Nat)), some (.lst ((ws.take j).map strD ++ b2 :: ((ws.drop j).map strD ++ [b2]))), none]) (s1 := ⟨[1, 0], [dk (a + 1 + 1 + 1 + 1) fs, .dic KS [tl b1, tl b2, tl b3]]⟩) (fun Q => by
    have A1 : ∀ st, Op2.add.f (.lst ((ws.take j).map strD)) (.lst [b2]) st = some (.lst ((ws.take j).map strD ++ [b2])) := fun st => by rw [o_add_l]; exact if_pos a1
    have A2 : ∀ st, Op2.add.f (.lst ((ws.take j).map strD ++ [b2])) (.lst ((ws.drop j).map strD)) st = some (.lst (((ws.take j).map strD ++ [b2]) ++ (ws.drop j).map strD)) := fun st => by rw [o_add_l]; exact if_pos a2
    have A3 : ∀ st, Op2.add.f (.lst (((ws.take j).map strD ++ [b2]) ++ (ws.drop j).map strD)) (.lst [b2]) st = some (.lst ((ws.take j).map strD ++ b2 :: ((ws.drop j).map strD ++ [b2]))) := fun st => by rw [o_add_l, ← rowE]; exact if_pos a3
    rw [ws_set, we_bin, we_bin, we_bin]
    simp only [we_sl, we_v, wo_non, wo_some, we_frz, wn_disp, wa_cons, wa_nil, onok_ok, onokS_ok, asI, s1, s2, A1, A2, A3, List.getElem?_cons_zero, List.getElem?_cons_succ, Option.some.injEq, exists_eq_left', nm_set, List.set_cons_zero, List.set_cons_succ]) ?_
  refine nochg (fun Q => by simp only [onok_ok, onok_ex, onokS_ok, onokS_ex, onnx_nx, onnx_rt, onnx_bk, onnx_ct, onnx_ex, wc_ok, we_v, we_c, we_g, we_bin, we_cmp, we_ix, we_neg, we_not, we_ite, we_andv, we_orv, we_and1, we_or1, we_and, we_or, we_tup, we_frz, we_alc, we_blt, we_call, we_meth, we_sl, we_isi, we_isi2, we_dsp, we_newd, wt_val, wt_cmp, wt_not, wt_andv, wt_orv, wt_and1, wt_or1, wt_and, wt_or, wa_nil, wa_cons, wn_disp, wn_lis, wn_comp, wi_rng, wi_enu, wi_one, wo_non, wo_some, ws_nop, ws_nil, ws_brk, ws_cnt, ws_retn, ws_exp, ws_ret, ws_raise, ws_ite, ws_set, ws_set, ws_setcF, ws_setcT, ws_par, ws_put, ws_seq, ws_for, ws_while, ws_try, List.getElem?_cons_zero, List.getElem?_cons_succ, Option.some.injEq, exists_eq_left', exists_eq_left, true_implies, forall_const, Bool.true_eq_false, Bool.false_eq_true, false_implies, and_true, true_and, setT, List.set_cons_zero, List.set_cons_succ, List.length_cons, List.length_nil, setAll, Option.bind_some, asB, Bool.not_true, Bool.not_false, o_add_i, o_add_s, o_add_t, o_add_l, o_sub_i, o_mul_i, o_fdv_i, o_mod_i, o_neg_i, o_lt_i, o_le_i, o_gt_i, o_ge_i, o_is_n, o_isn_n, o_eq_d, o_ne_d, o_in_d, o_nin_d, bx_len, bx_int, bx_min, bx_max, bx_sum, bx_all, bx_any, bx_tuple, b_min_i, b_max_i, b_int_i, b_int_b, b_len_t, b_len_l, b_len_c, b_len_s, b_tup_t, b_tup_l, b_lis_t, b_lis_l, isa_tab, ty_non, ty_bl, ty_int, ty_str, ty_tup, ty_lst, ty_scr, ty_dic, tr_non, tr_bl, tr_int, tr_tup, tr_lst, tr_scr, nm_set, tp_set, ix_t, ix_l, ix_c, at_0, at_1, at_2, at_3, at_m, at_m1, range1, items_t, items_l, items_s, enu_t, enu_l, bel_int, bel_str, bel_bl, bel_non, out_bl, out_int, out_str, out_non, out_nx, mk_ends, mk_join, g_ends, fEq_i, fEq_b, rI_l, rI_d, rS_d, rL_l, r_pop, r_pop1, r_app, rr_q, rr_ix, rr_ixs, rr_len, rr_tup, rr_tru, rr_mkp, rr_mka, rr_pop, rr_app, rr_put, ok_put, out_rt, out_ex, Prod.mk.injEq, exists_eq, exists_and_left, exists_eq', bne_self_eq_false, Int.reduceBNe, Bool.true_and, and_assoc, Rs.ok.injEq, D.tup.injEq, D.bl.injEq, D.int.injEq, List.cons.injEq, enter_bs, D.bel, D.bels, List.cons_append, List.nil_append, startS, List.map_cons, List.map_nil, List.replicate_succ, List.replicate_zero, Nat.reduceSub, Nat.reduceAdd, Bool.or_false, Bool.false_or, Bool.or_true, Bool.true_or, Bool.and_true, Bool.and_false, Bool.true_and, Bool.false_and, if_true, if_false, reduceCtorEq, Bool.not_eq_true, decide_eq_true_eq, decide_eq_false_iff_not, and_self, onok, onokS, onnx, ite_true, ite_false, reduceIte, tR, q4]) ?_
  refine seq_step (sl1 := [some (.ref 0), some ho.d, some (.lst (ws.map strD)), some b1, some b2, some (.int (topK ho)), some b3, some (.ref 1), some (.str sM), some (.int (j : Nat)), some (.lst ((ws.take j).map strD ++ b2 :: ((ws.drop j).map strD ++ [b2]))), some b5]) (s1 := ⟨[1, 0], [dk (a + 1 + 1 + 1 + 1 + 1) fs, .dic KS [tl b1, tl b2, tl b3]]⟩) (fun Q => by simp only [onok_ok, onok_ex, onokS_ok, onokS_ex, onnx_nx, onnx_rt, onnx_bk, onnx_ct, onnx_ex, wc_ok, we_v, we_c, we_g, we_bin, we_cmp, we_ix, we_neg, we_not, we_ite, we_andv, we_orv, we_and1, we_or1, we_and, we_or, we_tup, we_frz, we_alc, we_blt, we_call, we_meth, we_sl, we_isi, we_isi2, we_dsp, we_newd, wt_val, wt_cmp, wt_not, wt_andv, wt_orv, wt_and1, wt_or1, wt_and, wt_or, wa_nil, wa_cons, wn_disp, wn_lis, wn_comp, wi_rng, wi_enu, wi_one, wo_non, wo_some, ws_nop, ws_nil, ws_brk, ws_cnt, ws_retn, ws_exp, ws_ret, ws_raise, ws_ite, ws_set, ws_set, ws_setcF, ws_setcT, ws_par, ws_put, ws_seq, ws_for, ws_while, ws_try, List.getElem?_cons_zero, List.getElem?_cons_succ, Option.some.injEq, exists_eq_left', exists_eq_left, true_implies, forall_const, Bool.true_eq_false, Bool.false_eq_true, false_implies, and_true, true_and, setT, List.set_cons_zero, List.set_cons_succ, List.length_cons, List.length_nil, setAll, Option.bind_some, asB, Bool.not_true, Bool.not_false, o_add_i, o_add_s, o_add_t, o_add_l, o_sub_i, o_mul_i, o_fdv_i, o_mod_i, o_neg_i, o_lt_i, o_le_i, o_gt_i, o_ge_i, o_is_n, o_isn_n, o_eq_d, o_ne_d, o_in_d, o_nin_d, bx_len, bx_int, bx_min, bx_max, bx_sum, bx_all, bx_any, bx_tuple, b_min_i, b_max_i, b_int_i, b_int_b, b_len_t, b_len_l, b_len_c, b_len_s, b_tup_t, b_tup_l, b_lis_t, b_lis_l, isa_tab, ty_non, ty_bl, ty_int, ty_str, ty_tup, ty_lst, ty_scr, ty_dic, tr_non, tr_bl, tr_int, tr_tup, tr_lst, tr_scr, nm_set, tp_set, ix_t, ix_l, ix_c, at_0, at_1, at_2, at_3, at_m, at_m1, range1, items_t, items_l, items_s, enu_t, enu_l, bel_int, bel_str, bel_bl, bel_non, out_bl, out_int, out_str, out_non, out_nx, mk_ends, mk_join, g_ends, fEq_i, fEq_b, rI_l, rI_d, rS_d, rL_l, r_pop, r_pop1, r_app, rr_q, rr_ix, rr_ixs, rr_len, rr_tup, rr_tru, rr_mkp, rr_mka, rr_pop, rr_app, rr_put, ok_put, out_rt, out_ex, Prod.mk.injEq, exists_eq, exists_and_left, exists_eq', bne_self_eq_false, Int.reduceBNe, Bool.true_and, and_assoc, Rs.ok.injEq, D.tup.injEq, D.bl.injEq, D.int.injEq, List.cons.injEq, enter_bs, D.bel, D.bels, List.cons_append, List.nil_append, startS, List.map_cons, List.map_nil, List.replicate_succ, List.replicate_zero, Nat.reduceSub, Nat.reduceAdd, Bool.or_false, Bool.false_or, Bool.or_true, Bool.true_or, Bool.and_true, Bool.and_false, Bool.true_and, Bool.false_and, if_true, if_false, reduceCtorEq, Bool.not_eq_true, decide_eq_true_eq, decide_eq_false_iff_not, and_self, onok, onokS, onnx, ite_true, ite_false, reduceIte, e5, g5]) ?_
  refine nochg (fun Q => by simp only [onok_ok, onok_ex, onokS_ok, onokS_ex, onnx_nx, onnx_rt, onnx_bk, onnx_ct, onnx_ex, wc_ok, we_v, we_c, we_g, we_bin, we_cmp, we_ix, we_neg, we_not, we_ite, we_andv, we_orv, we_and1, we_or1, we_and, we_or, we_tup, we_frz, we_alc, we_blt, we_call, we_meth, we_sl, we_isi, we_isi2, we_dsp, we_newd, wt_val, wt_cmp, wt_not, wt_andv, wt_orv, wt_and1, wt_or1, wt_and, wt_or, wa_nil, wa_cons, wn_disp, wn_lis, wn_comp, wi_rng, wi_enu, wi_one, wo_non, wo_some, ws_nop, ws_nil, ws_brk, ws_cnt, ws_retn, ws_exp, ws_ret, ws_raise, ws_ite, ws_set, ws_set, ws_setcF, ws_setcT, ws_par, ws_put, ws_seq, ws_for, ws_while, ws_try, List.getElem?_cons_zero, List.getElem?_cons_succ, Option.some.injEq, exists_eq_left', exists_eq_left, true_implies, forall_const, Bool.true_eq_false, Bool.false_eq_true, false_implies, and_true, true_and, setT, List.set_cons_zero, List.set_cons_succ, List.length_cons, List.length_nil, setAll, Option.bind_some, asB, Bool.not_true, Bool.not_false, o_add_i, o_add_s, o_add_t, o_add_l, o_sub_i, o_mul_i, o_fdv_i, o_mod_i, o_neg_i, o_lt_i, o_le_i, o_gt_i, o_ge_i, o_is_n, o_isn_n, o_eq_d, o_ne_d, o_in_d, o_nin_d, bx_len, bx_int, bx_min, bx_max, bx_sum, bx_all, bx_any, bx_tuple, b_min_i, b_max_i, b_int_i, b_int_b, b_len_t, b_len_l, b_len_c, b_len_s, b_tup_t, b_tup_l, b_lis_t, b_lis_l, isa_tab, ty_non, ty_bl, ty_int, ty_str, ty_tup, ty_lst, ty_scr, ty_dic, tr_non, tr_bl, tr_int, tr_tup, tr_lst, tr_scr, nm_set, tp_set, ix_t, ix_l, ix_c, at_0, at_1, at_2, at_3, at_m, at_m1, range1, items_t, items_l, items_s, enu_t, enu_l, bel_int, bel_str, bel_bl, bel_non, out_bl, out_int, out_str, out_non, out_nx, mk_ends, mk_join, g_ends, fEq_i, fEq_b, rI_l, rI_d, rS_d, rL_l, r_pop, r_pop1, r_app, rr_q, rr_ix, rr_ixs, rr_len, rr_tup, rr_tru, rr_mkp, rr_mka, rr_pop, rr_app, rr_put, ok_put, out_rt, out_ex, Prod.mk.injEq, exists_eq, exists_and_left, exists_eq', bne_self_eq_false, Int.reduceBNe, Bool.true_and, and_assoc, Rs.ok.injEq, D.tup.injEq, D.bl.injEq, D.int.injEq, List.cons.injEq, enter_bs, D.bel, D.bels, List.cons_append, List.nil_append, startS, List.map_cons, List.map_nil, List.replicate_succ, List.replicate_zero, Nat.reduceSub, Nat.reduceAdd, Bool.or_false, Bool.false_or, Bool.or_true, Bool.true_or, Bool.and_true, Bool.and_false, Bool.true_and, Bool.false_and, if_true, if_false, reduceCtorEq, Bool.not_eq_true, decide_eq_true_eq, decide_eq_false_iff_not, and_self, onok, onokS, onnx, ite_true, ite_false, reduceIte, t5, q4, Int.reduceNeg]) ?_
  refine nochg (fun Q => by simp only [onok_ok, onok_ex, onokS_ok, onokS_ex, onnx_nx, onnx_rt, onnx_bk, onnx_ct, onnx_ex, wc_ok, we_v, we_c, we_g, we_bin, we_cmp, we_ix, we_neg, we_not, we_ite, we_andv, we_orv, we_and1, we_or1, we_and, we_or, we_tup, we_frz, we_alc, we_blt, we_call, we_meth, we_sl, we_isi, we_isi2, we_dsp, we_newd, wt_val, wt_cmp, wt_not, wt_andv, wt_orv, wt_and1, wt_or1, wt_and, wt_or, wa_nil, wa_cons, wn_disp, wn_lis, wn_comp, wi_rng, wi_enu, wi_one, wo_non, wo_some, ws_nop, ws_nil, ws_brk, ws_cnt, ws_retn, ws_exp, ws_ret, ws_raise, ws_ite, ws_set, ws_set, ws_setcF, ws_setcT, ws_par, ws_put, ws_seq, ws_for, ws_while, ws_try, List.getElem?_cons_zero, List.getElem?_cons_succ, Option.some.injEq, exists_eq_left', exists_eq_left, true_implies, forall_const, Bool.true_eq_false, Bool.false_eq_true, false_implies, and_true, true_and, setT, List.set_cons_zero, List.set_cons_succ, List.length_cons, List.length_nil, setAll, Option.bind_some, asB, Bool.not_true, Bool.not_false, o_add_i, o_add_s, o_add_t, o_add_l, o_sub_i, o_mul_i, o_fdv_i, o_mod_i, o_neg_i, o_lt_i, o_le_i, o_gt_i, o_ge_i, o_is_n, o_isn_n, o_eq_d, o_ne_d, o_in_d, o_nin_d, bx_len, bx_int, bx_min, bx_max, bx_sum, bx_all, bx_any, bx_tuple, b_min_i, b_max_i, b_int_i, b_int_b, b_len_t, b_len_l, b_len_c, b_len_s, b_tup_t, b_tup_l, b_lis_t, b_lis_l, isa_tab, ty_non, ty_bl, ty_int, ty_str, ty_tup, ty_lst, ty_scr, ty_dic, tr_non, tr_bl, tr_int, tr_tup, tr_lst, tr_scr, nm_set, tp_set, ix_t, ix_l, ix_c, at_0, at_1, at_2, at_3, at_m, at_m1, range1, items_t, items_l, items_s, enu_t, enu_l, bel_int, bel_str, bel_bl, bel_non, out_bl, out_int, out_str, out_non, out_nx, mk_ends, mk_join, g_ends, fEq_i, fEq_b, rI_l, rI_d, rS_d, rL_l, r_pop, r_pop1, r_app, rr_q, rr_ix, rr_ixs, rr_len, rr_tup, rr_tru, rr_mkp, rr_mka, rr_pop, rr_app, rr_put, ok_put, out_rt, out_ex, Prod.mk.injEq, exists_eq, exists_and_left, exists_eq', bne_self_eq_false, Int.reduceBNe, Bool.true_and, and_assoc, Rs.ok.injEq, D.tup.injEq, D.bl.injEq, D.int.injEq, List.cons.injEq, enter_bs, D.bel, D.bels, List.cons_append, List.nil_append, startS, List.map_cons, List.map_nil, List.replicate_succ, List.replicate_zero, Nat.reduceSub, Nat.reduceAdd, Bool.or_false, Bool.false_or, Bool.or_true, Bool.true_or, Bool.and_true, Bool.and_false, Bool.true_and, Bool.false_and, if_true, if_false, reduceCtorEq, Bool.not_eq_true, decide_eq_true_eq, decide_eq_false_iff_not, and_self, onok, onokS, onnx, ite_true, ite_false, reduceIte, t6, rr_ixs, rS_d, dg3, q2]) ?_
  simp only [onok_ok, onok_ex, onokS_ok, onokS_ex, onnx_nx, onnx_rt, onnx_bk, onnx_ct, onnx_ex, wc_ok, we_v, we_c, we_g, we_bin, we_cmp, we_ix, we_neg, we_not, we_ite, we_andv, we_orv, we_and1, we_or1, we_and, we_or, we_tup, we_frz, we_alc, we_blt, we_call, we_meth, we_sl, we_isi, we_isi2, we_dsp, we_newd, wt_val, wt_cmp, wt_not, wt_andv, wt_orv, wt_and1, wt_or1, wt_and, wt_or, wa_nil, wa_cons, wn_disp, wn_lis, wn_comp, wi_rng, wi_enu, wi_one, wo_non, wo_some, ws_nop, ws_nil, ws_brk, ws_cnt, ws_retn, ws_exp, ws_ret, ws_raise, ws_ite, ws_set, ws_set, ws_setcF, ws_setcT, ws_par, ws_put, ws_seq, ws_for, ws_while, ws_try, List.getElem?_cons_zero, List.getElem?_cons_succ, Option.some.injEq, exists_eq_left', exists_eq_left, true_implies, forall_const, Bool.true_eq_false, Bool.false_eq_true, false_implies, and_true, true_and, setT, List.set_cons_zero, List.set_cons_succ, List.length_cons, List.length_nil, setAll, Option.bind_some, asB, Bool.not_true, Bool.not_false, o_add_i, o_add_s, o_add_t, o_add_l, o_sub_i, o_mul_i, o_fdv_i, o_mod_i, o_neg_i, o_lt_i, o_le_i, o_gt_i, o_ge_i, o_is_n, o_isn_n, o_eq_d, o_ne_d, o_in_d, o_nin_d, bx_len, bx_int, bx_min, bx_max, bx_sum, bx_all, bx_any, bx_tuple, b_min_i, b_max_i, b_int_i, b_int_b, b_len_t, b_len_l, b_len_c, b_len_s, b_tup_t, b_tup_l, b_lis_t, b_lis_l, isa_tab, ty_non, ty_bl, ty_int, ty_str, ty_tup, ty_lst, ty_scr, ty_dic, tr_non, tr_bl, tr_int, tr_tup, tr_lst, tr_scr, nm_set, tp_set, ix_t, ix_l, ix_c, at_0, at_1, at_2, at_3, at_m, at_m1, range1, items_t, items_l, items_s, enu_t, enu_l, bel_int, bel_str, bel_bl, bel_non, out_bl, out_int, out_str, out_non, out_nx, mk_ends, mk_join, g_ends, fEq_i, fEq_b, rI_l, rI_d, rS_d, rL_l, r_pop, r_pop1, r_app, rr_q, rr_ix, rr_ixs, rr_len, rr_tup, rr_tru, rr_mkp, rr_mka, rr_pop, rr_app, rr_put, ok_put, out_rt, out_ex, Prod.mk.injEq, exists_eq, exists_and_left, exists_eq', bne_self_eq_false, Int.reduceBNe, Bool.true_and, and_assoc, Rs.ok.injEq, D.tup.injEq, D.bl.injEq, D.int.injEq, List.cons.injEq, enter_bs, D.bel, D.bels, List.cons_append, List.nil_append, startS, List.map_cons, List.map_nil, List.replicate_succ, List.replicate_zero, Nat.reduceSub, Nat.reduceAdd, Bool.or_false, Bool.false_or, Bool.or_true, Bool.true_or, Bool.and_true, Bool.and_false, Bool.true_and, Bool.false_and, if_true, if_false, reduceCtorEq, Bool.not_eq_true, decide_eq_true_eq, decide_eq_false_iff_not, and_self, onok, onokS, onnx, ite_true, ite_false, reduceIte, t7, rr_ixs, rS_d, dg1, q1, out_ref]
end K00

set_option Elab.async false
set_option linter.all false
set_option maxRecDepth 100000
set_option maxHeartbeats 0
namespace K00
open PySem Hb L2
theorem Wd.Ok.lay {w : Wd} (h : w.Ok) : PyData.canLay0 (.str w.s) = true := by
  show (w.s.cps.all fun x => decide (x < 1114112)) = true
  unfold Wd.s Wd.cs
  rw [List.all_toArray, List.all_eq_true]
  intro c hc
  rcases List.mem_append.mp hc with z | z
  · have := (h.lt c z).2
    exact decide_eq_true (by omega)
  · cases hb : w.b with
    | true => rw [hb] at z; simp at z; subst z; rfl
    | false => rw [hb] at z; simp at z
theorem strs_lay : ∀ {ws : List Wd}, (∀ w ∈ ws, w.Ok) → PyData.canLayAll0 (D.pds (ws.map strD)) = true ∧ PyData.depthAll (D.pds (ws.map strD)) ≤ 1 ∧ PyData.eqvAll (D.pds (ws.map strD)) (D.pds (ws.map strD)) = true
  | [], _ => ⟨rfl, by decide, by simp [D.pds, PyData.eqvAll]⟩
  | w :: ws, h => by
    obtain ⟨a, b, c⟩ := strs_lay (ws := ws) fun u hu => h u (List.mem_cons_of_mem _ hu)
    have hw := (h w List.mem_cons_self).lay
    refine ⟨?_, ?_, ?_⟩
    · show (PyData.canLay0 (.str w.s) && PyData.canLayAll0 (D.pds (ws.map strD))) = true
      rw [hw, a]; rfl
    · show max (PyData.depth (.str w.s)) (PyData.depthAll (D.pds (ws.map strD))) ≤ 1
      have : PyData.depth (.str w.s) ≤ 1 := by show 0 ≤ 1; omega
      omega
    · show PyData.eqvAll (PyData.str w.s :: D.pds (ws.map strD)) (PyData.str w.s :: D.pds (ws.map strD)) = true
      rw [PyData.eqvAll, c]
      simp [PyData.eqv]
theorem strs_ne {ws : List Wd} (h : ∀ w ∈ ws, w.Ok) {st : Sto} : fNe (.lst (ws.map strD)) (.lst (ws.map strD)) st = some (.bl false) := by
  obtain ⟨a, b, c⟩ := strs_lay h
  have e : fEq (.lst (ws.map strD)) (.lst (ws.map strD)) st = some (.bl true) := by
    show (if cmpOk (.list (D.pds (ws.map strD))) (.list (D.pds (ws.map strD))) = true then some (D.bl (PyData.eqv (.list (D.pds (ws.map strD))) (.list (D.pds (ws.map strD))))) else none) = _
    have d : PyData.depth (.list (D.pds (ws.map strD))) ≤ 64 := by
      show PyData.depthAll (D.pds (ws.map strD)) + 1 ≤ 64
      omega
    rw [if_pos]
    · rw [PyData.eqv, c]
    · unfold cmpOk
      rw [show PyData.canLay0 (.list (D.pds (ws.map strD))) = true from a, decide_eq_true d]
      rfl
  exact fNe_of e
theorem say_may {ho : Ho} (hh : ho.Ok) {g z : Int} (hz : 0 ≤ z) {e : Bool} (h : ho.may g) : ho.may (ho.say g z e).1 := by
  cases ho with
  | en => have h : 0 ≤ g := h; show 0 ≤ g + z; omega
  | i m =>
    obtain ⟨h1, h2⟩ : 0 ≤ g ∧ g ≤ m - 1 := h
    have hh : 1 ≤ m := hh
    show 0 ≤ (if m ≤ g + z then 0 else g + z) ∧ (if m ≤ g + z then 0 else g + z) ≤ m - 1
    split <;> omega
  | t m =>
    obtain ⟨h1, h2⟩ : 0 ≤ g ∧ g ≤ m - 1 := h
    have hh : 1 ≤ m := hh
    show 0 ≤ (if m ≤ g + z ∨ e = true then 0 else g + z) ∧ (if m ≤ g + z ∨ e = true then 0 else g + z) ≤ m - 1
    split
    · omega
    · next q => have : ¬ m ≤ g + z := fun x => q (.inl x); omega
  | l m =>
    obtain ⟨h1, h2⟩ : 0 ≤ g ∧ g ≤ m - 1 := h
    have hh : 1 ≤ m := hh
    show 0 ≤ (if m ≤ g + z ∨ e = true then 0 else g + z) ∧ (if m ≤ g + z ∨ e = true then 0 else g + z) ≤ m - 1
    split
    · omega
    · next q => have : ¬ m ≤ g + z := fun x => q (.inl x); omega
def befD : Ho → D
  | .l n => .tup [.str ⟨#[108, 105, 110, 101]⟩, .int n]
  | h => h.d
theorem ne_tt2 {m : Int} {st : Sto} : fNe (.tup [.str ⟨#[108, 105, 110, 101]⟩, .int m]) (.tup [.str ⟨#[108, 105, 110, 101]⟩, .int m]) st = some (.bl false) := by
  have e : fEq (.tup [.str ⟨#[108, 105, 110, 101]⟩, .int m]) (.tup [.str ⟨#[108, 105, 110, 101]⟩, .int m]) st = some (.bl true) := by
    show (if cmpOk (.tuple [.str ⟨#[108, 105, 110, 101]⟩, .int m]) (.tuple [.str ⟨#[108, 105, 110, 101]⟩, .int m]) = true then some (D.bl (PyData.eqv (.tuple [.str ⟨#[108, 105, 110, 101]⟩, .int m]) (.tuple [.str ⟨#[108, 105, 110, 101]⟩, .int m]))) else none) = _
    rw [if_pos (by
      unfold cmpOk
      rw [show PyData.canLay0 (.tuple [.str ⟨#[108, 105, 110, 101]⟩, .int m]) = true from lay_t]
      rfl)]
    simp [PyData.eqv, PyData.eqvAll]
  exact fNe_of e
theorem eq_o2 (r : Int × Bool) (st : Sto) : md.call 29 21 [out2 r, out2 r, .int 3] st = some (.ok (.bl true), st) := c_eq3 24 _ st rfl
theorem eq_oI (r : Int × Int) (st : Sto) : md.call 29 21 [outI r, outI r, .int 3] st = some (.ok (.bl true), st) := c_eq3 24 _ st rfl
abbrev bL1 : S := .seq (.set (.nm 10) (.call 26 (.cons (.v 2) (.cons (.v 7) (.cons (.v 9) (.nil))))))
    (.seq (.ite (.not (.val (.call 21 (.cons (.call 15 (.cons (.v 2) (.cons (.v 7) (.cons (.v 9) (.nil))))) (.cons (.v 10) (.cons (.c (.int 3)) (.nil)))))))
   (.seq (.ret (.c (.bl false)))
    (.nil))
   (.nil))
    (.seq (.ite (.orv (.cons (.not (.val (.call 21 (.cons (.call 8 (.cons (.v 9) (.nil))) (.cons (.blt .len (.cons (.v 9) (.nil))) (.cons (.c (.int 1)) (.nil))))))) (.one (.not (.val (.call 21 (.cons (.call 9 (.cons (.v 9) (.nil))) (.cons (.cmp .eq (.sl (.v 9) (.some_ (.neg (.c (.int 1)))) (.non_)) (.c (.str ⟨#[47]⟩))) (.cons (.c (.int 1)) (.nil))))))))))
   (.seq (.ret (.c (.bl false)))
    (.nil))
   (.nil))
    (.seq (.par [7, 8] (.cons (.ix (.v 10) (.c (.int 0))) (.cons (.bin .add (.v 8) (.blt .int (.cons (.ix (.v 10) (.c (.int 1))) (.nil)))) (.nil))))
    (.nil))))
abbrev bL2 : S := .seq (.set (.nm 10) (.call 26 (.cons (.v 2) (.cons (.v 7) (.cons (.v 9) (.nil))))))
    (.seq (.par [7, 8] (.cons (.ix (.v 10) (.c (.int 0))) (.cons (.bin .add (.v 8) (.blt .int (.cons (.ix (.v 10) (.c (.int 1))) (.nil)))) (.nil))))
    (.nil))
theorem many_if {m : Int} {b : Bool} : m + (if b = true then 1 else 0) = if b = true then m + 1 else m := by cases b <;> simp
theorem loop1 (ho : Ho) (hh : ho.Ok) (ws : List Wd) (hw : ∀ w ∈ ws, w.Ok) (k : Int) (hk : ho.may k) (st : Sto) (o0 o1 o3 o4 o5 o6 o9 o10 o11 o12 : Option D) (Q : Fl → Sl → Sto → Prop)
    (q : ∀ g m o9 o10, (g, m) = rowF ho ws k 0 → Q .nx [o0, o1, some ho.d, o3, o4, o5, o6, some (.int g), some (.int m), o9, o10, o11, o12] st) :
    wS (forL (.nm 9) (fun _ => true) (evS md.tb md.cfl (md.call 29) bL1) (ws.map strD)) [o0, o1, some ho.d, o3, o4, o5, o6, some (.int k), some (.int 0), o9, o10, o11, o12] st Q := by
  refine for_inv (fun xs sl s1 => ∃ us g m o9 o10, xs = us.map strD ∧ (∀ w ∈ us, w.Ok) ∧ ho.may g ∧ rowF ho us g m = rowF ho ws k 0 ∧ sl = [o0, o1, some ho.d, o3, o4, o5, o6, some (.int g), some (.int m), o9, o10, o11, o12] ∧ s1 = st) (fun _ _ _ _ => rfl) ?_ ?_ ⟨ws, k, 0, o9, o10, rfl, hw, hk, rfl, rfl, rfl⟩
  · rintro x r sl s1 ⟨us, g, m, o9, o10, hx, hu, hg, hr, rfl, rfl⟩
    cases us with
    | nil => cases hx
    | cons u us =>
      obtain ⟨rfl, rfl⟩ := List.cons.inj hx
      have ok := hu u List.mem_cons_self
      refine ⟨_, rfl, ?_⟩
      obtain ⟨y, e1, e2⟩ := ok.last s1
      have b1 : ∀ st, md.call 29 26 [ho.d, .int g, .str u.s] st = some (.ok (out2 (ho.say g u.cs.length u.b)), st) := fun st => c_behind 27 ho g u ok st
      have b2 : ∀ st, md.call 29 15 [ho.d, .int g, .str u.s] st = some (.ok (out2 (ho.say g u.cs.length u.b)), st) := fun st => c_said 25 ho hh g hg u ok st
      have b3 : ∀ st, md.call 29 8 [.str u.s] st = some (.ok (.int (u.cs.length : Int)), st) := fun st => c_text_size 26 u ok st
      have b4 : ∀ st, md.call 29 9 [.str u.s] st = some (.ok (.bl u.b), st) := fun st => c_ends_line 26 u ok st
      have b5 : ∀ (i : Int) st, md.call 29 21 [.int i, .int i, .int 1] st = some (.ok (.bl true), st) := fun i st => c_eq1 26 _ st rfl
      have b6 : ∀ (i : Bool) st, md.call 29 21 [.bl i, .bl i, .int 1] st = some (.ok (.bl true), st) := fun i st => c_eq1 26 _ st rfl
      have ix0 : ∀ r st, fIxD (out2 r) (.int 0) st = some (.int r.1) := fun r st => rfl
      have ix1 : ∀ r st, fIxD (out2 r) (.int 1) st = some (.bl r.2) := fun r st => rfl
      simp only [strD, onok_ok, onok_ex, onokS_ok, onokS_ex, onnx_nx, onnx_rt, onnx_bk, onnx_ct, onnx_ex, wc_ok, we_v, we_c, we_g, we_bin, we_cmp, we_ix, we_neg, we_not, we_ite, we_andv, we_orv, we_and1, we_or1, we_and, we_or, we_tup, we_frz, we_alc, we_blt, we_call, we_meth, we_sl, we_isi, we_isi2, we_dsp, we_newd, wt_val, wt_cmp, wt_not, wt_andv, wt_orv, wt_and1, wt_or1, wt_and, wt_or, wa_nil, wa_cons, wn_disp, wn_lis, wn_comp, wi_rng, wi_enu, wi_one, wo_non, wo_some, ws_nop, ws_nil, ws_brk, ws_cnt, ws_retn, ws_exp, ws_ret, ws_raise, ws_ite, ws_set, ws_set, ws_setcF, ws_setcT, ws_par, ws_put, ws_seq, ws_for, ws_while, ws_try, List.getElem?_cons_zero, List.getElem?_cons_succ, Option.some.injEq, exists_eq_left', exists_eq_left, true_implies, forall_const, Bool.true_eq_false, Bool.false_eq_true, false_implies, and_true, true_and, setT, List.set_cons_zero, List.set_cons_succ, List.length_cons, List.length_nil, setAll, Option.bind_some, asB, Bool.not_true, Bool.not_false, o_add_i, o_add_s, o_add_t, o_add_l, o_sub_i, o_mul_i, o_fdv_i, o_mod_i, o_neg_i, o_lt_i, o_le_i, o_gt_i, o_ge_i, o_is_n, o_isn_n, o_eq_d, o_ne_d, o_in_d, o_nin_d, bx_len, bx_int, bx_min, bx_max, bx_sum, bx_all, bx_any, bx_tuple, b_min_i, b_max_i, b_int_i, b_int_b, b_len_t, b_len_l, b_len_c, b_len_s, b_tup_t, b_tup_l, b_lis_t, b_lis_l, isa_tab, ty_non, ty_bl, ty_int, ty_str, ty_tup, ty_lst, ty_scr, ty_dic, tr_non, tr_bl, tr_int, tr_tup, tr_lst, tr_scr, nm_set, tp_set, ix_t, ix_l, ix_c, at_0, at_1, at_2, at_3, at_m, at_m1, range1, items_t, items_l, items_s, enu_t, enu_l, bel_int, bel_str, bel_bl, bel_non, out_bl, out_int, out_str, out_non, out_nx, mk_ends, mk_join, g_ends, fEq_i, fEq_b, rI_l, rI_d, rS_d, rL_l, r_pop, r_pop1, r_app, rr_q, rr_ix, rr_ixs, rr_len, rr_tup, rr_tru, rr_mkp, rr_mka, rr_pop, rr_app, rr_put, ok_put, out_rt, out_ex, Prod.mk.injEq, exists_eq, exists_and_left, exists_eq', bne_self_eq_false, Int.reduceBNe, Bool.true_and, and_assoc, Rs.ok.injEq, D.tup.injEq, D.bl.injEq, D.int.injEq, List.cons.injEq, enter_bs, D.bel, D.bels, List.cons_append, List.nil_append, startS, List.map_cons, List.map_nil, List.replicate_succ, List.replicate_zero, Nat.reduceSub, Nat.reduceAdd, Bool.or_false, Bool.false_or, Bool.or_true, Bool.true_or, Bool.and_true, Bool.and_false, Bool.true_and, Bool.false_and, if_true, if_false, reduceCtorEq, Bool.not_eq_true, decide_eq_true_eq, decide_eq_false_iff_not, and_self, onok, onokS, onnx, ite_true, ite_false, reduceIte, b1, b2, b3, b4, b5, b6, eq_o2, b_len_s ok.short, u.len, asI, Int.reduceNeg, e1, e2, ix0, ix1, many_if]
      exact ⟨us, rfl, fun w hw => hu w (List.mem_cons_of_mem _ hw), _, say_may hh (z := (u.cs.length : Int)) (e := u.b) (by omega) hg, _, hr, rfl, rfl⟩
  · rintro sl s1 ⟨us, g, m, o9, o10, hx, hu, hg, hr, rfl, rfl⟩
    cases us with
    | cons _ _ => cases hx
    | nil => exact q g m o9 o10 hr
theorem loop2 (ho : Ho) (ws : List Wd) (hw : ∀ w ∈ ws, w.Ok) (k : Int) (st : Sto) (o0 o1 o3 o4 o5 o6 o9 o10 o11 o12 : Option D) (Q : Fl → Sl → Sto → Prop)
    (q : ∀ g m o9 o10, (g, m) = rowF ho ws k 0 → Q .nx [o0, o1, some ho.d, o3, o4, o5, o6, some (.int g), some (.int m), o9, o10, o11, o12] st) :
    wS (forL (.nm 9) (fun _ => true) (evS md.tb md.cfl (md.call 29) bL2) (ws.map strD)) [o0, o1, some ho.d, o3, o4, o5, o6, some (.int k), some (.int 0), o9, o10, o11, o12] st Q := by
  refine for_inv (fun xs sl s1 => ∃ us g m o9 o10, xs = us.map strD ∧ (∀ w ∈ us, w.Ok) ∧ rowF ho us g m = rowF ho ws k 0 ∧ sl = [o0, o1, some ho.d, o3, o4, o5, o6, some (.int g), some (.int m), o9, o10, o11, o12] ∧ s1 = st) (fun _ _ _ _ => rfl) ?_ ?_ ⟨ws, k, 0, o9, o10, rfl, hw, rfl, rfl, rfl⟩
  · rintro x r sl s1 ⟨us, g, m, o9, o10, hx, hu, hr, rfl, rfl⟩
    cases us with
    | nil => cases hx
    | cons u us =>
      obtain ⟨rfl, rfl⟩ := List.cons.inj hx
      have ok := hu u List.mem_cons_self
      refine ⟨_, rfl, ?_⟩
      have b1 : ∀ st, md.call 29 26 [ho.d, .int g, .str u.s] st = some (.ok (out2 (ho.say g u.cs.length u.b)), st) := fun st => c_behind 27 ho g u ok st
      have ix0 : ∀ r st, fIxD (out2 r) (.int 0) st = some (.int r.1) := fun r st => rfl
      have ix1 : ∀ r st, fIxD (out2 r) (.int 1) st = some (.bl r.2) := fun r st => rfl
      simp only [strD, onok_ok, onok_ex, onokS_ok, onokS_ex, onnx_nx, onnx_rt, onnx_bk, onnx_ct, onnx_ex, wc_ok, we_v, we_c, we_g, we_bin, we_cmp, we_ix, we_neg, we_not, we_ite, we_andv, we_orv, we_and1, we_or1, we_and, we_or, we_tup, we_frz, we_alc, we_blt, we_call, we_meth, we_sl, we_isi, we_isi2, we_dsp, we_newd, wt_val, wt_cmp, wt_not, wt_andv, wt_orv, wt_and1, wt_or1, wt_and, wt_or, wa_nil, wa_cons, wn_disp, wn_lis, wn_comp, wi_rng, wi_enu, wi_one, wo_non, wo_some, ws_nop, ws_nil, ws_brk, ws_cnt, ws_retn, ws_exp, ws_ret, ws_raise, ws_ite, ws_set, ws_set, ws_setcF, ws_setcT, ws_par, ws_put, ws_seq, ws_for, ws_while, ws_try, List.getElem?_cons_zero, List.getElem?_cons_succ, Option.some.injEq, exists_eq_left', exists_eq_left, true_implies, forall_const, Bool.true_eq_false, Bool.false_eq_true, false_implies, and_true, true_and, setT, List.set_cons_zero, List.set_cons_succ, List.length_cons, List.length_nil, setAll, Option.bind_some, asB, Bool.not_true, Bool.not_false, o_add_i, o_add_s, o_add_t, o_add_l, o_sub_i, o_mul_i, o_fdv_i, o_mod_i, o_neg_i, o_lt_i, o_le_i, o_gt_i, o_ge_i, o_is_n, o_isn_n, o_eq_d, o_ne_d, o_in_d, o_nin_d, bx_len, bx_int, bx_min, bx_max, bx_sum, bx_all, bx_any, bx_tuple, b_min_i, b_max_i, b_int_i, b_int_b, b_len_t, b_len_l, b_len_c, b_len_s, b_tup_t, b_tup_l, b_lis_t, b_lis_l, isa_tab, ty_non, ty_bl, ty_int, ty_str, ty_tup, ty_lst, ty_scr, ty_dic, tr_non, tr_bl, tr_int, tr_tup, tr_lst, tr_scr, nm_set, tp_set, ix_t, ix_l, ix_c, at_0, at_1, at_2, at_3, at_m, at_m1, range1, items_t, items_l, items_s, enu_t, enu_l, bel_int, bel_str, bel_bl, bel_non, out_bl, out_int, out_str, out_non, out_nx, mk_ends, mk_join, g_ends, fEq_i, fEq_b, rI_l, rI_d, rS_d, rL_l, r_pop, r_pop1, r_app, rr_q, rr_ix, rr_ixs, rr_len, rr_tup, rr_tru, rr_mkp, rr_mka, rr_pop, rr_app, rr_put, ok_put, out_rt, out_ex, Prod.mk.injEq, exists_eq, exists_and_left, exists_eq', bne_self_eq_false, Int.reduceBNe, Bool.true_and, and_assoc, Rs.ok.injEq, D.tup.injEq, D.bl.injEq, D.int.injEq, List.cons.injEq, enter_bs, D.bel, D.bels, List.cons_append, List.nil_append, startS, List.map_cons, List.map_nil, List.replicate_succ, List.replicate_zero, Nat.reduceSub, Nat.reduceAdd, Bool.or_false, Bool.false_or, Bool.or_true, Bool.true_or, Bool.and_true, Bool.and_false, Bool.true_and, Bool.false_and, if_true, if_false, reduceCtorEq, Bool.not_eq_true, decide_eq_true_eq, decide_eq_false_iff_not, and_self, onok, onokS, onnx, ite_true, ite_false, reduceIte, b1, ix0, ix1, many_if]
      exact ⟨us, rfl, fun w hw => hu w (List.mem_cons_of_mem _ hw), _, _, hr, rfl, rfl⟩
  · rintro sl s1 ⟨us, g, m, o9, o10, hx, hu, hr, rfl, rfl⟩
    cases us with
    | cons _ _ => cases hx
    | nil => exact q g m o9 o10 hr
end K00

set_option Elab.async false
set_option linter.all false
set_option maxRecDepth 100000
set_option maxHeartbeats 0
namespace K00
open PySem Hb L2
theorem words_comp (m : Nat) (xs : List D) (hm : xs.length = m) (hl : m ≤ 100) (a : Int) (fs : List Int) (h0 : 0 ≤ a) (hf : ∀ f ∈ fs, 0 ≤ f ∧ f < 36) (sl : Sl) (hs : sl.length = 13) (h1 : sl[1]? = some (some (.ref 0))) :
    ∃ (ws : List Wd) (a' : Int), (∀ w ∈ ws, w.Ok) ∧ ws.length = m ∧ 0 ≤ a' ∧ compL (.nm 4) (fun _ => true) (evIf md.tb (md.call 29) .nil) (evE md.tb (md.call 29) (.call 22 (.cons (.v 1) (.nil)))) (wipeS sl [4]) xs ⟨[0], [dk a fs]⟩ = some (ws.map strD, ⟨[0], [dk a' fs]⟩) := by
  obtain ⟨zs, st', e, ws, a', ez, hw, hlen, ha, es⟩ := comp_inv (t := .nm 4) (g := fun _ => true) (de := evE md.tb (md.call 29) (.call 22 (.cons (.v 1) (.nil)))) (sl := wipeS sl [4]) (fun ys r st => ∃ (ws : List Wd) (a' : Int), ys = ws.map strD ∧ (∀ w ∈ ws, w.Ok) ∧ ws.length + r.length = m ∧ 0 ≤ a' ∧ st = ⟨[0], [dk a' fs]⟩) (fun _ _ _ _ => rfl) (fun ys x r st h => by
    obtain ⟨ws, a', rfl, hw, hlen, ha, rfl⟩ := h
    refine ⟨_, rfl, ?_⟩
    obtain ⟨w, a2, ok, ha2, ew⟩ := c_word 27 0 a' fs ⟨[0], [dk a' fs]⟩ (dk0 ha hf)
    have ew : md.call 29 22 [.ref 0] ⟨[0], [dk a' fs]⟩ = some (.ok (.str w.s), ⟨[0], [dk a2 fs]⟩) := ew
    have g1 : ((wipeS sl [4]).set 4 (some x))[1]? = some (some (.ref 0)) := by
      show ((sl.set 4 none).set 4 (some x))[1]? = _
      rw [List.set_set, List.getElem?_set_ne (by omega), h1]
    rw [we_call, wa_cons, we_v]
    refine ⟨_, g1, ?_⟩
    rw [onok_ok, wa_nil, onok_ok, onok_ok, ew, wc_ok]
    refine ⟨ws ++ [w], a2, by simp [strD], fun u hu => ?_, ?_, ha2, rfl⟩
    · rcases List.mem_append.mp hu with z | z
      · exact hw u z
      · rw [List.mem_singleton.mp z]; exact ok
    · rw [List.length_cons] at hlen
      rw [List.length_append]
      show ws.length + 1 + _ = m
      omega) (xs := xs) (ys := []) (st := ⟨[0], [dk a fs]⟩) ⟨[], a, rfl, (by simp), by rw [hm]; simp, h0, rfl⟩
  subst es
  rw [List.nil_append] at ez
  subst ez
  have hlen : ws.length + 0 = m := hlen
  exact ⟨ws, a', hw, by omega, ha, e⟩
theorem out_law {X : SO} {b : Bool} : outF false ⟨[], []⟩ ⟨[0], [X]⟩ (.rt (.bl b)) = some (.ok (.bl b), ⟨[], []⟩) := rfl
theorem rep_map (ws : List Wd) (n : Nat) : (List.replicate n (ws.map strD)).flatten = ((List.replicate n ws).flatten).map strD := by
  rw [List.map_flatten, List.map_replicate]
theorem pure_ (ns : List Int) (hn : ns.length ≤ 63) : ∃ st', md.call 30 31 [.scr (ns.map D.int)] ⟨[], []⟩ = some (.ok (.bl true), st') := by
  obtain ⟨fs, hf, e1⟩ := c_deck 28 ns (by omega) ⟨[0], []⟩
  have e1 : md.call 29 17 [.scr (ns.map D.int)] ⟨[0], []⟩ = some (.ok (.ref 0), ⟨[0], [dk 0 fs]⟩) := e1
  obtain ⟨ho, hh, hb, e2⟩ := c_own_hold 27 0 0 fs ⟨[0], [dk 0 fs]⟩ (dk0 (by omega) hf)
  have e2 : md.call 29 23 [.ref 0] ⟨[0], [dk 0 fs]⟩ = some (.ok ho.d, ⟨[0], [dk 2 fs]⟩) := e2
  obtain ⟨r1, p1, p2, e3⟩ := draw0 28 (bs := [0]) (O := []) (a := 2) (fs := fs) (by omega) hf 7 (by omega) (by omega)
  obtain ⟨m, m1, g1⟩ : ∃ m : Nat, m ≤ 20 ∧ L2.atI [D.int 3, .int 0, .int 1, .int 2, .int 5, .int 9, .int 20] r1 = some (.int (m : Nat)) := by
    obtain ⟨b, hb, eb⟩ := mem_at (xs := [D.int 3, .int 0, .int 1, .int 2, .int 5, .int 9, .int 20]) p1 p2
    simp only [List.mem_cons, List.not_mem_nil, or_false] at hb
    rcases hb with rfl | rfl | rfl | rfl | rfl | rfl | rfl
    · exact ⟨3, by omega, eb⟩
    · exact ⟨0, by omega, eb⟩
    · exact ⟨1, by omega, eb⟩
    · exact ⟨2, by omega, eb⟩
    · exact ⟨5, by omega, eb⟩
    · exact ⟨9, by omega, eb⟩
    · exact ⟨20, by omega, eb⟩
  have rg : ∀ st', rngOf [.int (m : Nat)] st' = some ((List.range m).map fun i => .int (0 + (i : Nat)), fun _ => true) := fun st' => by
    rw [range1, if_pos (by omega), Int.toNat_natCast]
  obtain ⟨ws, a4, hw, hlen, ha4, e4⟩ := words_comp m ((List.range m).map fun i => .int (0 + (i : Nat))) (by simp) (by omega) (2 + 1) fs (by omega) hf [some (.scr (ns.map D.int)), some (.ref 0), some ho.d, none, none, none, none, none, none, none, none, none, none] rfl rfl
  have lim : 1000 < sizeLine := by decide
  have hws : (ws.map strD).length ≤ sizeLine := by rw [List.length_map]; omega
  -- the first word
  obtain ⟨x, hx1, hx2, ex⟩ : ∃ x : Str, x.length ≤ sizeLine ∧ 1 ≤ x.length ∧ L2.atI (ws.map strD ++ [.str ⟨#[97]⟩]) 0 = some (.str x) := by
    cases ws with
    | nil => exact ⟨⟨#[97]⟩, by decide, by decide, rfl⟩
    | cons w ws =>
      have ok := hw w List.mem_cons_self
      exact ⟨w.s, ok.short, by rw [w.len]; exact ok.len.2, at_0⟩
  obtain ⟨k, a5, ha5, hk, e5⟩ := c_own_held 27 0 a4 fs ⟨[0], [dk a4 fs]⟩ (dk0 ha4 hf) ho hb x hx1 hx2
  have e5 : md.call 29 25 [.ref 0, ho.d, .str x] ⟨[0], [dk a4 fs]⟩ = some (.ok (.int k), ⟨[0], [dk a5 fs]⟩) := e5
  obtain ⟨a6, e6⟩ := c_refusals a5 fs ha5 hf ho hh ws hw (by omega)
  refine ⟨⟨[], []⟩, run_to (d := ⟨_, _, _, f_law⟩) rfl rfl ?_⟩
  have en : Sto.enter ⟨[], []⟩ = ⟨[0], []⟩ := rfl
  simp only [f_law, b_law, startS, List.map_cons, List.map_nil, List.length_cons, List.length_nil, Nat.reduceSub, Nat.reduceAdd, List.replicate_succ, List.replicate_zero, List.cons_append, List.nil_append, en]
  refine seq_step (sl1 := [some (.scr (ns.map D.int)), some (.ref 0), none, none, none, none, none, none, none, none, none, none, none]) (s1 := ⟨[0], [dk 0 fs]⟩) (fun Q => by simp only [onok_ok, onok_ex, onokS_ok, onokS_ex, onnx_nx, onnx_rt, onnx_bk, onnx_ct, onnx_ex, wc_ok, we_v, we_c, we_g, we_bin, we_cmp, we_ix, we_neg, we_not, we_ite, we_andv, we_orv, we_and1, we_or1, we_and, we_or, we_tup, we_frz, we_alc, we_blt, we_call, we_meth, we_sl, we_isi, we_isi2, we_dsp, we_newd, wt_val, wt_cmp, wt_not, wt_andv, wt_orv, wt_and1, wt_or1, wt_and, wt_or, wa_nil, wa_cons, wn_disp, wn_lis, wn_comp, wi_rng, wi_enu, wi_one, wo_non, wo_some, ws_nop, ws_nil, ws_brk, ws_cnt, ws_retn, ws_exp, ws_ret, ws_raise, ws_ite, ws_set, ws_set, ws_setcF, ws_setcT, ws_par, ws_put, ws_seq, ws_for, ws_while, ws_try, List.getElem?_cons_zero, List.getElem?_cons_succ, Option.some.injEq, exists_eq_left', exists_eq_left, true_implies, forall_const, Bool.true_eq_false, Bool.false_eq_true, false_implies, and_true, true_and, setT, List.set_cons_zero, List.set_cons_succ, List.length_cons, List.length_nil, setAll, Option.bind_some, asB, Bool.not_true, Bool.not_false, o_add_i, o_add_s, o_add_t, o_add_l, o_sub_i, o_mul_i, o_fdv_i, o_mod_i, o_neg_i, o_lt_i, o_le_i, o_gt_i, o_ge_i, o_is_n, o_isn_n, o_eq_d, o_ne_d, o_in_d, o_nin_d, bx_len, bx_int, bx_min, bx_max, bx_sum, bx_all, bx_any, bx_tuple, b_min_i, b_max_i, b_int_i, b_int_b, b_len_t, b_len_l, b_len_c, b_len_s, b_tup_t, b_tup_l, b_lis_t, b_lis_l, isa_tab, ty_non, ty_bl, ty_int, ty_str, ty_tup, ty_lst, ty_scr, ty_dic, tr_non, tr_bl, tr_int, tr_tup, tr_lst, tr_scr, nm_set, tp_set, ix_t, ix_l, ix_c, at_0, at_1, at_2, at_3, at_m, at_m1, range1, items_t, items_l, items_s, enu_t, enu_l, bel_int, bel_str, bel_bl, bel_non, out_bl, out_int, out_str, out_non, out_nx, mk_ends, mk_join, g_ends, fEq_i, fEq_b, rI_l, rI_d, rS_d, rL_l, r_pop, r_pop1, r_app, rr_q, rr_ix, rr_ixs, rr_len, rr_tup, rr_tru, rr_mkp, rr_mka, rr_pop, rr_app, rr_put, ok_put, out_rt, out_ex, Prod.mk.injEq, exists_eq, exists_and_left, exists_eq', bne_self_eq_false, Int.reduceBNe, Bool.true_and, and_assoc, Rs.ok.injEq, D.tup.injEq, D.bl.injEq, D.int.injEq, List.cons.injEq, enter_bs, D.bel, D.bels, List.cons_append, List.nil_append, startS, List.map_cons, List.map_nil, List.replicate_succ, List.replicate_zero, Nat.reduceSub, Nat.reduceAdd, Bool.or_false, Bool.false_or, Bool.or_true, Bool.true_or, Bool.and_true, Bool.and_false, Bool.true_and, Bool.false_and, if_true, if_false, reduceCtorEq, Bool.not_eq_true, decide_eq_true_eq, decide_eq_false_iff_not, and_self, onok, onokS, onnx, ite_true, ite_false, reduceIte, e1]) ?_
  refine seq_step (sl1 := [some (.scr (ns.map D.int)), some (.ref 0), some ho.d, none, none, none, none, none, none, none, none, none, none]) (s1 := ⟨[0], [dk 2 fs]⟩) (fun Q => by simp only [onok_ok, onok_ex, onokS_ok, onokS_ex, onnx_nx, onnx_rt, onnx_bk, onnx_ct, onnx_ex, wc_ok, we_v, we_c, we_g, we_bin, we_cmp, we_ix, we_neg, we_not, we_ite, we_andv, we_orv, we_and1, we_or1, we_and, we_or, we_tup, we_frz, we_alc, we_blt, we_call, we_meth, we_sl, we_isi, we_isi2, we_dsp, we_newd, wt_val, wt_cmp, wt_not, wt_andv, wt_orv, wt_and1, wt_or1, wt_and, wt_or, wa_nil, wa_cons, wn_disp, wn_lis, wn_comp, wi_rng, wi_enu, wi_one, wo_non, wo_some, ws_nop, ws_nil, ws_brk, ws_cnt, ws_retn, ws_exp, ws_ret, ws_raise, ws_ite, ws_set, ws_set, ws_setcF, ws_setcT, ws_par, ws_put, ws_seq, ws_for, ws_while, ws_try, List.getElem?_cons_zero, List.getElem?_cons_succ, Option.some.injEq, exists_eq_left', exists_eq_left, true_implies, forall_const, Bool.true_eq_false, Bool.false_eq_true, false_implies, and_true, true_and, setT, List.set_cons_zero, List.set_cons_succ, List.length_cons, List.length_nil, setAll, Option.bind_some, asB, Bool.not_true, Bool.not_false, o_add_i, o_add_s, o_add_t, o_add_l, o_sub_i, o_mul_i, o_fdv_i, o_mod_i, o_neg_i, o_lt_i, o_le_i, o_gt_i, o_ge_i, o_is_n, o_isn_n, o_eq_d, o_ne_d, o_in_d, o_nin_d, bx_len, bx_int, bx_min, bx_max, bx_sum, bx_all, bx_any, bx_tuple, b_min_i, b_max_i, b_int_i, b_int_b, b_len_t, b_len_l, b_len_c, b_len_s, b_tup_t, b_tup_l, b_lis_t, b_lis_l, isa_tab, ty_non, ty_bl, ty_int, ty_str, ty_tup, ty_lst, ty_scr, ty_dic, tr_non, tr_bl, tr_int, tr_tup, tr_lst, tr_scr, nm_set, tp_set, ix_t, ix_l, ix_c, at_0, at_1, at_2, at_3, at_m, at_m1, range1, items_t, items_l, items_s, enu_t, enu_l, bel_int, bel_str, bel_bl, bel_non, out_bl, out_int, out_str, out_non, out_nx, mk_ends, mk_join, g_ends, fEq_i, fEq_b, rI_l, rI_d, rS_d, rL_l, r_pop, r_pop1, r_app, rr_q, rr_ix, rr_ixs, rr_len, rr_tup, rr_tru, rr_mkp, rr_mka, rr_pop, rr_app, rr_put, ok_put, out_rt, out_ex, Prod.mk.injEq, exists_eq, exists_and_left, exists_eq', bne_self_eq_false, Int.reduceBNe, Bool.true_and, and_assoc, Rs.ok.injEq, D.tup.injEq, D.bl.injEq, D.int.injEq, List.cons.injEq, enter_bs, D.bel, D.bels, List.cons_append, List.nil_append, startS, List.map_cons, List.map_nil, List.replicate_succ, List.replicate_zero, Nat.reduceSub, Nat.reduceAdd, Bool.or_false, Bool.false_or, Bool.or_true, Bool.true_or, Bool.and_true, Bool.and_false, Bool.true_and, Bool.false_and, if_true, if_false, reduceCtorEq, Bool.not_eq_true, decide_eq_true_eq, decide_eq_false_iff_not, and_self, onok, onokS, onnx, ite_true, ite_false, reduceIte, e2]) ?_
  refine seq_step (sl1 := [some (.scr (ns.map D.int)), some (.ref 0), some ho.d, some (.lst (ws.map strD)), none, none, none, none, none, none, none, none, none]) (s1 := ⟨[0], [dk a4 fs]⟩) (fun Q => by
    simp only [onok_ok, onok_ex, onokS_ok, onokS_ex, onnx_nx, onnx_rt, onnx_bk, onnx_ct, onnx_ex, wc_ok, we_v, we_c, we_g, we_bin, we_cmp, we_ix, we_neg, we_not, we_ite, we_andv, we_orv, we_and1, we_or1, we_and, we_or, we_tup, we_frz, we_alc, we_blt, we_call, we_meth, we_sl, we_isi, we_isi2, we_dsp, we_newd, wt_val, wt_cmp, wt_not, wt_andv, wt_orv, wt_and1, wt_or1, wt_and, wt_or, wa_nil, wa_cons, wn_disp, wn_lis, wn_comp, wi_rng, wi_enu, wi_one, wo_non, wo_some, ws_nop, ws_nil, ws_brk, ws_cnt, ws_retn, ws_exp, ws_ret, ws_raise, ws_ite, ws_set, ws_set, ws_setcF, ws_setcT, ws_par, ws_put, ws_seq, ws_for, ws_while, ws_try, List.getElem?_cons_zero, List.getElem?_cons_succ, Option.some.injEq, exists_eq_left', exists_eq_left, true_implies, forall_const, Bool.true_eq_false, Bool.false_eq_true, false_implies, and_true, true_and, setT, List.set_cons_zero, List.set_cons_succ, List.length_cons, List.length_nil, setAll, Option.bind_some, asB, Bool.not_true, Bool.not_false, o_add_i, o_add_s, o_add_t, o_add_l, o_sub_i, o_mul_i, o_fdv_i, o_mod_i, o_neg_i, o_lt_i, o_le_i, o_gt_i, o_ge_i, o_is_n, o_isn_n, o_eq_d, o_ne_d, o_in_d, o_nin_d, bx_len, bx_int, bx_min, bx_max, bx_sum, bx_all, bx_any, bx_tuple, b_min_i, b_max_i, b_int_i, b_int_b, b_len_t, b_len_l, b_len_c, b_len_s, b_tup_t, b_tup_l, b_lis_t, b_lis_l, isa_tab, ty_non, ty_bl, ty_int, ty_str, ty_tup, ty_lst, ty_scr, ty_dic, tr_non, tr_bl, tr_int, tr_tup, tr_lst, tr_scr, nm_set, tp_set, ix_t, ix_l, ix_c, at_0, at_1, at_2, at_3, at_m, at_m1, range1, items_t, items_l, items_s, enu_t, enu_l, bel_int, bel_str, bel_bl, bel_non, out_bl, out_int, out_str, out_non, out_nx, mk_ends, mk_join, g_ends, fEq_i, fEq_b, rI_l, rI_d, rS_d, rL_l, r_pop, r_pop1, r_app, rr_q, rr_ix, rr_ixs, rr_len, rr_tup, rr_tru, rr_mkp, rr_mka, rr_pop, rr_app, rr_put, ok_put, out_rt, out_ex, Prod.mk.injEq, exists_eq, exists_and_left, exists_eq', bne_self_eq_false, Int.reduceBNe, Bool.true_and, and_assoc, Rs.ok.injEq, D.tup.injEq, D.bl.injEq, D.int.injEq, List.cons.injEq, enter_bs, D.bel, D.bels, List.cons_append, List.nil_append, startS, List.map_cons, List.map_nil, List.replicate_succ, List.replicate_zero, Nat.reduceSub, Nat.reduceAdd, Bool.or_false, Bool.false_or, Bool.or_true, Bool.true_or, Bool.and_true, Bool.and_false, Bool.true_and, Bool.false_and, if_true, if_false, reduceCtorEq, Bool.not_eq_true, decide_eq_true_eq, decide_eq_false_iff_not, and_self, onok, onokS, onnx, ite_true, ite_false, reduceIte, e3, g1, rg, e4, hws]) ?_
  refine seq_step (sl1 := [some (.scr (ns.map D.int)), some (.ref 0), some ho.d, some (.lst (ws.map strD)), none, some (.int k), none, none, none, none, none, none, none]) (s1 := ⟨[0], [dk a5 fs]⟩) (fun Q => by
    have A : ∀ st, Op2.add.f (.lst (ws.map strD)) (.lst [.str ⟨#[97]⟩]) st = some (.lst (ws.map strD ++ [.str ⟨#[97]⟩])) := fun st => by
      rw [o_add_l]
      exact if_pos (by rw [List.length_map]; show ws.length + 1 ≤ sizeLine; omega)
    rw [ws_set, we_call]
    simp only [wa_cons, wa_nil, we_v, we_ix, we_bin, we_frz, wn_disp, we_c, onok_ok, onokS_ok, List.getElem?_cons_zero, List.getElem?_cons_succ, Option.some.injEq, exists_eq_left', A, ix_l, ex, e5, wc_ok, nm_set, List.set_cons_zero, List.set_cons_succ]) ?_
  refine seq_step (sl1 := [some (.scr (ns.map D.int)), some (.ref 0), some ho.d, some (.lst (ws.map strD)), none, some (.int k), some (befD ho), none, none, none, none, none, none]) (s1 := ⟨[0], [dk a5 fs]⟩) (fun Q => by
    cases ho <;> simp only [onok_ok, onok_ex, onokS_ok, onokS_ex, onnx_nx, onnx_rt, onnx_bk, onnx_ct, onnx_ex, wc_ok, we_v, we_c, we_g, we_bin, we_cmp, we_ix, we_neg, we_not, we_ite, we_andv, we_orv, we_and1, we_or1, we_and, we_or, we_tup, we_frz, we_alc, we_blt, we_call, we_meth, we_sl, we_isi, we_isi2, we_dsp, we_newd, wt_val, wt_cmp, wt_not, wt_andv, wt_orv, wt_and1, wt_or1, wt_and, wt_or, wa_nil, wa_cons, wn_disp, wn_lis, wn_comp, wi_rng, wi_enu, wi_one, wo_non, wo_some, ws_nop, ws_nil, ws_brk, ws_cnt, ws_retn, ws_exp, ws_ret, ws_raise, ws_ite, ws_set, ws_set, ws_setcF, ws_setcT, ws_par, ws_put, ws_seq, ws_for, ws_while, ws_try, List.getElem?_cons_zero, List.getElem?_cons_succ, Option.some.injEq, exists_eq_left', exists_eq_left, true_implies, forall_const, Bool.true_eq_false, Bool.false_eq_true, false_implies, and_true, true_and, setT, List.set_cons_zero, List.set_cons_succ, List.length_cons, List.length_nil, setAll, Option.bind_some, asB, Bool.not_true, Bool.not_false, o_add_i, o_add_s, o_add_t, o_add_l, o_sub_i, o_mul_i, o_fdv_i, o_mod_i, o_neg_i, o_lt_i, o_le_i, o_gt_i, o_ge_i, o_is_n, o_isn_n, o_eq_d, o_ne_d, o_in_d, o_nin_d, bx_len, bx_int, bx_min, bx_max, bx_sum, bx_all, bx_any, bx_tuple, b_min_i, b_max_i, b_int_i, b_int_b, b_len_t, b_len_l, b_len_c, b_len_s, b_tup_t, b_tup_l, b_lis_t, b_lis_l, isa_tab, ty_non, ty_bl, ty_int, ty_str, ty_tup, ty_lst, ty_scr, ty_dic, tr_non, tr_bl, tr_int, tr_tup, tr_lst, tr_scr, nm_set, tp_set, ix_t, ix_l, ix_c, at_0, at_1, at_2, at_3, at_m, at_m1, range1, items_t, items_l, items_s, enu_t, enu_l, bel_int, bel_str, bel_bl, bel_non, out_bl, out_int, out_str, out_non, out_nx, mk_ends, mk_join, g_ends, fEq_i, fEq_b, rI_l, rI_d, rS_d, rL_l, r_pop, r_pop1, r_app, rr_q, rr_ix, rr_ixs, rr_len, rr_tup, rr_tru, rr_mkp, rr_mka, rr_pop, rr_app, rr_put, ok_put, out_rt, out_ex, Prod.mk.injEq, exists_eq, exists_and_left, exists_eq', bne_self_eq_false, Int.reduceBNe, Bool.true_and, and_assoc, Rs.ok.injEq, D.tup.injEq, D.bl.injEq, D.int.injEq, List.cons.injEq, enter_bs, D.bel, D.bels, List.cons_append, List.nil_append, startS, List.map_cons, List.map_nil, List.replicate_succ, List.replicate_zero, Nat.reduceSub, Nat.reduceAdd, Bool.or_false, Bool.false_or, Bool.or_true, Bool.true_or, Bool.and_true, Bool.and_false, Bool.true_and, Bool.false_and, if_true, if_false, reduceCtorEq, Bool.not_eq_true, decide_eq_true_eq, decide_eq_false_iff_not, and_self, onok, onokS, onnx, ite_true, ite_false, reduceIte, Ho.d, befD]) ?_
  have nochg : ∀ {s : S} {sl : Sl} {st : Sto} {Q : Fl → Sl → Sto → Prop} {r : S}, (∀ Q, wS (evS md.tb md.cfl (md.call 29) s) sl st Q = Q .nx sl st) → wS (evS md.tb md.cfl (md.call 29) r) sl st Q → wS (evS md.tb md.cfl (md.call 29) (.seq s r)) sl st Q := fun h k => seq_step h k
  refine nochg (fun Q => by simp only [onok_ok, onok_ex, onokS_ok, onokS_ex, onnx_nx, onnx_rt, onnx_bk, onnx_ct, onnx_ex, wc_ok, we_v, we_c, we_g, we_bin, we_cmp, we_ix, we_neg, we_not, we_ite, we_andv, we_orv, we_and1, we_or1, we_and, we_or, we_tup, we_frz, we_alc, we_blt, we_call, we_meth, we_sl, we_isi, we_isi2, we_dsp, we_newd, wt_val, wt_cmp, wt_not, wt_andv, wt_orv, wt_and1, wt_or1, wt_and, wt_or, wa_nil, wa_cons, wn_disp, wn_lis, wn_comp, wi_rng, wi_enu, wi_one, wo_non, wo_some, ws_nop, ws_nil, ws_brk, ws_cnt, ws_retn, ws_exp, ws_ret, ws_raise, ws_ite, ws_set, ws_set, ws_setcF, ws_setcT, ws_par, ws_put, ws_seq, ws_for, ws_while, ws_try, List.getElem?_cons_zero, List.getElem?_cons_succ, Option.some.injEq, exists_eq_left', exists_eq_left, true_implies, forall_const, Bool.true_eq_false, Bool.false_eq_true, false_implies, and_true, true_and, setT, List.set_cons_zero, List.set_cons_succ, List.length_cons, List.length_nil, setAll, Option.bind_some, asB, Bool.not_true, Bool.not_false, o_add_i, o_add_s, o_add_t, o_add_l, o_sub_i, o_mul_i, o_fdv_i, o_mod_i, o_neg_i, o_lt_i, o_le_i, o_gt_i, o_ge_i, o_is_n, o_isn_n, o_eq_d, o_ne_d, o_in_d, o_nin_d, bx_len, bx_int, bx_min, bx_max, bx_sum, bx_all, bx_any, bx_tuple, b_min_i, b_max_i, b_int_i, b_int_b, b_len_t, b_len_l, b_len_c, b_len_s, b_tup_t, b_tup_l, b_lis_t, b_lis_l, isa_tab, ty_non, ty_bl, ty_int, ty_str, ty_tup, ty_lst, ty_scr, ty_dic, tr_non, tr_bl, tr_int, tr_tup, tr_lst, tr_scr, nm_set, tp_set, ix_t, ix_l, ix_c, at_0, at_1, at_2, at_3, at_m, at_m1, range1, items_t, items_l, items_s, enu_t, enu_l, bel_int, bel_str, bel_bl, bel_non, out_bl, out_int, out_str, out_non, out_nx, mk_ends, mk_join, g_ends, fEq_i, fEq_b, rI_l, rI_d, rS_d, rL_l, r_pop, r_pop1, r_app, rr_q, rr_ix, rr_ixs, rr_len, rr_tup, rr_tru, rr_mkp, rr_mka, rr_pop, rr_app, rr_put, ok_put, out_rt, out_ex, Prod.mk.injEq, exists_eq, exists_and_left, exists_eq', bne_self_eq_false, Int.reduceBNe, Bool.true_and, and_assoc, Rs.ok.injEq, D.tup.injEq, D.bl.injEq, D.int.injEq, List.cons.injEq, enter_bs, D.bel, D.bels, List.cons_append, List.nil_append, startS, List.map_cons, List.map_nil, List.replicate_succ, List.replicate_zero, Nat.reduceSub, Nat.reduceAdd, Bool.or_false, Bool.false_or, Bool.or_true, Bool.true_or, Bool.and_true, Bool.and_false, Bool.true_and, Bool.false_and, if_true, if_false, reduceCtorEq, Bool.not_eq_true, decide_eq_true_eq, decide_eq_false_iff_not, and_self, onok, onokS, onnx, ite_true, ite_false, reduceIte, hand]) ?_
  refine seq_step (sl1 := [some (.scr (ns.map D.int)), some (.ref 0), some ho.d, some (.lst (ws.map strD)), none, some (.int k), some (befD ho), some (.int k), some (.int 0), none, none, none, none]) (s1 := ⟨[0], [dk a5 fs]⟩) (fun Q => by simp only [onok_ok, onok_ex, onokS_ok, onokS_ex, onnx_nx, onnx_rt, onnx_bk, onnx_ct, onnx_ex, wc_ok, we_v, we_c, we_g, we_bin, we_cmp, we_ix, we_neg, we_not, we_ite, we_andv, we_orv, we_and1, we_or1, we_and, we_or, we_tup, we_frz, we_alc, we_blt, we_call, we_meth, we_sl, we_isi, we_isi2, we_dsp, we_newd, wt_val, wt_cmp, wt_not, wt_andv, wt_orv, wt_and1, wt_or1, wt_and, wt_or, wa_nil, wa_cons, wn_disp, wn_lis, wn_comp, wi_rng, wi_enu, wi_one, wo_non, wo_some, ws_nop, ws_nil, ws_brk, ws_cnt, ws_retn, ws_exp, ws_ret, ws_raise, ws_ite, ws_set, ws_set, ws_setcF, ws_setcT, ws_par, ws_put, ws_seq, ws_for, ws_while, ws_try, List.getElem?_cons_zero, List.getElem?_cons_succ, Option.some.injEq, exists_eq_left', exists_eq_left, true_implies, forall_const, Bool.true_eq_false, Bool.false_eq_true, false_implies, and_true, true_and, setT, List.set_cons_zero, List.set_cons_succ, List.length_cons, List.length_nil, setAll, Option.bind_some, asB, Bool.not_true, Bool.not_false, o_add_i, o_add_s, o_add_t, o_add_l, o_sub_i, o_mul_i, o_fdv_i, o_mod_i, o_neg_i, o_lt_i, o_le_i, o_gt_i, o_ge_i, o_is_n, o_isn_n, o_eq_d, o_ne_d, o_in_d, o_nin_d, bx_len, bx_int, bx_min, bx_max, bx_sum, bx_all, bx_any, bx_tuple, b_min_i, b_max_i, b_int_i, b_int_b, b_len_t, b_len_l, b_len_c, b_len_s, b_tup_t, b_tup_l, b_lis_t, b_lis_l, isa_tab, ty_non, ty_bl, ty_int, ty_str, ty_tup, ty_lst, ty_scr, ty_dic, tr_non, tr_bl, tr_int, tr_tup, tr_lst, tr_scr, nm_set, tp_set, ix_t, ix_l, ix_c, at_0, at_1, at_2, at_3, at_m, at_m1, range1, items_t, items_l, items_s, enu_t, enu_l, bel_int, bel_str, bel_bl, bel_non, out_bl, out_int, out_str, out_non, out_nx, mk_ends, mk_join, g_ends, fEq_i, fEq_b, rI_l, rI_d, rS_d, rL_l, r_pop, r_pop1, r_app, rr_q, rr_ix, rr_ixs, rr_len, rr_tup, rr_tru, rr_mkp, rr_mka, rr_pop, rr_app, rr_put, ok_put, out_rt, out_ex, Prod.mk.injEq, exists_eq, exists_and_left, exists_eq', bne_self_eq_false, Int.reduceBNe, Bool.true_and, and_assoc, Rs.ok.injEq, D.tup.injEq, D.bl.injEq, D.int.injEq, List.cons.injEq, enter_bs, D.bel, D.bels, List.cons_append, List.nil_append, startS, List.map_cons, List.map_nil, List.replicate_succ, List.replicate_zero, Nat.reduceSub, Nat.reduceAdd, Bool.or_false, Bool.false_or, Bool.or_true, Bool.true_or, Bool.and_true, Bool.and_false, Bool.true_and, Bool.false_and, if_true, if_false, reduceCtorEq, Bool.not_eq_true, decide_eq_true_eq, decide_eq_false_iff_not, and_self, onok, onokS, onnx, ite_true, ite_false, reduceIte, setAll]) ?_
  rw [ws_seq, ws_for]
  simp only [wi_one, we_v, onokS_ok, onok_ok, List.getElem?_cons_zero, List.getElem?_cons_succ, Option.some.injEq, exists_eq_left', items_l]
  refine loop1 ho hh ws hw k hk _ _ _ _ _ _ _ _ _ _ _ _ fun g m' o9 o10 hgm => ?_
  rw [onnx_nx]
  have sr : ∀ st, md.call 29 16 [ho.d, .int k, .lst (ws.map strD)] st = some (.ok (outI (rowF ho ws k 0)), st) := fun st => c_said_row 25 ho hh k hk ws hw (by omega) _ (.inr rfl) st
  refine seq_step (sl1 := [some (.scr (ns.map D.int)), some (.ref 0), some ho.d, some (.lst (ws.map strD)), none, some (.int k), some (befD ho), some (.int g), some (.int m'), o9, o10, some (.lst (ws.map strD)), none]) (s1 := ⟨[0], [dk a5 fs]⟩) (fun Q => by simp only [onok_ok, onok_ex, onokS_ok, onokS_ex, onnx_nx, onnx_rt, onnx_bk, onnx_ct, onnx_ex, wc_ok, we_v, we_c, we_g, we_bin, we_cmp, we_ix, we_neg, we_not, we_ite, we_andv, we_orv, we_and1, we_or1, we_and, we_or, we_tup, we_frz, we_alc, we_blt, we_call, we_meth, we_sl, we_isi, we_isi2, we_dsp, we_newd, wt_val, wt_cmp, wt_not, wt_andv, wt_orv, wt_and1, wt_or1, wt_and, wt_or, wa_nil, wa_cons, wn_disp, wn_lis, wn_comp, wi_rng, wi_enu, wi_one, wo_non, wo_some, ws_nop, ws_nil, ws_brk, ws_cnt, ws_retn, ws_exp, ws_ret, ws_raise, ws_ite, ws_set, ws_set, ws_setcF, ws_setcT, ws_par, ws_put, ws_seq, ws_for, ws_while, ws_try, List.getElem?_cons_zero, List.getElem?_cons_succ, Option.some.injEq, exists_eq_left', exists_eq_left, true_implies, forall_const, Bool.true_eq_false, Bool.false_eq_true, false_implies, and_true, true_and, setT, List.set_cons_zero, List.set_cons_succ, List.length_cons, List.length_nil, setAll, Option.bind_some, asB, Bool.not_true, Bool.not_false, o_add_i, o_add_s, o_add_t, o_add_l, o_sub_i, o_mul_i, o_fdv_i, o_mod_i, o_neg_i, o_lt_i, o_le_i, o_gt_i, o_ge_i, o_is_n, o_isn_n, o_eq_d, o_ne_d, o_in_d, o_nin_d, bx_len, bx_int, bx_min, bx_max, bx_sum, bx_all, bx_any, bx_tuple, b_min_i, b_max_i, b_int_i, b_int_b, b_len_t, b_len_l, b_len_c, b_len_s, b_tup_t, b_tup_l, b_lis_t, b_lis_l, isa_tab, ty_non, ty_bl, ty_int, ty_str, ty_tup, ty_lst, ty_scr, ty_dic, tr_non, tr_bl, tr_int, tr_tup, tr_lst, tr_scr, nm_set, tp_set, ix_t, ix_l, ix_c, at_0, at_1, at_2, at_3, at_m, at_m1, range1, items_t, items_l, items_s, enu_t, enu_l, bel_int, bel_str, bel_bl, bel_non, out_bl, out_int, out_str, out_non, out_nx, mk_ends, mk_join, g_ends, fEq_i, fEq_b, rI_l, rI_d, rS_d, rL_l, r_pop, r_pop1, r_app, rr_q, rr_ix, rr_ixs, rr_len, rr_tup, rr_tru, rr_mkp, rr_mka, rr_pop, rr_app, rr_put, ok_put, out_rt, out_ex, Prod.mk.injEq, exists_eq, exists_and_left, exists_eq', bne_self_eq_false, Int.reduceBNe, Bool.true_and, and_assoc, Rs.ok.injEq, D.tup.injEq, D.bl.injEq, D.int.injEq, List.cons.injEq, enter_bs, D.bel, D.bels, List.cons_append, List.nil_append, startS, List.map_cons, List.map_nil, List.replicate_succ, List.replicate_zero, Nat.reduceSub, Nat.reduceAdd, Bool.or_false, Bool.false_or, Bool.or_true, Bool.true_or, Bool.and_true, Bool.and_false, Bool.true_and, Bool.false_and, if_true, if_false, reduceCtorEq, Bool.not_eq_true, decide_eq_true_eq, decide_eq_false_iff_not, and_self, onok, onokS, onnx, ite_true, ite_false, reduceIte]) ?_
  have oo : D.tup [.int g, .int m'] = outI (rowF ho ws k 0) := by rw [← hgm]; rfl
  refine nochg (fun Q => by simp only [onok_ok, onok_ex, onokS_ok, onokS_ex, onnx_nx, onnx_rt, onnx_bk, onnx_ct, onnx_ex, wc_ok, we_v, we_c, we_g, we_bin, we_cmp, we_ix, we_neg, we_not, we_ite, we_andv, we_orv, we_and1, we_or1, we_and, we_or, we_tup, we_frz, we_alc, we_blt, we_call, we_meth, we_sl, we_isi, we_isi2, we_dsp, we_newd, wt_val, wt_cmp, wt_not, wt_andv, wt_orv, wt_and1, wt_or1, wt_and, wt_or, wa_nil, wa_cons, wn_disp, wn_lis, wn_comp, wi_rng, wi_enu, wi_one, wo_non, wo_some, ws_nop, ws_nil, ws_brk, ws_cnt, ws_retn, ws_exp, ws_ret, ws_raise, ws_ite, ws_set, ws_set, ws_setcF, ws_setcT, ws_par, ws_put, ws_seq, ws_for, ws_while, ws_try, List.getElem?_cons_zero, List.getElem?_cons_succ, Option.some.injEq, exists_eq_left', exists_eq_left, true_implies, forall_const, Bool.true_eq_false, Bool.false_eq_true, false_implies, and_true, true_and, setT, List.set_cons_zero, List.set_cons_succ, List.length_cons, List.length_nil, setAll, Option.bind_some, asB, Bool.not_true, Bool.not_false, o_add_i, o_add_s, o_add_t, o_add_l, o_sub_i, o_mul_i, o_fdv_i, o_mod_i, o_neg_i, o_lt_i, o_le_i, o_gt_i, o_ge_i, o_is_n, o_isn_n, o_eq_d, o_ne_d, o_in_d, o_nin_d, bx_len, bx_int, bx_min, bx_max, bx_sum, bx_all, bx_any, bx_tuple, b_min_i, b_max_i, b_int_i, b_int_b, b_len_t, b_len_l, b_len_c, b_len_s, b_tup_t, b_tup_l, b_lis_t, b_lis_l, isa_tab, ty_non, ty_bl, ty_int, ty_str, ty_tup, ty_lst, ty_scr, ty_dic, tr_non, tr_bl, tr_int, tr_tup, tr_lst, tr_scr, nm_set, tp_set, ix_t, ix_l, ix_c, at_0, at_1, at_2, at_3, at_m, at_m1, range1, items_t, items_l, items_s, enu_t, enu_l, bel_int, bel_str, bel_bl, bel_non, out_bl, out_int, out_str, out_non, out_nx, mk_ends, mk_join, g_ends, fEq_i, fEq_b, rI_l, rI_d, rS_d, rL_l, r_pop, r_pop1, r_app, rr_q, rr_ix, rr_ixs, rr_len, rr_tup, rr_tru, rr_mkp, rr_mka, rr_pop, rr_app, rr_put, ok_put, out_rt, out_ex, Prod.mk.injEq, exists_eq, exists_and_left, exists_eq', bne_self_eq_false, Int.reduceBNe, Bool.true_and, and_assoc, Rs.ok.injEq, D.tup.injEq, D.bl.injEq, D.int.injEq, List.cons.injEq, enter_bs, D.bel, D.bels, List.cons_append, List.nil_append, startS, List.map_cons, List.map_nil, List.replicate_succ, List.replicate_zero, Nat.reduceSub, Nat.reduceAdd, Bool.or_false, Bool.false_or, Bool.or_true, Bool.true_or, Bool.and_true, Bool.and_false, Bool.true_and, Bool.false_and, if_true, if_false, reduceCtorEq, Bool.not_eq_true, decide_eq_true_eq, decide_eq_false_iff_not, and_self, onok, onokS, onnx, ite_true, ite_false, reduceIte, sr, oo, eq_oI, strs_ne hw]) ?_
  obtain ⟨W, hW⟩ : ∃ W, W = (List.replicate 20 ws).flatten := ⟨_, rfl⟩
  have hWw : ∀ w ∈ W, w.Ok := fun w h => by
    rw [hW] at h
    obtain ⟨l, hl, hwl⟩ := List.mem_flatten.mp h
    rw [List.mem_replicate] at hl
    rw [hl.2] at hwl
    exact hw w hwl
  have hWl : W.length ≤ 1000 := by
    rw [hW, List.length_flatten, List.map_replicate, List.sum_replicate_nat]
    omega
  have M : ∀ st, Op2.mul.f (.lst (ws.map strD)) (.int 20) st = some (.lst (W.map strD)) := fun st => by
    show fRep (.lst (ws.map strD)) 20 st = _
    show (if -(2 ^ 63) ≤ (20 : Int) ∧ (20 : Int) < 2 ^ 63 ∧ (ws.map strD).length * (20 : Int).toNat ≤ sizeLine then some (D.lst (List.replicate (20 : Int).toNat (ws.map strD)).flatten) else none) = _
    rw [if_pos ⟨by decide, by decide, by rw [List.length_map]; show ws.length * 20 ≤ _; omega⟩, hW, ← rep_map]
    rfl
  refine seq_step (sl1 := [some (.scr (ns.map D.int)), some (.ref 0), some ho.d, some (.lst (ws.map strD)), none, some (.int k), some (befD ho), some (.int g), some (.int m'), o9, o10, some (.lst (ws.map strD)), some (.lst (W.map strD))]) (s1 := ⟨[0], [dk a5 fs]⟩) (fun Q => by simp only [onok_ok, onok_ex, onokS_ok, onokS_ex, onnx_nx, onnx_rt, onnx_bk, onnx_ct, onnx_ex, wc_ok, we_v, we_c, we_g, we_bin, we_cmp, we_ix, we_neg, we_not, we_ite, we_andv, we_orv, we_and1, we_or1, we_and, we_or, we_tup, we_frz, we_alc, we_blt, we_call, we_meth, we_sl, we_isi, we_isi2, we_dsp, we_newd, wt_val, wt_cmp, wt_not, wt_andv, wt_orv, wt_and1, wt_or1, wt_and, wt_or, wa_nil, wa_cons, wn_disp, wn_lis, wn_comp, wi_rng, wi_enu, wi_one, wo_non, wo_some, ws_nop, ws_nil, ws_brk, ws_cnt, ws_retn, ws_exp, ws_ret, ws_raise, ws_ite, ws_set, ws_set, ws_setcF, ws_setcT, ws_par, ws_put, ws_seq, ws_for, ws_while, ws_try, List.getElem?_cons_zero, List.getElem?_cons_succ, Option.some.injEq, exists_eq_left', exists_eq_left, true_implies, forall_const, Bool.true_eq_false, Bool.false_eq_true, false_implies, and_true, true_and, setT, List.set_cons_zero, List.set_cons_succ, List.length_cons, List.length_nil, setAll, Option.bind_some, asB, Bool.not_true, Bool.not_false, o_add_i, o_add_s, o_add_t, o_add_l, o_sub_i, o_mul_i, o_fdv_i, o_mod_i, o_neg_i, o_lt_i, o_le_i, o_gt_i, o_ge_i, o_is_n, o_isn_n, o_eq_d, o_ne_d, o_in_d, o_nin_d, bx_len, bx_int, bx_min, bx_max, bx_sum, bx_all, bx_any, bx_tuple, b_min_i, b_max_i, b_int_i, b_int_b, b_len_t, b_len_l, b_len_c, b_len_s, b_tup_t, b_tup_l, b_lis_t, b_lis_l, isa_tab, ty_non, ty_bl, ty_int, ty_str, ty_tup, ty_lst, ty_scr, ty_dic, tr_non, tr_bl, tr_int, tr_tup, tr_lst, tr_scr, nm_set, tp_set, ix_t, ix_l, ix_c, at_0, at_1, at_2, at_3, at_m, at_m1, range1, items_t, items_l, items_s, enu_t, enu_l, bel_int, bel_str, bel_bl, bel_non, out_bl, out_int, out_str, out_non, out_nx, mk_ends, mk_join, g_ends, fEq_i, fEq_b, rI_l, rI_d, rS_d, rL_l, r_pop, r_pop1, r_app, rr_q, rr_ix, rr_ixs, rr_len, rr_tup, rr_tru, rr_mkp, rr_mka, rr_pop, rr_app, rr_put, ok_put, out_rt, out_ex, Prod.mk.injEq, exists_eq, exists_and_left, exists_eq', bne_self_eq_false, Int.reduceBNe, Bool.true_and, and_assoc, Rs.ok.injEq, D.tup.injEq, D.bl.injEq, D.int.injEq, List.cons.injEq, enter_bs, D.bel, D.bels, List.cons_append, List.nil_append, startS, List.map_cons, List.map_nil, List.replicate_succ, List.replicate_zero, Nat.reduceSub, Nat.reduceAdd, Bool.or_false, Bool.false_or, Bool.or_true, Bool.true_or, Bool.and_true, Bool.and_false, Bool.true_and, Bool.false_and, if_true, if_false, reduceCtorEq, Bool.not_eq_true, decide_eq_true_eq, decide_eq_false_iff_not, and_self, onok, onokS, onnx, ite_true, ite_false, reduceIte, M]) ?_
  refine seq_step (sl1 := [some (.scr (ns.map D.int)), some (.ref 0), some ho.d, some (.lst (ws.map strD)), none, some (.int k), some (befD ho), some (.int k), some (.int 0), o9, o10, some (.lst (ws.map strD)), some (.lst (W.map strD))]) (s1 := ⟨[0], [dk a5 fs]⟩) (fun Q => by simp only [onok_ok, onok_ex, onokS_ok, onokS_ex, onnx_nx, onnx_rt, onnx_bk, onnx_ct, onnx_ex, wc_ok, we_v, we_c, we_g, we_bin, we_cmp, we_ix, we_neg, we_not, we_ite, we_andv, we_orv, we_and1, we_or1, we_and, we_or, we_tup, we_frz, we_alc, we_blt, we_call, we_meth, we_sl, we_isi, we_isi2, we_dsp, we_newd, wt_val, wt_cmp, wt_not, wt_andv, wt_orv, wt_and1, wt_or1, wt_and, wt_or, wa_nil, wa_cons, wn_disp, wn_lis, wn_comp, wi_rng, wi_enu, wi_one, wo_non, wo_some, ws_nop, ws_nil, ws_brk, ws_cnt, ws_retn, ws_exp, ws_ret, ws_raise, ws_ite, ws_set, ws_set, ws_setcF, ws_setcT, ws_par, ws_put, ws_seq, ws_for, ws_while, ws_try, List.getElem?_cons_zero, List.getElem?_cons_succ, Option.some.injEq, exists_eq_left', exists_eq_left, true_implies, forall_const, Bool.true_eq_false, Bool.false_eq_true, false_implies, and_true, true_and, setT, List.set_cons_zero, List.set_cons_succ, List.length_cons, List.length_nil, setAll, Option.bind_some, asB, Bool.not_true, Bool.not_false, o_add_i, o_add_s, o_add_t, o_add_l, o_sub_i, o_mul_i, o_fdv_i, o_mod_i, o_neg_i, o_lt_i, o_le_i, o_gt_i, o_ge_i, o_is_n, o_isn_n, o_eq_d, o_ne_d, o_in_d, o_nin_d, bx_len, bx_int, bx_min, bx_max, bx_sum, bx_all, bx_any, bx_tuple, b_min_i, b_max_i, b_int_i, b_int_b, b_len_t, b_len_l, b_len_c, b_len_s, b_tup_t, b_tup_l, b_lis_t, b_lis_l, isa_tab, ty_non, ty_bl, ty_int, ty_str, ty_tup, ty_lst, ty_scr, ty_dic, tr_non, tr_bl, tr_int, tr_tup, tr_lst, tr_scr, nm_set, tp_set, ix_t, ix_l, ix_c, at_0, at_1, at_2, at_3, at_m, at_m1, range1, items_t, items_l, items_s, enu_t, enu_l, bel_int, bel_str, bel_bl, bel_non, out_bl, out_int, out_str, out_non, out_nx, mk_ends, mk_join, g_ends, fEq_i, fEq_b, rI_l, rI_d, rS_d, rL_l, r_pop, r_pop1, r_app, rr_q, rr_ix, rr_ixs, rr_len, rr_tup, rr_tru, rr_mkp, rr_mka, rr_pop, rr_app, rr_put, ok_put, out_rt, out_ex, Prod.mk.injEq, exists_eq, exists_and_left, exists_eq', bne_self_eq_false, Int.reduceBNe, Bool.true_and, and_assoc, Rs.ok.injEq, D.tup.injEq, D.bl.injEq, D.int.injEq, List.cons.injEq, enter_bs, D.bel, D.bels, List.cons_append, List.nil_append, startS, List.map_cons, List.map_nil, List.replicate_succ, List.replicate_zero, Nat.reduceSub, Nat.reduceAdd, Bool.or_false, Bool.false_or, Bool.or_true, Bool.true_or, Bool.and_true, Bool.and_false, Bool.true_and, Bool.false_and, if_true, if_false, reduceCtorEq, Bool.not_eq_true, decide_eq_true_eq, decide_eq_false_iff_not, and_self, onok, onokS, onnx, ite_true, ite_false, reduceIte, setAll]) ?_
  rw [ws_seq, ws_for]
  simp only [wi_one, we_v, onokS_ok, onok_ok, List.getElem?_cons_zero, List.getElem?_cons_succ, Option.some.injEq, exists_eq_left', items_l]
  refine loop2 ho W hWw k _ _ _ _ _ _ _ _ _ _ _ _ fun g2 m2 o9 o10 hgm2 => ?_
  rw [onnx_nx]
  have sr2 : ∀ st, md.call 29 16 [ho.d, .int k, .tup (W.map strD)] st = some (.ok (outI (rowF ho W k 0)), st) := fun st => c_said_row 25 ho hh k hk W hWw hWl _ (.inl rfl) st
  have oo2 : D.tup [.int g2, .int m2] = outI (rowF ho W k 0) := by rw [← hgm2]; rfl
  refine nochg (fun Q => by simp only [onok_ok, onok_ex, onokS_ok, onokS_ex, onnx_nx, onnx_rt, onnx_bk, onnx_ct, onnx_ex, wc_ok, we_v, we_c, we_g, we_bin, we_cmp, we_ix, we_neg, we_not, we_ite, we_andv, we_orv, we_and1, we_or1, we_and, we_or, we_tup, we_frz, we_alc, we_blt, we_call, we_meth, we_sl, we_isi, we_isi2, we_dsp, we_newd, wt_val, wt_cmp, wt_not, wt_andv, wt_orv, wt_and1, wt_or1, wt_and, wt_or, wa_nil, wa_cons, wn_disp, wn_lis, wn_comp, wi_rng, wi_enu, wi_one, wo_non, wo_some, ws_nop, ws_nil, ws_brk, ws_cnt, ws_retn, ws_exp, ws_ret, ws_raise, ws_ite, ws_set, ws_set, ws_setcF, ws_setcT, ws_par, ws_put, ws_seq, ws_for, ws_while, ws_try, List.getElem?_cons_zero, List.getElem?_cons_succ, Option.some.injEq, exists_eq_left', exists_eq_left, true_implies, forall_const, Bool.true_eq_false, Bool.false_eq_true, false_implies, and_true, true_and, setT, List.set_cons_zero, List.set_cons_succ, List.length_cons, List.length_nil, setAll, Option.bind_some, asB, Bool.not_true, Bool.not_false, o_add_i, o_add_s, o_add_t, o_add_l, o_sub_i, o_mul_i, o_fdv_i, o_mod_i, o_neg_i, o_lt_i, o_le_i, o_gt_i, o_ge_i, o_is_n, o_isn_n, o_eq_d, o_ne_d, o_in_d, o_nin_d, bx_len, bx_int, bx_min, bx_max, bx_sum, bx_all, bx_any, bx_tuple, b_min_i, b_max_i, b_int_i, b_int_b, b_len_t, b_len_l, b_len_c, b_len_s, b_tup_t, b_tup_l, b_lis_t, b_lis_l, isa_tab, ty_non, ty_bl, ty_int, ty_str, ty_tup, ty_lst, ty_scr, ty_dic, tr_non, tr_bl, tr_int, tr_tup, tr_lst, tr_scr, nm_set, tp_set, ix_t, ix_l, ix_c, at_0, at_1, at_2, at_3, at_m, at_m1, range1, items_t, items_l, items_s, enu_t, enu_l, bel_int, bel_str, bel_bl, bel_non, out_bl, out_int, out_str, out_non, out_nx, mk_ends, mk_join, g_ends, fEq_i, fEq_b, rI_l, rI_d, rS_d, rL_l, r_pop, r_pop1, r_app, rr_q, rr_ix, rr_ixs, rr_len, rr_tup, rr_tru, rr_mkp, rr_mka, rr_pop, rr_app, rr_put, ok_put, out_rt, out_ex, Prod.mk.injEq, exists_eq, exists_and_left, exists_eq', bne_self_eq_false, Int.reduceBNe, Bool.true_and, and_assoc, Rs.ok.injEq, D.tup.injEq, D.bl.injEq, D.int.injEq, List.cons.injEq, enter_bs, D.bel, D.bels, List.cons_append, List.nil_append, startS, List.map_cons, List.map_nil, List.replicate_succ, List.replicate_zero, Nat.reduceSub, Nat.reduceAdd, Bool.or_false, Bool.false_or, Bool.or_true, Bool.true_or, Bool.and_true, Bool.and_false, Bool.true_and, Bool.false_and, if_true, if_false, reduceCtorEq, Bool.not_eq_true, decide_eq_true_eq, decide_eq_false_iff_not, and_self, onok, onokS, onnx, ite_true, ite_false, reduceIte, sr2, oo2, eq_oI]) ?_
  refine nochg (fun Q => by cases ho <;> simp only [onok_ok, onok_ex, onokS_ok, onokS_ex, onnx_nx, onnx_rt, onnx_bk, onnx_ct, onnx_ex, wc_ok, we_v, we_c, we_g, we_bin, we_cmp, we_ix, we_neg, we_not, we_ite, we_andv, we_orv, we_and1, we_or1, we_and, we_or, we_tup, we_frz, we_alc, we_blt, we_call, we_meth, we_sl, we_isi, we_isi2, we_dsp, we_newd, wt_val, wt_cmp, wt_not, wt_andv, wt_orv, wt_and1, wt_or1, wt_and, wt_or, wa_nil, wa_cons, wn_disp, wn_lis, wn_comp, wi_rng, wi_enu, wi_one, wo_non, wo_some, ws_nop, ws_nil, ws_brk, ws_cnt, ws_retn, ws_exp, ws_ret, ws_raise, ws_ite, ws_set, ws_set, ws_setcF, ws_setcT, ws_par, ws_put, ws_seq, ws_for, ws_while, ws_try, List.getElem?_cons_zero, List.getElem?_cons_succ, Option.some.injEq, exists_eq_left', exists_eq_left, true_implies, forall_const, Bool.true_eq_false, Bool.false_eq_true, false_implies, and_true, true_and, setT, List.set_cons_zero, List.set_cons_succ, List.length_cons, List.length_nil, setAll, Option.bind_some, asB, Bool.not_true, Bool.not_false, o_add_i, o_add_s, o_add_t, o_add_l, o_sub_i, o_mul_i, o_fdv_i, o_mod_i, o_neg_i, o_lt_i, o_le_i, o_gt_i, o_ge_i, o_is_n, o_isn_n, o_eq_d, o_ne_d, o_in_d, o_nin_d, bx_len, bx_int, bx_min, bx_max, bx_sum, bx_all, bx_any, bx_tuple, b_min_i, b_max_i, b_int_i, b_int_b, b_len_t, b_len_l, b_len_c, b_len_s, b_tup_t, b_tup_l, b_lis_t, b_lis_l, isa_tab, ty_non, ty_bl, ty_int, ty_str, ty_tup, ty_lst, ty_scr, ty_dic, tr_non, tr_bl, tr_int, tr_tup, tr_lst, tr_scr, nm_set, tp_set, ix_t, ix_l, ix_c, at_0, at_1, at_2, at_3, at_m, at_m1, range1, items_t, items_l, items_s, enu_t, enu_l, bel_int, bel_str, bel_bl, bel_non, out_bl, out_int, out_str, out_non, out_nx, mk_ends, mk_join, g_ends, fEq_i, fEq_b, rI_l, rI_d, rS_d, rL_l, r_pop, r_pop1, r_app, rr_q, rr_ix, rr_ixs, rr_len, rr_tup, rr_tru, rr_mkp, rr_mka, rr_pop, rr_app, rr_put, ok_put, out_rt, out_ex, Prod.mk.injEq, exists_eq, exists_and_left, exists_eq', bne_self_eq_false, Int.reduceBNe, Bool.true_and, and_assoc, Rs.ok.injEq, D.tup.injEq, D.bl.injEq, D.int.injEq, List.cons.injEq, enter_bs, D.bel, D.bels, List.cons_append, List.nil_append, startS, List.map_cons, List.map_nil, List.replicate_succ, List.replicate_zero, Nat.reduceSub, Nat.reduceAdd, Bool.or_false, Bool.false_or, Bool.or_true, Bool.true_or, Bool.and_true, Bool.and_false, Bool.true_and, Bool.false_and, if_true, if_false, reduceCtorEq, Bool.not_eq_true, decide_eq_true_eq, decide_eq_false_iff_not, and_self, onok, onokS, onnx, ite_true, ite_false, reduceIte, Ho.d, befD, ne_tt2]) ?_
  simp only [onok_ok, onok_ex, onokS_ok, onokS_ex, onnx_nx, onnx_rt, onnx_bk, onnx_ct, onnx_ex, wc_ok, we_v, we_c, we_g, we_bin, we_cmp, we_ix, we_neg, we_not, we_ite, we_andv, we_orv, we_and1, we_or1, we_and, we_or, we_tup, we_frz, we_alc, we_blt, we_call, we_meth, we_sl, we_isi, we_isi2, we_dsp, we_newd, wt_val, wt_cmp, wt_not, wt_andv, wt_orv, wt_and1, wt_or1, wt_and, wt_or, wa_nil, wa_cons, wn_disp, wn_lis, wn_comp, wi_rng, wi_enu, wi_one, wo_non, wo_some, ws_nop, ws_nil, ws_brk, ws_cnt, ws_retn, ws_exp, ws_ret, ws_raise, ws_ite, ws_set, ws_set, ws_setcF, ws_setcT, ws_par, ws_put, ws_seq, ws_for, ws_while, ws_try, List.getElem?_cons_zero, List.getElem?_cons_succ, Option.some.injEq, exists_eq_left', exists_eq_left, true_implies, forall_const, Bool.true_eq_false, Bool.false_eq_true, false_implies, and_true, true_and, setT, List.set_cons_zero, List.set_cons_succ, List.length_cons, List.length_nil, setAll, Option.bind_some, asB, Bool.not_true, Bool.not_false, o_add_i, o_add_s, o_add_t, o_add_l, o_sub_i, o_mul_i, o_fdv_i, o_mod_i, o_neg_i, o_lt_i, o_le_i, o_gt_i, o_ge_i, o_is_n, o_isn_n, o_eq_d, o_ne_d, o_in_d, o_nin_d, bx_len, bx_int, bx_min, bx_max, bx_sum, bx_all, bx_any, bx_tuple, b_min_i, b_max_i, b_int_i, b_int_b, b_len_t, b_len_l, b_len_c, b_len_s, b_tup_t, b_tup_l, b_lis_t, b_lis_l, isa_tab, ty_non, ty_bl, ty_int, ty_str, ty_tup, ty_lst, ty_scr, ty_dic, tr_non, tr_bl, tr_int, tr_tup, tr_lst, tr_scr, nm_set, tp_set, ix_t, ix_l, ix_c, at_0, at_1, at_2, at_3, at_m, at_m1, range1, items_t, items_l, items_s, enu_t, enu_l, bel_int, bel_str, bel_bl, bel_non, out_bl, out_int, out_str, out_non, out_nx, mk_ends, mk_join, g_ends, fEq_i, fEq_b, rI_l, rI_d, rS_d, rL_l, r_pop, r_pop1, r_app, rr_q, rr_ix, rr_ixs, rr_len, rr_tup, rr_tru, rr_mkp, rr_mka, rr_pop, rr_app, rr_put, ok_put, out_rt, out_ex, Prod.mk.injEq, exists_eq, exists_and_left, exists_eq', bne_self_eq_false, Int.reduceBNe, Bool.true_and, and_assoc, Rs.ok.injEq, D.tup.injEq, D.bl.injEq, D.int.injEq, List.cons.injEq, enter_bs, D.bel, D.bels, List.cons_append, List.nil_append, startS, List.map_cons, List.map_nil, List.replicate_succ, List.replicate_zero, Nat.reduceSub, Nat.reduceAdd, Bool.or_false, Bool.false_or, Bool.or_true, Bool.true_or, Bool.and_true, Bool.and_false, Bool.true_and, Bool.false_and, if_true, if_false, reduceCtorEq, Bool.not_eq_true, decide_eq_true_eq, decide_eq_false_iff_not, and_self, onok, onokS, onnx, ite_true, ite_false, reduceIte, e6, out_law]
end K00

set_option Elab.async false
set_option linter.all false
set_option maxRecDepth 100000
set_option maxHeartbeats 0
namespace K00
open PySem PySem.Spec PyProof.Rows L2 Hb
abbrev R : PySem.W.OpenRow := PySem.W.OpenLaw.row PySem.Challenge.rw_heldbacktext_k00_holds_said
def hdl : List He.DefD := md.hd top fi ci
abbrev hk : PySem.W.Hook := He.hookX 5 md.fa hdl [] [] md.ex
def ob (s : PySem.W.SharedT) : He.AlX := He.obsX 5 md.fa hdl [] [] md.ex (HandSHeadRun.getT s)
theorem ob_eq (s : PySem.W.SharedT) : ob s = hk.obs s.abs := He.obsX_eq (HandSHeadRun.getT_eq s)
theorem run (w : World) : HandSHeadRun.RunEq R (PySem.W.view R.prog [lawIx]) hk ob 4000 loose w := by
  intro os
  kernel_rfl
end K00
open PySem PySem.W PySem.Calls PyProof.Rows
theorem PySem.Challenge.cw_heldbacktext_k00_holds_said_holds : PySem.Challenge.rw_heldbacktext_k00_holds_said.Holds := by
  w_on; o_law
  refine HandSHeadRun.head_any (r := K00.R) (q := view K00.R.prog [K00.lawIx]) (H := K00.hk) (ob := K00.ob) (M := 4000) (loose := K00.loose) (d := HandSHeadRun.topDef K00.R.prog K00.lawIx) (kwd := []) K00.ob_eq
    (by kernel_rfl) (fun s => by kernel_rfl) K00.run (by kernel_rfl) (by kernel_rfl) (by kernel_rfl) (by rfl) (by first | assumption | decide +kernel) (by decide +kernel) ⟨rfl, rfl, rfl, rfl, rfl, by decide +kernel⟩ ?hw ?hc
  case hw => w_witness2
  case hc =>
    refine L2.walk_ofE (l := PySem.Challenge.rw_heldbacktext_k00_holds_said) (n := 63) (k := 32) (x := "script") (CX := L2.CX0) rfl (by decide) (by kernel_rfl) ⟨rfl, by decide, by decide⟩ ?F (fun _ _ _ _ z => z)
    intro w mg fa h Y G hmg0
    obtain ⟨K, KX, c⟩ := Y
    have hmg : mg ("law" : PySem.Str) = some (.ref fa) := by
      have e : (HandSHeadRun.topDef K00.R.prog K00.lawIx).name = ("law" : PySem.Str) := by kernel_rfl
      rw [← e]
      exact hmg0
    obtain ⟨fd, sp, h1, h2, h3⟩ := Hb.law_end (P := (PySem.Challenge.rw_heldbacktext_k00_holds_said).prog) (w := w) (Hb.told KX G c K00.cf K00.cc) (n := 29) (i := K00.lawNo) (L := 63) (x := "script") rfl rfl hmg K00.pure_
    exact ⟨K, fd, sp, KX, h1, h2, h3⟩
