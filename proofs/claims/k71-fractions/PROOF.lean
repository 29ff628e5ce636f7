import PyProof.Rows.All
import Wide.All
import OpenK.AllK
import Wide.FinOn
import HandS.Defaults
import HandS.EndBits
import HandS.ForExc
import HandS.ForMost
import HandS.IsInst
import HandS.More
import HandS.RaiseMore
import HandS.Text
import HandS.Wide
import HandS.WideBits
import HandS.WordsDict
import PyProof.ReprBulk
import PyProof.ReprRoads
import PySem.Challenge.RW_crywalks_k71_fractions
set_option Elab.async false
set_option linter.all false
set_option maxRecDepth 100000
set_option maxHeartbeats 2000000 
namespace DL
open L2 PyProof.Rows PySem PySem.Spec

/-! ### 1. data as trees -/
/-- a class of the text: its name, its fields in the order in which they are stored -/
structure CI where
  nm : Str
  fl : List Str
inductive D where
  | non
  | bl (b : Bool)
  | int (i : Int)
  | str (s : Str)
  | ty (n : String)
  | tup (xs : List D)
  | lst (xs : List D)
  | lsk (xs : List D)
  | dct (kvs : List (Key × D))
  | ins (c : CI) (fs : List D)
  | cls (c : CI)
  | ref (a : Addr)
/-- what may still be changed -/
inductive DO where
  | lst (xs : List D)
  | dct (kvs : List (Key × D))
  | ins (c : CI) (fs : List D)
abbrev DH := Addr → Option DO
def upG (G : DH) (a : Addr) (o : DO) : DH := fun b => if b = a then some o else G b
theorem upG_same {G : DH} {a : Addr} {o : DO} : upG G a o a = some o := by unfold upG; rw [if_pos rfl]
theorem upG_ne {G : DH} {a b : Addr} {o : DO} (h : b ≠ a) : upG G a o b = G b := by unfold upG; rw [if_neg h]
theorem upG_upG {G : DH} {a : Addr} {o u : DO} : upG (upG G a o) a u = upG G a u := by
  funext b; unfold upG; split <;> rfl
theorem upG_none {G : DH} {a b : Addr} {o : DO} (h : upG G a o b = none) : b ≠ a ∧ G b = none := by
  by_cases e : b = a
  · rw [e, upG_same] at h; cases h
  · rw [upG_ne e] at h; exact ⟨e, h⟩
theorem some_ne {G : DH} {a b : Addr} {o : DO} (h : G a = some o) (h' : G b = none) : a ≠ b := by
  intro e; rw [e, h'] at h; cases h
abbrev Sl := List (Option D)
abbrev DQ := D → DH → Prop
/-- an exception: its class, its fields -/
structure Exn where
  c : CI
  fs : List D
abbrev DW := Exn → Sl → DH → Prop
abbrev DE := DW → Sl → DH → DQ → Prop
abbrev DA := DW → Sl → DH → (List D → DH → Prop) → Prop
abbrev DT := DW → Sl → DH → (Bool → DH → Prop) → Prop
structure DEnds where
  nx : Sl → DH → Prop
  rt : DQ
  ex : DW
  bk : Sl → DH → Prop := fun _ _ => False
  ct : Sl → DH → Prop := fun _ _ => False
abbrev DS := DEnds → Sl → DH → Prop

/-- a list, a tuple of the text's own -/
def KSeq (K : PySem.W.Frag) (T : String) (a : Addr) (vs : List V) : Prop :=
  ∃ (o : Obj) (its : Array Value) (n : Nat), K.lookup a = some o ∧ o.cls = .type T ∧ o.dict = none ∧ o.data = .seq its n ∧ its.size ≤ sizeLine ∧ Vals vs its.toList
def TupAt (K : PySem.W.Frag) (H : Hp) (G : DH) (a : Addr) (vs : List V) : Prop := (G a = none ∧ H a = some (.tup vs)) ∨ KSeq K "tuple" a vs
def LskAt (K : PySem.W.Frag) (H : Hp) (G : DH) (a : Addr) (vs : List V) : Prop := (G a = none ∧ ∃ o, H a = some (.frz o (.lst vs))) ∨ KSeq K "list" a vs

mutual
inductive Rp (K : PySem.W.Frag) (mg : Str → Option Value) (H : Hp) (G : DH) : D → V → Prop
  | non : Rp K mg H G .non .non
  | bl (b : Bool) : Rp K mg H G (.bl b) (.bl b)
  | int (i : Int) : Rp K mg H G (.int i) (.int i)
  | str (x : Str) : Rp K mg H G (.str x) (.str x)
  | ty (n : String) : Rp K mg H G (.ty n) (.ty n)
  | tup {a : Addr} {vs : List V} {xs : List D} : TupAt K H G a vs → RpL K mg H G xs vs → Rp K mg H G (.tup xs) (.ref a)
  | lst {a : Addr} {vs : List V} {xs : List D} : G a = none → H a = some (.lst vs) → RpL K mg H G xs vs → Rp K mg H G (.lst xs) (.ref a)
  | lsk {a : Addr} {vs : List V} {xs : List D} : LskAt K H G a vs → RpL K mg H G xs vs → Rp K mg H G (.lsk xs) (.ref a)
  | dct {a : Addr} {vs : List (Key × V)} {xs : List (Key × D)} : G a = none → H a = some (.dK vs) → RpK K mg H G xs vs → Rp K mg H G (.dct xs) (.ref a)
  | ins {c : CI} {C a dx : Addr} {fs : List (Str × V)} {ds : List D} : mg c.nm = some (.ref C) → G a = none → H a = some (.ins C dx fs) → fs.map (·.1) = c.fl → RpL K mg H G ds (fs.map (·.2)) → Rp K mg H G (.ins c ds) (.ref a)
  | cls {c : CI} {C : Addr} : mg c.nm = some (.ref C) → Rp K mg H G (.cls c) (.ref C)
  | ref (a : Addr) : Rp K mg H G (.ref a) (.ref a)
inductive RpL (K : PySem.W.Frag) (mg : Str → Option Value) (H : Hp) (G : DH) : List D → List V → Prop
  | nil : RpL K mg H G [] []
  | cons {d : D} {v : V} {ds : List D} {vs : List V} : Rp K mg H G d v → RpL K mg H G ds vs → RpL K mg H G (d :: ds) (v :: vs)
inductive RpK (K : PySem.W.Frag) (mg : Str → Option Value) (H : Hp) (G : DH) : List (Key × D) → List (Key × V) → Prop
  | nil : RpK K mg H G [] []
  | cons {k : Key} {d : D} {v : V} {ds : List (Key × D)} {vs : List (Key × V)} : Rp K mg H G d v → RpK K mg H G ds vs → RpK K mg H G ((k, d) :: ds) ((k, v) :: vs)
end
/-- what nobody may change any more stands -/
def Ext (H : Hp) (G : DH) (H' : Hp) (G' : DH) : Prop := ∀ a o, G a = none → H a = some o → H' a = some o ∧ G' a = none
theorem Ext.refl (H : Hp) (G : DH) : Ext H G H G := fun _ _ g h => ⟨h, g⟩
theorem Ext.trans {H H1 H2 : Hp} {G G1 G2 : DH} (a : Ext H G H1 G1) (b : Ext H1 G1 H2 G2) : Ext H G H2 G2 := fun x o g h =>
  let ⟨h1, g1⟩ := a x o g h
  b x o g1 h1
section
variable {K : PySem.W.Frag} {mg : Str → Option Value} {H H' : Hp} {G G' : DH}
theorem TupAt.ext {a : Addr} {vs : List V} (e : Ext H G H' G') (h : TupAt K H G a vs) : TupAt K H' G' a vs := by
  rcases h with ⟨g, h⟩ | h
  · obtain ⟨h2, g2⟩ := e a _ g h
    exact .inl ⟨g2, h2⟩
  · exact .inr h
theorem LskAt.ext {a : Addr} {vs : List V} (e : Ext H G H' G') (h : LskAt K H G a vs) : LskAt K H' G' a vs := by
  rcases h with ⟨g, o, h⟩ | h
  · obtain ⟨h2, g2⟩ := e a _ g h
    exact .inl ⟨g2, o, h2⟩
  · exact .inr h
mutual
theorem Rp.ext (e : Ext H G H' G') : ∀ {d : D} {v : V}, Rp K mg H G d v → Rp K mg H' G' d v
  | _, _, .non => .non
  | _, _, .bl b => .bl b
  | _, _, .int i => .int i
  | _, _, .str x => .str x
  | _, _, .ty n => .ty n
  | _, _, .tup h r => .tup (h.ext e) (RpL.ext e r)
  | _, _, .lst g h r => .lst (e _ _ g h).2 (e _ _ g h).1 (RpL.ext e r)
  | _, _, .lsk h r => .lsk (h.ext e) (RpL.ext e r)
  | _, _, .dct g h r => .dct (e _ _ g h).2 (e _ _ g h).1 (RpK.ext e r)
  | _, _, .ins m g h n r => .ins m (e _ _ g h).2 (e _ _ g h).1 n (RpL.ext e r)
  | _, _, .cls m => .cls m
  | _, _, .ref a => .ref a
theorem RpL.ext (e : Ext H G H' G') : ∀ {ds : List D} {vs : List V}, RpL K mg H G ds vs → RpL K mg H' G' ds vs
  | _, _, .nil => .nil
  | _, _, .cons r t => .cons (Rp.ext e r) (RpL.ext e t)
theorem RpK.ext (e : Ext H G H' G') : ∀ {ds : List (Key × D)} {vs : List (Key × V)}, RpK K mg H G ds vs → RpK K mg H' G' ds vs
  | _, _, .nil => .nil
  | _, _, .cons r t => .cons (Rp.ext e r) (RpK.ext e t)
end
theorem RpL.length : ∀ {ds : List D} {vs : List V}, RpL K mg H G ds vs → ds.length = vs.length
  | _, _, .nil => rfl
  | _, _, .cons _ t => congrArg (· + 1) (RpL.length t)
theorem RpL.get : ∀ {ds : List D} {vs : List V} {i : Nat} {d : D}, RpL K mg H G ds vs → ds[i]? = some d → ∃ v, vs[i]? = some v ∧ Rp K mg H G d v
  | _, _, _, _, .nil, e => by simp at e
  | _, _, 0, _, .cons r _, e => by simp at e; subst e; exact ⟨_, rfl, r⟩
  | _, _, i + 1, d, .cons _ t, e => by
    obtain ⟨v, h1, h2⟩ := RpL.get (i := i) (d := d) t (by simpa using e)
    exact ⟨v, by simpa using h1, h2⟩
theorem RpL.getV : ∀ {ds : List D} {vs : List V} {i : Nat} {v : V}, RpL K mg H G ds vs → vs[i]? = some v → ∃ d, ds[i]? = some d ∧ Rp K mg H G d v
  | _, _, _, _, .nil, e => by simp at e
  | _, _, 0, _, .cons r _, e => by simp at e; subst e; exact ⟨_, rfl, r⟩
  | _, _, i + 1, v, .cons _ t, e => by
    obtain ⟨d, h1, h2⟩ := RpL.getV (i := i) (v := v) t (by simpa using e)
    exact ⟨d, by simpa using h1, h2⟩
theorem RpL.append : ∀ {ds es : List D} {vs us : List V}, RpL K mg H G ds vs → RpL K mg H G es us → RpL K mg H G (ds ++ es) (vs ++ us)
  | _, _, _, _, .nil, s => s
  | _, _, _, _, .cons r t, s => .cons r (RpL.append t s)
theorem RpL.set {d : D} {v : V} (r : Rp K mg H G d v) : ∀ {ds : List D} {vs : List V} (i : Nat), RpL K mg H G ds vs → RpL K mg H G (ds.set i d) (vs.set i v)
  | _, _, _, .nil => .nil
  | _, _, 0, .cons _ t => .cons r t
  | _, _, i + 1, .cons q t => .cons q (RpL.set r i t)
theorem RpL.take : ∀ {ds : List D} {vs : List V} (n : Nat), RpL K mg H G ds vs → RpL K mg H G (ds.take n) (vs.take n)
  | _, _, 0, _ => .nil
  | _, _, _ + 1, .nil => .nil
  | _, _, n + 1, .cons r t => .cons r (RpL.take n t)
theorem RpL.drop : ∀ {ds : List D} {vs : List V} (n : Nat), RpL K mg H G ds vs → RpL K mg H G (ds.drop n) (vs.drop n)
  | _, _, 0, h => h
  | _, _, _ + 1, .nil => .nil
  | _, _, n + 1, .cons _ t => RpL.drop n t
theorem RpL.one {d : D} {v : V} (r : Rp K mg H G d v) : RpL K mg H G [d] [v] := .cons r .nil
theorem RpL.dropLast {ds : List D} {vs : List V} (r : RpL K mg H G ds vs) : RpL K mg H G ds.dropLast vs.dropLast := by
  rw [List.dropLast_eq_take, List.dropLast_eq_take, r.length]
  exact r.take _
theorem RpL.reverse {ds : List D} {vs : List V} (r : RpL K mg H G ds vs) : RpL K mg H G ds.reverse vs.reverse := by
  induction ds generalizing vs with
  | nil => cases r; exact .nil
  | cons d ds ih => cases r with
    | cons r t => rw [List.reverse_cons, List.reverse_cons]; exact (ih t).append (.one r)
theorem RpL.map_inv {ds : List D} {vs : List V} (r : RpL K mg H G ds vs) : ∀ {f : Int → D}, True := fun {_} => trivial
theorem RpK.length : ∀ {ds : List (Key × D)} {vs : List (Key × V)}, RpK K mg H G ds vs → ds.length = vs.length
  | _, _, .nil => rfl
  | _, _, .cons _ t => congrArg (· + 1) (RpK.length t)

/-- what is live is as G says -/
inductive ObOk (K : PySem.W.Frag) (mg : Str → Option Value) (H : Hp) (G : DH) (a : Addr) : DO → Prop
  | lst {vs : List V} {xs : List D} : H a = some (.lst vs) → RpL K mg H G xs vs → ObOk K mg H G a (.lst xs)
  | dct {vs : List (Key × V)} {xs : List (Key × D)} : H a = some (.dK vs) → RpK K mg H G xs vs → ObOk K mg H G a (.dct xs)
  | ins {c : CI} {C dx : Addr} {fs : List (Str × V)} {ds : List D} : mg c.nm = some (.ref C) → H a = some (.ins C dx fs) → fs.map (·.1) = c.fl.take ds.length → RpL K mg H G ds (fs.map (·.2)) → ObOk K mg H G a (.ins c ds)
def HpOk (K : PySem.W.Frag) (mg : Str → Option Value) (H : Hp) (G : DH) : Prop := ∀ a o, G a = some o → ObOk K mg H G a o
theorem ObOk.there {a : Addr} {o : DO} (h : ObOk K mg H G a o) : ∃ u, H a = some u := by
  cases h with
  | lst h _ => exact ⟨_, h⟩
  | dct h _ => exact ⟨_, h⟩
  | ins _ h _ _ => exact ⟨_, h⟩
theorem HpOk.free {p : Addr} (h : HpOk K mg H G) (hp : H p = none) : G p = none := by
  cases e : G p with
  | none => rfl
  | some o =>
    obtain ⟨u, hu⟩ := (h p o e).there
    rw [hp] at hu; cases hu
theorem ObOk.ext {a : Addr} {o : DO} (e : Ext H G H' G') (hh : ∀ u, H a = some u → H' a = some u) (h : ObOk K mg H G a o) : ObOk K mg H' G' a o := by
  cases h with
  | lst h r => exact .lst (hh _ h) (r.ext e)
  | dct h r => exact .dct (hh _ h) (r.ext e)
  | ins m h n r => exact .ins m (hh _ h) n (r.ext e)
/-- the object at a is changed, all else stands -/
theorem HpOk.upd {a : Addr} {o : DO} {u : HO} (h : HpOk K mg H G) (e : Ext H G (L2.upd H a u) (upG G a o)) (new : ObOk K mg (L2.upd H a u) (upG G a o) a o) : HpOk K mg (L2.upd H a u) (upG G a o) := fun b w hb => by
  by_cases hba : b = a
  · subst hba; rw [upG_same] at hb; cases hb; exact new
  · rw [upG_ne hba] at hb
    exact (h b w hb).ext e fun u hu => by rw [L2.upd_ne hba]; exact hu
/-- a new live object -/
theorem Ext.new {p : Addr} {o : DO} {u : HO} (hp : H p = none) : Ext H G (L2.upd H p u) (upG G p o) := fun a w g h => by
  have ne : a ≠ p := fun z => by rw [z, hp] at h; cases h
  rw [L2.upd_ne ne, upG_ne ne]; exact ⟨h, g⟩
/-- a new object that nobody changes -/
theorem Ext.newF {p : Addr} {u : HO} (hp : H p = none) : Ext H G (L2.upd H p u) G := fun a w g h => by
  have ne : a ≠ p := fun z => by rw [z, hp] at h; cases h
  rw [L2.upd_ne ne]; exact ⟨h, g⟩
/-- a live object is changed -/
theorem Ext.write {a : Addr} {w o : DO} {u : HO} (ha : G a = some w) : Ext H G (L2.upd H a u) (upG G a o) := fun b v g h => by
  have ne : b ≠ a := fun z => by rw [z, ha] at g; cases g
  rw [L2.upd_ne ne, upG_ne ne]; exact ⟨h, g⟩
theorem HpOk.newF {p : Addr} {u : HO} (h : HpOk K mg H G) (hp : H p = none) : HpOk K mg (L2.upd H p u) G := fun b w hb =>
  (h b w hb).ext (Ext.newF hp) fun v hv => by
    have ne : b ≠ p := fun z => by rw [z, hp] at hv; cases hv
    rw [L2.upd_ne ne]; exact hv
/-- some live objects are let go -/
def Sub (G' G : DH) : Prop := ∀ a o, G' a = some o → G a = some o
theorem Sub.refl (G : DH) : Sub G G := fun _ _ h => h
theorem Sub.none {a : Addr} (s : Sub G' G) (h : G a = none) : G' a = none := by
  cases e : G' a with
  | none => rfl
  | some o => rw [s a o e] at h; cases h
theorem Sub.ext (s : Sub G' G) : Ext H G H G' := fun a o g h => ⟨h, s.none g⟩
theorem HpOk.sub (h : HpOk K mg H G) (s : Sub G' G) : HpOk K mg H G' := fun a o e => (h a o (s a o e)).ext s.ext fun _ z => z

/-- the slots -/
def StOk (K : PySem.W.Frag) (mg : Str → Option Value) (H : Hp) (G : DH) (δ : Sl) (σ : L2.St) : Prop :=
  δ.length = σ.length ∧ ∀ (i : Nat) (d : D), δ[i]? = some (some d) → ∃ v, σ[i]? = some (some v) ∧ Rp K mg H G d v
theorem StOk.ext {δ : Sl} {σ : L2.St} (e : Ext H G H' G') (h : StOk K mg H G δ σ) : StOk K mg H' G' δ σ :=
  ⟨h.1, fun i d hd => let ⟨v, h1, h2⟩ := h.2 i d hd; ⟨v, h1, h2.ext e⟩⟩
theorem StOk.set {δ : Sl} {σ : L2.St} {d : D} {v : V} (i : Nat) (h : StOk K mg H G δ σ) (r : Rp K mg H G d v) : StOk K mg H G (δ.set i (some d)) (σ.set i (some v)) := by
  refine ⟨by rw [List.length_set, List.length_set]; exact h.1, fun j e hj => ?_⟩
  by_cases hij : i = j
  · subst hij
    have hl : i < δ.length := by
      have := (List.getElem?_eq_some_iff.mp hj).1
      rw [List.length_set] at this; exact this
    rw [List.getElem?_set_self hl] at hj
    cases hj
    exact ⟨v, List.getElem?_set_self (by rw [← h.1]; exact hl), r⟩
  · rw [List.getElem?_set_ne hij] at hj
    obtain ⟨w, h1, h2⟩ := h.2 j e hj
    exact ⟨w, by rw [List.getElem?_set_ne hij]; exact h1, h2⟩
theorem StOk.clear {δ : Sl} {σ : L2.St} (i : Nat) {o : Option V} (h : StOk K mg H G δ σ) : StOk K mg H G (δ.set i none) (σ.set i o) := by
  refine ⟨by rw [List.length_set, List.length_set]; exact h.1, fun j e hj => ?_⟩
  by_cases hij : i = j
  · subst hij
    have hl : i < δ.length := by
      have := (List.getElem?_eq_some_iff.mp hj).1
      rw [List.length_set] at this; exact this
    rw [List.getElem?_set_self hl] at hj
    cases hj
  · rw [List.getElem?_set_ne hij] at hj
    obtain ⟨w, h1, h2⟩ := h.2 j e hj
    exact ⟨w, by rw [List.getElem?_set_ne hij]; exact h1, h2⟩
theorem StOk.start {ds : List D} {vs : List V} {N : List Str} (r : RpL K mg H G ds vs) : StOk K mg H G (ds.map some ++ List.replicate (N.length - ds.length) none) (L2.start N vs) := by
  unfold L2.start
  refine ⟨by rw [List.length_append, List.length_append, List.length_map, List.length_map, List.length_replicate, List.length_replicate, r.length], fun i d h => ?_⟩
  by_cases hi : i < ds.length
  · rw [List.getElem?_append_left (by simpa using hi), List.getElem?_map] at h
    cases e : ds[i]? with
    | none => rw [e] at h; cases h
    | some d' =>
      rw [e] at h; cases h
      obtain ⟨v, h1, h2⟩ := r.get e
      exact ⟨v, by rw [List.getElem?_append_left (by rw [List.length_map, ← r.length]; exact hi), List.getElem?_map, h1]; rfl, h2⟩
  · rw [List.getElem?_append_right (by simpa using hi), List.getElem?_replicate] at h
    split at h <;> cases h
end
/-- an exception's class and dict -/
def ExOk (K : PySem.W.Frag) (mg : Str → Option Value) (H : Hp) (G : DH) (x : Exn) (cls : Value) (d : Option Addr) : Prop :=
  ∃ C, mg x.c.nm = some (.ref C) ∧ cls = .ref C ∧
    ((x.fs = [] ∧ d = none) ∨ ∃ (a : Addr) (fs : List (Str × V)), d = some a ∧ G a = none ∧ H a = some (.xd fs) ∧ fs.map (·.1) = x.c.fl ∧ RpL K mg H G x.fs (fs.map (·.2)))
theorem ExOk.ext {K : PySem.W.Frag} {mg : Str → Option Value} {H H' : Hp} {G G' : DH} {x : Exn} {cls : Value} {d : Option Addr} (e : Ext H G H' G') (h : ExOk K mg H G x cls d) : ExOk K mg H' G' x cls d := by
  obtain ⟨C, h1, h2, h3⟩ := h
  refine ⟨C, h1, h2, ?_⟩
  rcases h3 with h3 | ⟨a, fs, h4, g, h5, h6, h7⟩
  · exact .inl h3
  · obtain ⟨h5', g'⟩ := e a _ g h5
    exact .inr ⟨a, fs, h4, g', h5', h6, h7.ext e⟩

/-! ### 2. the judgements -/
section
variable (X : Cx)
def upE (Wx : WX) (t : DE) : TE := fun σ H Q => ∃ (W : DW) (δ : Sl) (G : DH) (R : DQ), StOk X.K X.mg H G δ σ ∧ HpOk X.K X.mg H G ∧ t W δ G R ∧
  (∀ d G' H' v, R d G' → Ext H G H' G' → HpOk X.K X.mg H' G' → Rp X.K X.mg H' G' d v → Q v H') ∧
  ∀ ex δ' G' σ' H' cls dd, W ex δ' G' → Ext H G H' G' → StOk X.K X.mg H' G' δ' σ' → HpOk X.K X.mg H' G' → ExOk X.K X.mg H' G' ex cls dd → Wx cls dd σ' H'
def upT (Wx : WX) (t : DT) : TT := fun σ H Q => ∃ (W : DW) (δ : Sl) (G : DH) (R : Bool → DH → Prop), StOk X.K X.mg H G δ σ ∧ HpOk X.K X.mg H G ∧ t W δ G R ∧
  (∀ b G' H', R b G' → Ext H G H' G' → HpOk X.K X.mg H' G' → Q b H') ∧
  ∀ ex δ' G' σ' H' cls dd, W ex δ' G' → Ext H G H' G' → StOk X.K X.mg H' G' δ' σ' → HpOk X.K X.mg H' G' → ExOk X.K X.mg H' G' ex cls dd → Wx cls dd σ' H'
def upA (Wx : WX) (t : DA) : TA := fun σ H Q => ∃ (W : DW) (δ : Sl) (G : DH) (R : List D → DH → Prop), StOk X.K X.mg H G δ σ ∧ HpOk X.K X.mg H G ∧ t W δ G R ∧
  (∀ ds G' H' vs, R ds G' → Ext H G H' G' → HpOk X.K X.mg H' G' → RpL X.K X.mg H' G' ds vs → Q vs H') ∧
  ∀ ex δ' G' σ' H' cls dd, W ex δ' G' → Ext H G H' G' → StOk X.K X.mg H' G' δ' σ' → HpOk X.K X.mg H' G' → ExOk X.K X.mg H' G' ex cls dd → Wx cls dd σ' H'
def upS (Wx : WX) (t : DS) : TS := fun D σ H => ∃ (DD : DEnds) (δ : Sl) (G : DH), StOk X.K X.mg H G δ σ ∧ HpOk X.K X.mg H G ∧ t DD δ G ∧
  (∀ δ' G' σ' H', DD.nx δ' G' → Ext H G H' G' → StOk X.K X.mg H' G' δ' σ' → HpOk X.K X.mg H' G' → D.nx σ' H') ∧
  (∀ d G' H' v, DD.rt d G' → Ext H G H' G' → HpOk X.K X.mg H' G' → Rp X.K X.mg H' G' d v → D.rt v H') ∧
  (∀ δ' G' σ' H', DD.bk δ' G' → Ext H G H' G' → StOk X.K X.mg H' G' δ' σ' → HpOk X.K X.mg H' G' → D.bk σ' H') ∧
  (∀ δ' G' σ' H', DD.ct δ' G' → Ext H G H' G' → StOk X.K X.mg H' G' δ' σ' → HpOk X.K X.mg H' G' → D.ct σ' H') ∧
  ∀ ex δ' G' σ' H' cls dd, DD.ex ex δ' G' → Ext H G H' G' → StOk X.K X.mg H' G' δ' σ' → HpOk X.K X.mg H' G' → ExOk X.K X.mg H' G' ex cls dd → Wx cls dd σ' H'
end
/-- what is known of the context: no repr runs, there is room; cm: nothing is being handled -/
structure Gd (X : Cx) (lv : Nat) (cm : Bool) : Prop where
  gu : X.A.guards = some []
  dp : X.A.depth + 3 * lv + 5 < recursionLimit
  un : X.A.units + 16 * lv + 200 < cLine
  hd : cm = true → X.A.handled = none
  cl : cm = true → X.calm = true
  po : PassesOwn (model X.prog X.w) X.A X.env X.xe
theorem Gd.room {X : Cx} {lv : Nat} (g : Gd X lv true) : Room lv X.A := ⟨g.hd rfl, g.dp, g.un⟩
theorem Gd.mono {X : Cx} {lv k : Nat} {cm : Bool} (g : Gd X lv cm) (h : k ≤ lv) : Gd X k cm :=
  ⟨g.gu, by have := g.dp; omega, by have := g.un; omega, g.hd, g.cl, g.po⟩
def PD (X : Cx) (lv : Nat) (cm : Bool) (e : Expr) (t : DE) : Prop := Gd X lv cm → ∀ Wx, Takes X Wx → PE X e (upE X Wx t)
def PDT (X : Cx) (lv : Nat) (cm : Bool) (e : Expr) (t : DT) : Prop := Gd X lv cm → ∀ Wx, Takes X Wx → PT X e (upT X Wx t)
def PDA (X : Cx) (lv : Nat) (cm : Bool) (es : List Expr) (t : DA) : Prop := Gd X lv cm → ∀ Wx, Takes X Wx → PA X es (upA X Wx t)
def PDS (X : Cx) (lv : Nat) (cm : Bool) (st : Stmt) (t : DS) : Prop := Gd X lv cm → ∀ Wx, Takes X Wx → PS X st (upS X Wx t)
def PDSs (X : Cx) (lv : Nat) (cm : Bool) (st : List Stmt) (t : DS) : Prop := Gd X lv cm → ∀ Wx, Takes X Wx → PSs X st (upS X Wx t)
theorem pe_imp {X : Cx} {e : Expr} {t t' : TE} (h : PE X e t) (i : ∀ σ H Q, t' σ H Q → t σ H Q) : PE X e t' := ⟨fun pins s σ H Q I q => h.run pins s σ H Q I (i _ _ _ q)⟩
theorem pt_imp {X : Cx} {e : Expr} {t t' : TT} (h : PT X e t) (i : ∀ σ H Q, t' σ H Q → t σ H Q) : PT X e t' := ⟨fun pins s σ H Q I q => h.run pins s σ H Q I (i _ _ _ q)⟩
theorem pa_imp {X : Cx} {e : List Expr} {t t' : TA} (h : PA X e t) (i : ∀ σ H Q, t' σ H Q → t σ H Q) : PA X e t' := ⟨fun pos pins s σ H Q I q => h.run pos pins s σ H Q I (i _ _ _ q)⟩
theorem ps_imp {X : Cx} {e : Stmt} {t t' : TS} (h : PS X e t) (i : ∀ D σ H, t' D σ H → t D σ H) : PS X e t' := ⟨fun pins s σ H D I q => h.run pins s σ H D I (i _ _ _ q)⟩
theorem pss_imp {X : Cx} {e : List Stmt} {t t' : TS} (h : PSs X e t) (i : ∀ D σ H, t' D σ H → t D σ H) : PSs X e t' := ⟨fun pins s σ H D I q => h.run pins s σ H D I (i _ _ _ q)⟩
end DL

namespace DL
open L2 PyProof.Rows PySem PySem.Spec

/-! ### 3. names, constants, operators, tests -/
/-- what simp does not look into -/
inductive Shut {α β : Sort _} (a : α) (b : β) : Type
  | mk : Shut a b
/-- either way -/
def Br (b : Bool) (A B : Prop) (_ : Shut A B) : Prop := if b = true then A else B
theorem Br_true {A B : Prop} {t : Shut A B} : Br true A B t = A := if_pos rfl
theorem Br_false {A B : Prop} {t : Shut A B} : Br false A B t = B := if_neg Bool.false_ne_true
theorem br_t {A B : Prop} {t : Shut A B} (h : Br true A B t) : A := Br_true (t := t) ▸ h
theorem br_f {A B : Prop} {t : Shut A B} (h : Br false A B t) : B := Br_false (t := t) ▸ h
theorem br_pos {p : Prop} [Decidable p] {A B : Prop} {t : Shut A B} (hp : p) (h : A) : Br (decide p) A B t := by unfold Br; rw [if_pos (decide_eq_true hp)]; exact h
theorem br_neg {p : Prop} [Decidable p] {A B : Prop} {t : Shut A B} (hp : ¬ p) (h : B) : Br (decide p) A B t := by unfold Br; rw [if_neg (by simpa using hp)]; exact h
theorem br_npos {p : Prop} [Decidable p] {A B : Prop} {t : Shut A B} (hp : p) (h : B) : Br (!decide p) A B t := by unfold Br; rw [if_neg (by simpa using hp)]; exact h
theorem br_nneg {p : Prop} [Decidable p] {A B : Prop} {t : Shut A B} (hp : ¬ p) (h : A) : Br (!decide p) A B t := by unfold Br; rw [if_pos (by simpa using hp)]; exact h
theorem br_both {b : Bool} {A B : Prop} {t : Shut A B} (h : b = true → A) (k : b = false → B) : Br b A B t := by
  cases b with
  | true => rw [Br_true]; exact h rfl
  | false => rw [Br_false]; exact k rfl
def dVar (i : Nat) : DE := fun _ δ G Q => match δ[i]? with
  | some (some d) => Q d G
  | _ => False
def dC (d : D) : DE := fun _ _ G Q => Q d G
abbrev R1D := D → DH → DQ → Prop
abbrev R2D := D → D → DH → DQ → Prop
def dUn (r : R1D) (a : DE) : DE := fun W δ G Q => a W δ G fun x G1 => r x G1 Q
def dBin (r : R2D) (a b : DE) : DE := fun W δ G Q => a W δ G fun x G1 => b W δ G1 fun y G2 => r x y G2 Q
def dTest (t : DE) : DT := fun W δ G Q => t W δ G fun d G1 => match d with
  | .bl b => Q b G1
  | _ => False
def dNot (t : DT) : DT := fun W δ G Q => t W δ G fun b G1 => Q (!b) G1
def dAnd (t u : DT) : DT := fun W δ G Q => t W δ G fun b G1 => Br b (u W δ G1 Q) (Q false G1) .mk
def dOr (t u : DT) : DT := fun W δ G Q => t W δ G fun b G1 => Br b (Q true G1) (u W δ G1 Q) .mk
def dVal (t : DT) : DE := fun W δ G Q => t W δ G fun b G1 => Q (.bl b) G1
def dAndV (a b : DE) : DE := fun W δ G Q => a W δ G fun d G1 => match d with
  | .bl k => Br k (b W δ G1 Q) (Q (.bl false) G1) .mk
  | _ => False
def dOrV (a b : DE) : DE := fun W δ G Q => a W δ G fun d G1 => match d with
  | .bl k => Br k (Q (.bl true) G1) (b W δ G1 Q) .mk
  | _ => False
def dNotV (a : DE) : DE := fun W δ G Q => a W δ G fun d G1 => match d with
  | .bl b => Q (.bl (!b)) G1
  | _ => False
def dIf (c : DT) (a b : DE) : DE := fun W δ G Q => c W δ G fun k G1 => Br k (a W δ G1 Q) (b W δ G1 Q) .mk
def dNil : DA := fun _ _ G Q => Q [] G
def dCons (a : DE) (r : DA) : DA := fun W δ G Q => a W δ G fun x G1 => r W δ G1 fun xs G2 => Q (x :: xs) G2

section
variable {X : Cx} {lv : Nat} {cm : Bool} {a b c : Expr} {ta tb tc : DE} {pos : Pos}

theorem pd_var {i : Nat} {x : Str} (hN : X.N[i]? = some x) (hv : Vis X.env.scope x) (hd : (x == ("__debug__" : Str)) = false := by decide) (hcd : (x == ("__classdict__" : Str)) = false := by decide) : PD X lv cm (.Name x pos) (dVar i) := fun _ Wx _ =>
  pe_imp (pe_var hN hv hd hcd) fun σ H Q ⟨W, δ, G, R, hs, hg, ht, lQ, lW⟩ => by
    unfold dVar at ht
    split at ht
    · rename_i d hd'
      obtain ⟨v, h1, h2⟩ := hs.2 i d hd'
      exact ⟨v, h1, lQ d G H v ht (Ext.refl _ _) hg h2⟩
    · exact ht.elim
theorem pd_const {d : D} {v : V} {e : Expr} (h : PE X e (tC v)) (hr : ∀ K mg H G, Rp K mg H G d v) : PD X lv cm e (dC d) := fun _ Wx _ =>
  pe_imp h fun σ H Q ⟨W, δ, G, R, hs, hg, ht, lQ, lW⟩ => lQ d G H v ht (Ext.refl _ _) hg (hr _ _ _ _)
theorem pd_int {i : Int} {j : Nat} : PD X lv cm (.Constant (.int i) j pos) (dC (.int i)) := pd_const pe_int fun _ _ _ _ => .int i
theorem pd_bl {i : Bool} {j : Nat} : PD X lv cm (.Constant (.bool i) j pos) (dC (.bl i)) := pd_const pe_bl fun _ _ _ _ => .bl i
theorem pd_str {i : Str} {j : Nat} : PD X lv cm (.Constant (.str i) j pos) (dC (.str i)) := pd_const pe_str fun _ _ _ _ => .str i
theorem pd_non {j : Nat} : PD X lv cm (.Constant .none j pos) (dC .non) := pd_const pe_non fun _ _ _ _ => .non
/-- a module's constant -/
theorem pd_glob {x : Str} {d : D} {v : V} {u : Value} (hm : X.mg x = some u) (r : RelV v u) (hr : ∀ K mg H G, Rp K mg H G d v) (hg : Gl X x := by rfl) (hd : (x == ("__debug__" : Str)) = false := by decide) : PD X lv cm (.Name x pos) (dC d) :=
  pd_const (pe_glob hg hm r hd) hr

/-- one step: a value, then what is done with it -/
theorem up_un {Wx : WX} {r : R1D} {rV : V → Hp → VK → Prop} {σ : L2.St} {H : Hp} {Q : VK} (h : upE X Wx (dUn r ta) σ H Q)
    (hr : ∀ (dx : D) (x : V) (H : Hp) (G : DH) (Q : VK) (R : DQ), HpOk X.K X.mg H G → Rp X.K X.mg H G dx x → r dx G R → (∀ d G' H' v, R d G' → Ext H G H' G' → HpOk X.K X.mg H' G' → Rp X.K X.mg H' G' d v → Q v H') → rV x H Q) :
    tUn rV (upE X Wx ta) σ H Q := by
  obtain ⟨W, δ, G, R, hs, hg, ht, lQ, lW⟩ := h
  exact ⟨W, δ, G, _, hs, hg, ht, fun dx G1 H1 x h1 e1 g1 r1 => hr dx x H1 G1 Q R g1 r1 h1 fun d G' H' v hd e2 g2 r2 => lQ d G' H' v hd (e1.trans e2) g2 r2, lW⟩
theorem up_bin {Wx : WX} {r : R2D} {rV : R2} {σ : L2.St} {H : Hp} {Q : VK} (h : upE X Wx (dBin r ta tb) σ H Q)
    (hr : ∀ (dx dy : D) (x y : V) (H : Hp) (G : DH) (Q : VK) (R : DQ), HpOk X.K X.mg H G → Rp X.K X.mg H G dx x → Rp X.K X.mg H G dy y → r dx dy G R → (∀ d G' H' v, R d G' → Ext H G H' G' → HpOk X.K X.mg H' G' → Rp X.K X.mg H' G' d v → Q v H') → rV x y H Q) :
    tOp rV (upE X Wx ta) (upE X Wx tb) σ H Q := by
  obtain ⟨W, δ, G, R, hs, hg, ht, lQ, lW⟩ := h
  exact ⟨W, δ, G, _, hs, hg, ht, fun dx G1 H1 x h1 e1 g1 r1 =>
    ⟨W, δ, G1, _, hs.ext e1, g1, h1, fun dy G2 H2 y h2 e2 g2 r2 => hr dx dy x y H2 G2 Q R g2 (r1.ext e2) r2 h2 fun d G' H' v hd e3 g3 r3 => lQ d G' H' v hd ((e1.trans e2).trans e3) g3 r3,
      fun ex δ' G' σ' H' cls dd hw e2 => lW ex δ' G' σ' H' cls dd hw (e1.trans e2)⟩, lW⟩
/-- an operation on data -/
def OpD (X : Cx) (lv : Nat) (cm : Bool) (f : Value → Value → Sem Value) (r : R2D) : Prop := Gd X lv cm → ∀ (pins : List (Addr × Obj)) (s : Shared) (σ : L2.St) (H : Hp) (G : DH) (dx dy : D) (x y : V) (v u : Value) (Q : VK) (R : DQ),
  Inv X pins σ H s → RelV x v → RelV y u → HpOk X.K X.mg H G → Rp X.K X.mg H G dx x → Rp X.K X.mg H G dy y → r dx dy G R →
  (∀ d G' H' v, R d G' → Ext H G H' G' → HpOk X.K X.mg H' G' → Rp X.K X.mg H' G' d v → Q v H') → wpAny (model X.prog X.w) X.A (f v u) (EP X pins σ Q) X.xe s
def UnD (X : Cx) (lv : Nat) (cm : Bool) (f : Value → Sem Value) (r : R1D) : Prop := Gd X lv cm → ∀ (pins : List (Addr × Obj)) (s : Shared) (σ : L2.St) (H : Hp) (G : DH) (dx : D) (x : V) (v : Value) (Q : VK) (R : DQ),
  Inv X pins σ H s → RelV x v → HpOk X.K X.mg H G → Rp X.K X.mg H G dx x → r dx G R →
  (∀ d G' H' v, R d G' → Ext H G H' G' → HpOk X.K X.mg H' G' → Rp X.K X.mg H' G' d v → Q v H') → wpAny (model X.prog X.w) X.A (f v) (EP X pins σ Q) X.xe s
/-- as a relation of values -/
def upR2 (X : Cx) (r : R2D) : R2 := fun x y H Q => ∃ (dx dy : D) (G : DH) (R : DQ), HpOk X.K X.mg H G ∧ Rp X.K X.mg H G dx x ∧ Rp X.K X.mg H G dy y ∧ r dx dy G R ∧
  ∀ d G' H' v, R d G' → Ext H G H' G' → HpOk X.K X.mg H' G' → Rp X.K X.mg H' G' d v → Q v H'
theorem OpD.opR {f : Value → Value → Sem Value} {r : R2D} (o : OpD X lv cm f r) (gd : Gd X lv cm) : OpR X f (upR2 X r) := fun pins s σ H x y v u Q I rx ry ⟨dx, dy, G, R, hg, r1, r2, h, l⟩ =>
  o gd pins s σ H G dx dy x y v u Q R I rx ry hg r1 r2 h l
def upR1 (X : Cx) (r : R1D) : V → Hp → VK → Prop := fun x H Q => ∃ (dx : D) (G : DH) (R : DQ), HpOk X.K X.mg H G ∧ Rp X.K X.mg H G dx x ∧ r dx G R ∧
  ∀ d G' H' v, R d G' → Ext H G H' G' → HpOk X.K X.mg H' G' → Rp X.K X.mg H' G' d v → Q v H'
theorem UnD.unR {f : Value → Sem Value} {r : R1D} (o : UnD X lv cm f r) (gd : Gd X lv cm) : UnR X f (upR1 X r) := fun pins s σ H x v Q I rx ⟨dx, G, R, hg, r1, h, l⟩ =>
  o gd pins s σ H G dx x v Q R I rx hg r1 h l
theorem up_binR {Wx : WX} {r : R2D} {σ : L2.St} {H : Hp} {Q : VK} (h : upE X Wx (dBin r ta tb) σ H Q) : tOp (upR2 X r) (upE X Wx ta) (upE X Wx tb) σ H Q :=
  up_bin h fun dx dy x y H G Q R g r1 r2 h l => ⟨dx, dy, G, R, g, r1, r2, h, l⟩
theorem up_unR {Wx : WX} {r : R1D} {σ : L2.St} {H : Hp} {Q : VK} (h : upE X Wx (dUn r ta) σ H Q) : tUn (upR1 X r) (upE X Wx ta) σ H Q :=
  up_un h fun dx x H G Q R g r1 h l => ⟨dx, G, R, g, r1, h, l⟩

theorem pd_bin {op : Operator} {r : R2D} (ho : OpD X lv cm (binaryOp op) r) (ha : PD X lv cm a ta) (hb : PD X lv cm b tb) : PD X lv cm (.BinOp a op b pos) (dBin r ta tb) := fun gd Wx tk =>
  pe_imp (pe_op (ho.opR gd) (ha gd Wx tk) (hb gd Wx tk)) fun σ H Q h => up_binR h
theorem pd_un {op : UnaryOp} {r : R1D} (ho : UnD X lv cm (unaryOp op) r) (ha : PD X lv cm a ta) : PD X lv cm (.UnaryOp op a pos) (dUn r ta) := fun gd Wx tk =>
  pe_imp (pe_un (ho.unR gd) (ha gd Wx tk)) fun σ H Q h => up_unR h
theorem pd_cmp {op : CmpOp} {r : R2D} (ho : OpD X lv cm (compareOp op) r) (ha : PD X lv cm a ta) (hb : PD X lv cm b tb) (hm : behindInMarks op b = false := by rfl) : PD X lv cm (.Compare a [op] [b] pos) (dBin r ta tb) := fun gd Wx tk =>
  pe_imp (pe_cmpR (ho.opR gd) (ha gd Wx tk) (hb gd Wx tk) hm) fun σ H Q h => up_binR h

/-! tests -/
theorem up_test {Wx : WX} {t : DE} {σ : L2.St} {H : Hp} {Q : Bool → Hp → Prop} (h : upT X Wx (dTest t) σ H Q) : upE X Wx t σ H fun x H' => ∃ k, x = .bl k ∧ Q k H' := by
  obtain ⟨W, δ, G, R, hs, hg, ht, lQ, lW⟩ := h
  refine ⟨W, δ, G, _, hs, hg, ht, fun d G1 H1 v h1 e1 g1 r1 => ?_, lW⟩
  cases r1 with
  | bl k => exact ⟨k, rfl, lQ k G1 H1 h1 e1 g1⟩
  | _ => exact h1.elim
theorem pdt_val {e : Expr} {t : DE} (h : PD X lv cm e t) (he : ∀ whole, isTrue e X.env whole = (do let v ← whole; standAt e.pos; holding [v] (truthy v)) := by intro _; rfl) : PDT X lv cm e (dTest t) := fun gd Wx tk =>
  pt_imp (pt_val (h gd Wx tk) he) fun σ H Q h => up_test h
theorem pdt_cmp {op : CmpOp} {r : R2D} (ho : OpD X lv cm (compareOp op) r) (ha : PD X lv cm a ta) (hb : PD X lv cm b tb) (hm : behindInMarks op b = false := by rfl) : PDT X lv cm (.Compare a [op] [b] pos) (dTest (dBin r ta tb)) := fun gd Wx tk =>
  pt_imp (pt_cmpR (ho.opR gd) (ha gd Wx tk) (hb gd Wx tk) hm) fun σ H Q ⟨W, δ, G, R, hs, hg, ht, lQ, lW⟩ => up_binR ⟨W, δ, G, _, hs, hg, ht, fun d G1 H1 v h1 e1 g1 r1 => by
    cases r1 with
    | bl k => exact ⟨k, rfl, lQ k G1 H1 h1 e1 g1⟩
    | _ => exact h1.elim, lW⟩
/-- a < b < c -/
def dChain (r r' : R2D) (a b c : DE) : DE := fun W δ G Q => a W δ G fun x G1 => b W δ G1 fun y G2 => r x y G2 fun z G3 => match z with
  | .bl k => Br k (c W δ G3 fun u G4 => r' y u G4 Q) (Q (.bl false) G3) .mk
  | _ => False
theorem up_chain {Wx : WX} {r r' : R2D} {σ : L2.St} {H : Hp} {Q : VK} (h : upE X Wx (dChain r r' ta tb tc) σ H Q) : tChain (upR2 X r) (upR2 X r') (upE X Wx ta) (upE X Wx tb) (upE X Wx tc) σ H Q := by
  obtain ⟨W, δ, G, R, hs, hg, ht, lQ, lW⟩ := h
  refine ⟨W, δ, G, _, hs, hg, ht, fun dx G1 H1 x h1 e1 g1 r1 =>
    ⟨W, δ, G1, _, hs.ext e1, g1, h1, fun dy G2 H2 y h2 e2 g2 r2 => ⟨dx, dy, G2, _, g2, r1.ext e2, r2, h2, fun d G3 H3 v hd e3 g3 r3 => ?_⟩,
      fun ex δ' G' σ' H' cls dd hw e2 => lW ex δ' G' σ' H' cls dd hw (e1.trans e2)⟩, lW⟩
  have e13 := (e1.trans e2).trans e3
  cases r3 with
  | bl k =>
    refine ⟨k, rfl, ?_⟩
    cases k with
    | false => rw [if_neg Bool.false_ne_true]; exact lQ _ G3 H3 _ hd e13 g3 (.bl false)
    | true =>
      rw [if_pos rfl]
      exact ⟨W, δ, G3, _, hs.ext e13, g3, hd, fun du G4 H4 u h4 e4 g4 r4 => ⟨dy, du, G4, R, g4, (r2.ext e3).ext e4, r4, h4, fun d G5 H5 v hd e5 g5 r5 => lQ d G5 H5 v hd ((e13.trans e4).trans e5) g5 r5⟩,
        fun ex δ' G' σ' H' cls dd hw e2 => lW ex δ' G' σ' H' cls dd hw (e13.trans e2)⟩
  | _ => exact hd.elim
theorem pd_chain {op op' : CmpOp} {r r' : R2D} (ho : OpD X lv cm (compareOp op) r) (ho' : OpD X lv cm (compareOp op') r') (ha : PD X lv cm a ta) (hb : PD X lv cm b tb) (hc : PD X lv cm c tc) (hm : lastMarks [op, op'] [b, c] = false := by with_unfolding_all rfl) :
    PD X lv cm (.Compare a [op, op'] [b, c] pos) (dChain r r' ta tb tc) := fun gd Wx tk => pe_imp (pe_chain (ho.opR gd) (ho'.opR gd) (ha gd Wx tk) (hb gd Wx tk) (hc gd Wx tk) hm) fun σ H Q h => up_chain h
theorem pdt_chain {op op' : CmpOp} {r r' : R2D} (ho : OpD X lv cm (compareOp op) r) (ho' : OpD X lv cm (compareOp op') r') (ha : PD X lv cm a ta) (hb : PD X lv cm b tb) (hc : PD X lv cm c tc) (hm : lastMarks [op, op'] [b, c] = false := by with_unfolding_all rfl) :
    PDT X lv cm (.Compare a [op, op'] [b, c] pos) (dTest (dChain r r' ta tb tc)) := fun gd Wx tk => pt_imp (pt_chain (ho.opR gd) (ho'.opR gd) (ha gd Wx tk) (hb gd Wx tk) (hc gd Wx tk) hm) fun σ H Q ⟨W, δ, G, R, hs, hg, ht, lQ, lW⟩ => up_chain ⟨W, δ, G, _, hs, hg, ht, fun d G1 H1 v h1 e1 g1 r1 => by
    cases r1 with
    | bl k => exact ⟨k, rfl, lQ k G1 H1 h1 e1 g1⟩
    | _ => exact h1.elim, lW⟩
theorem pdt_not {t : DT} (h : PDT X lv cm a t) : PDT X lv cm (.UnaryOp .Not a pos) (dNot t) := fun gd Wx tk => pt_imp (pt_not (h gd Wx tk)) fun σ H Q ⟨W, δ, G, R, hs, hg, ht, lQ, lW⟩ =>
  ⟨W, δ, G, _, hs, hg, ht, fun k G1 H1 h1 e1 g1 => lQ (!k) G1 H1 h1 e1 g1, lW⟩
def PDW (X : Cx) (lv : Nat) (cm : Bool) (e : Expr) (t : DT) : Prop := Gd X lv cm → ∀ Wx, Takes X Wx → PW X e (upT X Wx t)
theorem pw_imp {e : Expr} {t t' : TT} (h : PW X e t) (i : ∀ σ H Q, t' σ H Q → t σ H Q) : PW X e t' := ⟨fun wh pins s σ H Q I q => h.run wh pins s σ H Q I (i _ _ _ q)⟩
theorem PDW.pt {t : DT} (h : PDW X lv cm a t) : PDT X lv cm a t := fun gd Wx tk => (h gd Wx tk).pt
theorem pdw_and1 {t : DT} (h : PDT X lv cm a t) : PDW X lv cm (.BoolOp .And [a] pos) t := fun gd Wx tk => pw_and1 (h gd Wx tk)
theorem pdw_or1 {t : DT} (h : PDT X lv cm a t) : PDW X lv cm (.BoolOp .Or [a] pos) t := fun gd Wx tk => pw_or1 (h gd Wx tk)
theorem pdw_and {t u : DT} {rest : List Expr} (ha : PDT X lv cm a t) (hb : PDW X lv cm (.BoolOp .And (b :: rest) pos) u) : PDW X lv cm (.BoolOp .And (a :: b :: rest) pos) (dAnd t u) := fun gd Wx tk =>
  pw_imp (pw_and (ha gd Wx tk) (hb gd Wx tk)) fun σ H Q ⟨W, δ, G, R, hs, hg, ht, lQ, lW⟩ => ⟨W, δ, G, _, hs, hg, ht, fun k G1 H1 h1 e1 g1 => by
    cases k with
    | true =>
      replace h1 := br_t h1
      rw [if_pos rfl]
      exact ⟨W, δ, G1, _, hs.ext e1, g1, h1, fun k' G2 H2 h2 e2 g2 => lQ k' G2 H2 h2 (e1.trans e2) g2, fun ex δ' G' σ' H' cls dd hw e2 => lW ex δ' G' σ' H' cls dd hw (e1.trans e2)⟩
    | false =>
      replace h1 := br_f h1
      rw [if_neg Bool.false_ne_true]
      exact lQ false G1 H1 h1 e1 g1, lW⟩
theorem pdw_or {t u : DT} {rest : List Expr} (ha : PDT X lv cm a t) (hb : PDW X lv cm (.BoolOp .Or (b :: rest) pos) u) : PDW X lv cm (.BoolOp .Or (a :: b :: rest) pos) (dOr t u) := fun gd Wx tk =>
  pw_imp (pw_or (ha gd Wx tk) (hb gd Wx tk)) fun σ H Q ⟨W, δ, G, R, hs, hg, ht, lQ, lW⟩ => ⟨W, δ, G, _, hs, hg, ht, fun k G1 H1 h1 e1 g1 => by
    cases k with
    | false =>
      replace h1 := br_f h1
      rw [if_neg Bool.false_ne_true]
      exact ⟨W, δ, G1, _, hs.ext e1, g1, h1, fun k' G2 H2 h2 e2 g2 => lQ k' G2 H2 h2 (e1.trans e2) g2, fun ex δ' G' σ' H' cls dd hw e2 => lW ex δ' G' σ' H' cls dd hw (e1.trans e2)⟩
    | true =>
      replace h1 := br_t h1
      rw [if_pos rfl]
      exact lQ true G1 H1 h1 e1 g1, lW⟩
theorem pd_one {op} (h : PD X lv cm a ta) : PD X lv cm (.BoolOp op [a] pos) ta := fun gd Wx tk => pe_one (h gd Wx tk)
theorem pd_and {rest : List Expr} (ha : PD X lv cm a ta) (hb : PD X lv cm (.BoolOp .And (b :: rest) pos) tb) : PD X lv cm (.BoolOp .And (a :: b :: rest) pos) (dAndV ta tb) := fun gd Wx tk =>
  pe_imp (pe_and (ha gd Wx tk) (hb gd Wx tk)) fun σ H Q ⟨W, δ, G, R, hs, hg, ht, lQ, lW⟩ => ⟨W, δ, G, _, hs, hg, ht, fun d G1 H1 v h1 e1 g1 r1 => by
    cases r1 with
    | bl k =>
      refine ⟨k, rfl, ?_⟩
      cases k with
      | true =>
        rw [if_pos rfl]
        exact ⟨W, δ, G1, _, hs.ext e1, g1, h1, fun k' G2 H2 v2 h2 e2 g2 r2 => lQ k' G2 H2 v2 h2 (e1.trans e2) g2 r2, fun ex δ' G' σ' H' cls dd hw e2 => lW ex δ' G' σ' H' cls dd hw (e1.trans e2)⟩
      | false =>
        rw [if_neg Bool.false_ne_true]
        exact lQ _ G1 H1 _ h1 e1 g1 (.bl false)
    | _ => exact h1.elim, lW⟩
theorem pd_or {rest : List Expr} (ha : PD X lv cm a ta) (hb : PD X lv cm (.BoolOp .Or (b :: rest) pos) tb) : PD X lv cm (.BoolOp .Or (a :: b :: rest) pos) (dOrV ta tb) := fun gd Wx tk =>
  pe_imp (pe_or (ha gd Wx tk) (hb gd Wx tk)) fun σ H Q ⟨W, δ, G, R, hs, hg, ht, lQ, lW⟩ => ⟨W, δ, G, _, hs, hg, ht, fun d G1 H1 v h1 e1 g1 r1 => by
    cases r1 with
    | bl k =>
      refine ⟨k, rfl, ?_⟩
      cases k with
      | false =>
        rw [if_neg Bool.false_ne_true]
        exact ⟨W, δ, G1, _, hs.ext e1, g1, h1, fun k' G2 H2 v2 h2 e2 g2 r2 => lQ k' G2 H2 v2 h2 (e1.trans e2) g2 r2, fun ex δ' G' σ' H' cls dd hw e2 => lW ex δ' G' σ' H' cls dd hw (e1.trans e2)⟩
      | true =>
        rw [if_pos rfl]
        exact lQ _ G1 H1 _ h1 e1 g1 (.bl true)
    | _ => exact h1.elim, lW⟩
theorem pd_not (ha : PD X lv cm a ta) : PD X lv cm (.UnaryOp .Not a pos) (dNotV ta) := fun gd Wx tk =>
  pe_imp (pe_not (ha gd Wx tk)) fun σ H Q ⟨W, δ, G, R, hs, hg, ht, lQ, lW⟩ => ⟨W, δ, G, _, hs, hg, ht, fun d G1 H1 v h1 e1 g1 r1 => by
    cases r1 with
    | bl k => exact ⟨k, rfl, lQ _ G1 H1 _ h1 e1 g1 (.bl _)⟩
    | _ => exact h1.elim, lW⟩
theorem pd_ifExp {t : DT} (hc : PDT X lv cm c t) (ha : PD X lv cm a ta) (hb : PD X lv cm b tb) : PD X lv cm (.IfExp c a b pos) (dIf t ta tb) := fun gd Wx tk =>
  pe_imp (pe_ifExp (hc gd Wx tk) (ha gd Wx tk) (hb gd Wx tk)) fun σ H Q ⟨W, δ, G, R, hs, hg, ht, lQ, lW⟩ => ⟨W, δ, G, _, hs, hg, ht, fun k G1 H1 h1 e1 g1 => by
    cases k with
    | true =>
      replace h1 := br_t h1
      rw [if_pos rfl]
      exact ⟨W, δ, G1, _, hs.ext e1, g1, h1, fun k' G2 H2 v2 h2 e2 g2 r2 => lQ k' G2 H2 v2 h2 (e1.trans e2) g2 r2, fun ex δ' G' σ' H' cls dd hw e2 => lW ex δ' G' σ' H' cls dd hw (e1.trans e2)⟩
    | false =>
      replace h1 := br_f h1
      rw [if_neg Bool.false_ne_true]
      exact ⟨W, δ, G1, _, hs.ext e1, g1, h1, fun k' G2 H2 v2 h2 e2 g2 r2 => lQ k' G2 H2 v2 h2 (e1.trans e2) g2 r2, fun ex δ' G' σ' H' cls dd hw e2 => lW ex δ' G' σ' H' cls dd hw (e1.trans e2)⟩, lW⟩
/-! argument lists, displays -/
theorem pda_nil : PDA X lv cm [] dNil := fun gd Wx tk => pa_imp pa_nil fun σ H Q ⟨W, δ, G, R, hs, hg, ht, lQ, lW⟩ => lQ [] G H [] ht (Ext.refl _ _) hg .nil
theorem pda_cons {es : List Expr} {t : DA} (ha : PD X lv cm a ta) (hr : PDA X lv cm es t) (hs : starEach (a :: es) X.env = (false, eval a X.env) :: starEach es X.env := by rfl) : PDA X lv cm (a :: es) (dCons ta t) := fun gd Wx tk =>
  pa_imp (pa_cons (ha gd Wx tk) (hr gd Wx tk) hs) fun σ H Q ⟨W, δ, G, R, hs, hg, ht, lQ, lW⟩ => ⟨W, δ, G, _, hs, hg, ht, fun dx G1 H1 x h1 e1 g1 r1 =>
    ⟨W, δ, G1, _, hs.ext e1, g1, h1, fun ds G2 H2 vs h2 e2 g2 r2 => lQ (dx :: ds) G2 H2 (x :: vs) h2 (e1.trans e2) g2 (.cons (r1.ext e2) r2), fun ex δ' G' σ' H' cls dd hw e2 => lW ex δ' G' σ' H' cls dd hw (e1.trans e2)⟩, lW⟩
def dTup (t : DA) : DE := fun W δ G Q => t W δ G fun xs G1 => xs.length ≤ sizeLine ∧ Q (.tup xs) G1
/-- a list that nobody changes -/
def dLst (t : DA) : DE := fun W δ G Q => t W δ G fun xs G1 => xs.length ≤ sizeLine ∧ Q (.lst xs) G1
/-- a list that is changed later on -/
def dLstM (t : DA) : DE := fun W δ G Q => t W δ G fun xs G1 => xs.length ≤ sizeLine ∧ ∀ p, G1 p = none → Q (.ref p) (upG G1 p (.lst xs))
theorem pd_tup {es : List Expr} {t : DA} {x1} (h : PDA X lv cm es t) : PD X lv cm (.Tuple es x1 pos) (dTup t) := fun gd Wx tk =>
  pe_imp (pe_tup (h gd Wx tk)) fun σ H Q ⟨W, δ, G, R, hs, hg, ht, lQ, lW⟩ => ⟨W, δ, G, _, hs, hg, ht, fun ds G1 H1 vs ⟨hl, h1⟩ e1 g1 r1 => ⟨by rw [← r1.length]; exact hl, fun p hp =>
    lQ (.tup ds) G1 (L2.upd H1 p (.tup vs)) (.ref p) h1 (e1.trans (Ext.newF hp)) (g1.newF hp) (.tup (.inl ⟨g1.free hp, upd_same⟩) (r1.ext (Ext.newF hp)))⟩, lW⟩
theorem pd_lst {es : List Expr} {t : DA} (h : PDA X lv cm es t) : PD X lv cm (.List es pos) (dLst t) := fun gd Wx tk =>
  pe_imp (pe_lst (h gd Wx tk)) fun σ H Q ⟨W, δ, G, R, hs, hg, ht, lQ, lW⟩ => ⟨W, δ, G, _, hs, hg, ht, fun ds G1 H1 vs ⟨hl, h1⟩ e1 g1 r1 => ⟨by rw [← r1.length]; exact hl, fun p hp =>
    lQ (.lst ds) G1 (L2.upd H1 p (.lst vs)) (.ref p) h1 (e1.trans (Ext.newF hp)) (g1.newF hp) (.lst (g1.free hp) upd_same (r1.ext (Ext.newF hp)))⟩, lW⟩
theorem HpOk.new {H : Hp} {G : DH} {p : Addr} {o : DO} {u : HO} (h : HpOk X.K X.mg H G) (hp : H p = none) (new : ObOk X.K X.mg (L2.upd H p u) (upG G p o) p o) : HpOk X.K X.mg (L2.upd H p u) (upG G p o) := h.upd (Ext.new hp) new
theorem pd_lstM {es : List Expr} {t : DA} (h : PDA X lv cm es t) : PD X lv cm (.List es pos) (dLstM t) := fun gd Wx tk =>
  pe_imp (pe_lst (h gd Wx tk)) fun σ H Q ⟨W, δ, G, R, hs, hg, ht, lQ, lW⟩ => ⟨W, δ, G, _, hs, hg, ht, fun ds G1 H1 vs ⟨hl, h1⟩ e1 g1 r1 => ⟨by rw [← r1.length]; exact hl, fun p hp =>
    lQ (.ref p) _ (L2.upd H1 p (.lst vs)) (.ref p) (h1 p (g1.free hp)) (e1.trans (Ext.new hp)) (g1.new hp (.lst upd_same (r1.ext (Ext.new hp)))) (.ref p)⟩, lW⟩
end
end DL

namespace DL
open L2 PyProof.Rows PySem PySem.Spec

/-! ### 4. data: dicts, looks, equality -/
section
variable {α : Type}
def lkK (kvs : List (Key × α)) (k : Key) : Option α := match kvs with
  | [] => none
  | p :: r => if p.1 = k then some p.2 else lkK r k
def ptK (kvs : List (Key × α)) (k : Key) (v : α) : List (Key × α) := match kvs with
  | [] => [(k, v)]
  | p :: r => if p.1 = k then (p.1, v) :: r else p :: ptK r k v
def dpK (kvs : List (Key × α)) (k : Key) : List (Key × α) := kvs.filter fun kv => decide (kv.1 ≠ k)
def mgK (kvs more : List (Key × α)) : List (Key × α) := more.foldl (fun acc kv => ptK acc kv.1 kv.2) kvs
theorem ptK_length (kvs : List (Key × α)) (k : Key) (v : α) : (ptK kvs k v).length ≤ kvs.length + 1 := by
  induction kvs with
  | nil => simp [ptK]
  | cons p r ih =>
    unfold ptK
    split
    · simp
    · simpa using ih
theorem ptK_new {kvs : List (Key × α)} {k : Key} {v : α} (h : lkK kvs k = none) : ptK kvs k v = kvs ++ [(k, v)] := by
  induction kvs with
  | nil => rfl
  | cons p r ih =>
    unfold lkK at h
    unfold ptK
    split
    · rename_i e; rw [if_pos e] at h; cases h
    · rename_i e; rw [if_neg e] at h; rw [ih h]; rfl
theorem lkK_ptK (kvs : List (Key × α)) (k j : Key) (v : α) : lkK (ptK kvs k v) j = if k = j then some v else lkK kvs j := by
  induction kvs with
  | nil => simp [ptK, lkK]
  | cons p r ih =>
    unfold ptK
    by_cases e : p.1 = k
    · rw [if_pos e]
      simp only [lkK]
      by_cases e2 : k = j
      · rw [if_pos e2, if_pos (e.trans e2)]
      · rw [if_neg e2, if_neg fun z => e2 (e ▸ z), if_neg fun z => e2 (e ▸ z)]
    · rw [if_neg e]
      simp only [lkK, ih]
      by_cases e2 : p.1 = j
      · rw [if_pos e2, if_neg fun z => e (e2.trans z.symm), if_pos e2]
      · rw [if_neg e2, if_neg e2]
theorem lkK_mem {kvs : List (Key × α)} {k : Key} {v : α} (h : lkK kvs k = some v) : (k, v) ∈ kvs := by
  induction kvs with
  | nil => cases h
  | cons p r ih =>
    unfold lkK at h
    by_cases e : p.1 = k
    · rw [if_pos e] at h; cases h; rw [← e]; exact List.mem_cons_self
    · rw [if_neg e] at h; exact List.mem_cons_of_mem _ (ih h)
theorem lkK_of_mem {kvs : List (Key × α)} {k : Key} {v : α} (nd : (kvs.map (·.1)).Nodup) (h : (k, v) ∈ kvs) : lkK kvs k = some v := by
  induction kvs with
  | nil => cases h
  | cons p r ih =>
    rw [List.map_cons, List.nodup_cons] at nd
    unfold lkK
    rcases List.mem_cons.mp h with e | e
    · rw [← e, if_pos rfl]
    · rw [if_neg fun z => nd.1 (by rw [z]; exact List.mem_map_of_mem (f := (·.1)) e)]
      exact ih nd.2 e
theorem lkK_none {kvs : List (Key × α)} {k : Key} : lkK kvs k = none ↔ k ∉ kvs.map (·.1) := by
  induction kvs with
  | nil => simp [lkK]
  | cons p r ih =>
    unfold lkK
    by_cases e : p.1 = k
    · rw [if_pos e]; simp [e]
    · rw [if_neg e, ih, List.map_cons, List.mem_cons, not_or]
      exact ⟨fun h => ⟨fun z => e z.symm, h⟩, fun h => h.2⟩
theorem lkK_append {kvs more : List (Key × α)} {k : Key} : lkK (kvs ++ more) k = (lkK kvs k).or (lkK more k) := by
  induction kvs with
  | nil => rfl
  | cons p r ih =>
    show (if p.1 = k then some p.2 else lkK (r ++ more) k) = (if p.1 = k then some p.2 else lkK r k).or _
    by_cases e : p.1 = k
    · rw [if_pos e, if_pos e]; rfl
    · rw [if_neg e, if_neg e, ih]
theorem mgK_new {kvs more : List (Key × α)} (h : ((kvs ++ more).map (·.1)).Nodup) : mgK kvs more = kvs ++ more := by
  induction more generalizing kvs with
  | nil => simp [mgK]
  | cons p r ih =>
    have h1 : lkK kvs p.1 = none := lkK_none.mpr fun z => by
      rw [List.map_append, List.map_cons] at h
      exact (List.nodup_append.mp h).2.2 _ z _ List.mem_cons_self rfl
    show mgK (ptK kvs p.1 p.2) r = _
    rw [ptK_new h1, ih (by simpa using h)]
    simp
theorem ptK_keys_nodup {kvs : List (Key × α)} {k : Key} {v : α} (h : (kvs.map (·.1)).Nodup) : ((ptK kvs k v).map (·.1)).Nodup := by
  induction kvs with
  | nil => simp [ptK]
  | cons p r ih =>
    unfold ptK
    by_cases e : p.1 = k
    · rw [if_pos e]; simpa using h
    · rw [if_neg e]
      rw [List.map_cons, List.nodup_cons] at h ⊢
      refine ⟨fun z => h.1 ?_, ih h.2⟩
      obtain ⟨q, hq, eq⟩ := List.mem_map.mp z
      have : lkK (ptK r k v) p.1 ≠ none := fun w => (lkK_none.mp w) z
      rw [lkK_ptK, if_neg fun w => e w.symm] at this
      by_cases w : p.1 ∈ r.map (·.1)
      · exact w
      · exact absurd (lkK_none.mpr w) this
end
section
variable {K : PySem.W.Frag} {mg : Str → Option Value} {H H' : Hp} {G G' : DH}
theorem RpK.keys : ∀ {ds : List (Key × D)} {vs : List (Key × V)}, RpK K mg H G ds vs → ds.map (·.1) = vs.map (·.1)
  | _, _, .nil => rfl
  | _, _, .cons _ t => by rw [List.map_cons, List.map_cons, t.keys]
theorem RpK.look {k : Key} : ∀ {ds : List (Key × D)} {vs : List (Key × V)}, RpK K mg H G ds vs → (∀ d, lkK ds k = some d → ∃ v, valV vs k = some v ∧ Rp K mg H G d v) ∧ (lkK ds k = none → valV vs k = none)
  | _, _, .nil => ⟨(fun d h => by cases h), fun _ => rfl⟩
  | _, _, .cons (k := j) (d := d0) (v := v0) (ds := ds) (vs := vs) r t => by
    by_cases e : j = k
    · exact ⟨fun d h => by
        have h' : (if j = k then some d0 else lkK ds k) = some d := h
        rw [if_pos e] at h'; cases h'
        exact ⟨v0, valV_pos e, r⟩, fun h => by
        have h' : (if j = k then some d0 else lkK ds k) = none := h
        rw [if_pos e] at h'; cases h'⟩
    · obtain ⟨t1, t2⟩ := RpK.look (k := k) t
      have ev : valV ((j, v0) :: vs) k = valV vs k := valV_neg (p := (j, v0)) e
      exact ⟨fun d h => by
        have h' : (if j = k then some d0 else lkK ds k) = some d := h
        rw [if_neg e] at h'
        rw [ev]; exact t1 d h', fun h => by
        have h' : (if j = k then some d0 else lkK ds k) = none := h
        rw [if_neg e] at h'
        rw [ev]; exact t2 h'⟩
theorem RpK.append : ∀ {ds es : List (Key × D)} {vs us : List (Key × V)}, RpK K mg H G ds vs → RpK K mg H G es us → RpK K mg H G (ds ++ es) (vs ++ us)
  | _, _, _, _, .nil, s => s
  | _, _, _, _, .cons r t, s => .cons r (RpK.append t s)
theorem any_keys {κ α β : Type} [DecidableEq κ] {k : κ} : ∀ {as : List (κ × α)} {bs : List (κ × β)}, as.map (·.1) = bs.map (·.1) → (as.any fun kv => decide (kv.1 = k)) = (bs.any fun kv => decide (kv.1 = k))
  | [], [], _ => rfl
  | [], _ :: _, h => by cases h
  | _ :: _, [], h => by cases h
  | a :: as, b :: bs, h => by
    rw [List.map_cons, List.map_cons, List.cons.injEq] at h
    rw [List.any_cons, List.any_cons, h.1, any_keys h.2]
theorem RpK.mapPut {k : Key} {d : D} {v : V} (r : Rp K mg H G d v) : ∀ {ds : List (Key × D)} {vs : List (Key × V)}, RpK K mg H G ds vs →
    RpK K mg H G (ds.map fun kv => if kv.1 = k then (kv.1, d) else kv) (vs.map fun kv => if kv.1 = k then (kv.1, v) else kv)
  | _, _, .nil => .nil
  | _, _, .cons (k := j) r0 t => by
    rw [List.map_cons, List.map_cons]
    by_cases e : j = k
    · rw [if_pos e, if_pos e]; exact .cons r (t.mapPut r)
    · rw [if_neg e, if_neg e]; exact .cons r0 (t.mapPut r)
theorem map_same {α : Type} {k : Key} {v : α} : ∀ {kvs : List (Key × α)}, k ∉ kvs.map (·.1) → kvs.map (fun kv => if kv.1 = k then (kv.1, v) else kv) = kvs
  | [], _ => rfl
  | p :: r, h => by
    rw [List.map_cons, List.mem_cons, not_or] at h
    rw [List.map_cons, if_neg fun z => h.1 z.symm, map_same h.2]
theorem ptK_eq {α : Type} {kvs : List (Key × α)} (k : Key) (v : α) (nd : (kvs.map (·.1)).Nodup) :
    ptK kvs k v = if (kvs.any fun kv => decide (kv.1 = k)) = true then kvs.map (fun kv => if kv.1 = k then (kv.1, v) else kv) else kvs ++ [(k, v)] := by
  induction kvs with
  | nil => rfl
  | cons p r ih =>
    rw [List.map_cons, List.nodup_cons] at nd
    unfold ptK
    by_cases e : p.1 = k
    · rw [if_pos e, List.any_cons, decide_eq_true e, Bool.true_or, if_pos rfl, List.map_cons, if_pos e, map_same (by rw [← e]; exact nd.1)]
    · rw [if_neg e, List.any_cons, decide_eq_false e, Bool.false_or, ih nd.2, List.map_cons, if_neg e]
      split <;> rfl
end
/-- a live object as it stands now -/
def rs (G : DH) (d : D) : D := match d with
  | .ref a => match G a with
    | some (.lst xs) => .lst xs
    | some (.dct kvs) => .dct kvs
    | some (.ins c fs) => .ins c fs
    | none => .ref a
  | d => d
mutual
/-- plain data -/
def py : D → PyData
  | .bl b => .bool b
  | .int i => .int i
  | .str s => .str s
  | .tup xs => .tuple (pyL xs)
  | .lst xs => .list (pyL xs)
  | .lsk xs => .list (pyL xs)
  | .dct kvs => .dict (pyK kvs)
  | .non => .none
  | .ty _ => .none
  | .ins _ _ => .none
  | .cls _ => .none
  | .ref _ => .none
def pyL : List D → List PyData
  | [] => []
  | x :: xs => py x :: pyL xs
def pyK : List (Key × D) → List (PyData × PyData)
  | [] => []
  | (.inl i, d) :: r => (.int i, py d) :: pyK r
  | (.inr s, d) :: r => (.str s, py d) :: pyK r
end
theorem pyL_map : ∀ xs : List D, pyL xs = xs.map py
  | [] => by simp only [pyL, List.map_nil]
  | x :: xs => by simp only [pyL, List.map_cons, pyL_map xs]
mutual
/-- nested at most n deep, no dict, no object -/
def okN : Nat → D → Bool
  | _, .non => true
  | _, .bl _ => true
  | _, .int _ => true
  | _, .str s => PyData.strOk s
  | n, .tup xs => decide (1 ≤ n) && okNL (n - 1) xs
  | n, .lst xs => decide (1 ≤ n) && okNL (n - 1) xs
  | n, .lsk xs => decide (1 ≤ n) && okNL (n - 1) xs
  | _, _ => false
def okNL : Nat → List D → Bool
  | _, [] => true
  | n, x :: xs => okN n x && okNL n xs
end
theorem okNL_iff {n : Nat} : ∀ {xs : List D}, okNL n xs = true ↔ ∀ x ∈ xs, okN n x = true
  | [] => by simp [okNL]
  | x :: xs => by simp [okNL, okNL_iff (xs := xs)]
def deq (x y : D) : Bool := PyData.eqv (py x) (py y)
section
variable {K : PySem.W.Frag} {mg : Str → Option Value} {H H' : Hp} {G G' : DH}
theorem KSeq.sqL {a : Addr} {vs : List V} (h : KSeq K "list" a vs) : SqL K H a vs := let ⟨o, its, n, h1, h2, h3, h4, h5, h6⟩ := h; .inr ⟨o, its, n, h1, h2, h3, h4, h5, h6⟩
theorem KSeq.sqT {a : Addr} {vs : List V} (h : KSeq K "tuple" a vs) : SqT K H a vs := let ⟨o, its, n, h1, h2, _, h4, h5, h6⟩ := h; .inr ⟨o, its, n, h1, h2, h4, h5, h6⟩
theorem TupAt.sqT {a : Addr} {vs : List V} (h : TupAt K H G a vs) : SqT K H a vs := h.elim (fun h => .inl (.inl h.2)) KSeq.sqT
theorem LskAt.sqL {a : Addr} {vs : List V} (h : LskAt K H G a vs) : SqL K H a vs := h.elim (fun h => .inl (.inr h.2)) KSeq.sqL
mutual
theorem Rp.dp : ∀ {n : Nat} {d : D} {v : V}, okN n d = true → Rp K mg H G d v → Dp K H v (py d)
  | _, _, _, _, .non => by unfold py; exact .non
  | _, _, _, _, .bl b => by rw [py]; exact .bl b
  | _, _, _, _, .int i => by rw [py]; exact .int i
  | _, _, _, _, .str x => by rw [py]; exact .str x
  | _, .ty _, _, h, .ty _ => by simp [okN] at h
  | _, _, _, h, .tup t r => by
    rw [py]
    simp only [okN, Bool.and_eq_true] at h
    exact .tup t.sqT (RpL.dp h.2 r)
  | _, _, _, h, .lst g t r => by
    rw [py]
    simp only [okN, Bool.and_eq_true] at h
    exact .lst (.inl (.inl t)) (RpL.dp h.2 r)
  | _, _, _, h, .lsk t r => by
    rw [py]
    simp only [okN, Bool.and_eq_true] at h
    exact .lst t.sqL (RpL.dp h.2 r)
  | _, .dct _, _, h, .dct g t r => by simp [okN] at h
  | _, .ins _ _, _, h, .ins m g t n r => by simp [okN] at h
  | _, .cls _, _, h, .cls _ => by simp [okN] at h
  | _, .ref _, _, h, .ref _ => by simp [okN] at h
theorem RpL.dp : ∀ {n : Nat} {ds : List D} {vs : List V}, okNL n ds = true → RpL K mg H G ds vs → DpAll K H vs (pyL ds)
  | _, _, _, _, .nil => by rw [pyL]; exact .nil
  | _, _, _, h, .cons r t => by
    rw [pyL]
    simp only [okNL, Bool.and_eq_true] at h
    exact .cons (Rp.dp h.1 r) (RpL.dp h.2 t)
end
mutual
theorem okN_lay : ∀ {n : Nat} {d : D}, okN n d = true → (py d).canLay0 = true ∧ (py d).depth ≤ n
  | _, .non, _ => by simp [py, PyData.canLay0, PyData.depth]
  | _, .bl b, _ => by simp [py, PyData.canLay0, PyData.depth]
  | _, .int i, _ => by simp [py, PyData.canLay0, PyData.depth]
  | _, .str s, h => by
    simp only [okN] at h
    simp [py, PyData.canLay0, PyData.depth, h]
  | n, .tup xs, h => by
    simp only [okN, Bool.and_eq_true, decide_eq_true_eq] at h
    have := okNL_lay h.2
    simp only [py, PyData.canLay0, PyData.depth]
    exact ⟨this.1, by omega⟩
  | n, .lst xs, h => by
    simp only [okN, Bool.and_eq_true, decide_eq_true_eq] at h
    have := okNL_lay h.2
    simp only [py, PyData.canLay0, PyData.depth]
    exact ⟨this.1, by omega⟩
  | n, .lsk xs, h => by
    simp only [okN, Bool.and_eq_true, decide_eq_true_eq] at h
    have := okNL_lay h.2
    simp only [py, PyData.canLay0, PyData.depth]
    exact ⟨this.1, by omega⟩
  | _, .ty _, h => by simp [okN] at h
  | _, .dct _, h => by simp [okN] at h
  | _, .ins _ _, h => by simp [okN] at h
  | _, .cls _, h => by simp [okN] at h
  | _, .ref _, h => by simp [okN] at h
theorem okNL_lay : ∀ {n : Nat} {xs : List D}, okNL n xs = true → PyData.canLayAll0 (pyL xs) = true ∧ PyData.depthAll (pyL xs) ≤ n
  | _, [], _ => by simp [pyL, PyData.canLayAll0, PyData.depthAll]
  | n, x :: xs, h => by
    simp only [okNL, Bool.and_eq_true] at h
    have h1 := okN_lay h.1
    have h2 := okNL_lay h.2
    simp only [pyL, PyData.canLayAll0, PyData.depthAll, Bool.and_eq_true]
    exact ⟨⟨h1.1, h2.1⟩, by omega⟩
end
end
end DL

namespace DL
open L2 PyProof.Rows PySem PySem.Spec

/-! ### 5. operators -/
section
variable {X : Cx} {lv : Nat} {cm : Bool}
def rII (C : Int → Int → Prop) (g : Int → Int → D) : R2D := fun x y G Q => match x, y with
  | .int i, .int j => C i j ∧ Q (g i j) G
  | _, _ => False
/-- from a rule of two ints -/
theorem opd_II {f : Value → Value → Sem Value} {C C' : Int → Int → Prop} {g : Int → Int → D} {gV : Int → Int → V} (ho : OpR X f (rI C' gV)) (hc : ∀ i j, C i j → C' i j) (hr : ∀ i j K mg H G, Rp K mg H G (g i j) (gV i j)) : OpD X lv cm f (rII C g) := by
  intro gd pins s σ H G dx dy x y v u Q R I rx ry hg r1 r2 h l
  cases r1 with
  | int i => cases r2 with
    | int j => exact ho pins s σ H _ _ v u Q I rx ry ⟨i, j, rfl, rfl, hc i j h.1, l _ G H _ h.2 (Ext.refl _ _) hg (hr i j _ _ _ _)⟩
    | _ => exact h.elim
  | _ => exact h.elim
theorem opd_II0 {f : Value → Value → Sem Value} {g : Int → Int → D} {gV : Int → Int → V} (ho : OpR X f (rI0 gV)) (hr : ∀ i j K mg H G, Rp K mg H G (g i j) (gV i j)) : OpD X lv cm f (rII (fun _ _ => True) g) := by
  intro gd pins s σ H G dx dy x y v u Q R I rx ry hg r1 r2 h l
  cases r1 with
  | int i => cases r2 with
    | int j => exact ho pins s σ H _ _ v u Q I rx ry ⟨i, j, rfl, rfl, l _ G H _ h.2 (Ext.refl _ _) hg (hr i j _ _ _ _)⟩
    | _ => exact h.elim
  | _ => exact h.elim
def cmp (p : Int → Int → Bool) : R2D := fun x y G Q => match x, y with
  | .int i, .int j => Q (.bl (p i j)) G
  | _, _ => False
theorem opd_cmp {f : Value → Value → Sem Value} {p : Int → Int → Bool} (ho : OpR X f (rI0 fun i j => .bl (p i j))) : OpD X lv cm f (cmp p) := by
  intro gd pins s σ H G dx dy x y v u Q R I rx ry hg r1 r2 h l
  cases r1 with
  | int i => cases r2 with
    | int j => exact ho pins s σ H _ _ v u Q I rx ry ⟨i, j, rfl, rfl, l _ G H _ h (Ext.refl _ _) hg (.bl _)⟩
    | _ => exact h.elim
  | _ => exact h.elim
abbrev rLt : R2D := cmp fun i j => decide (i < j)
abbrev rLe : R2D := cmp fun i j => decide (i ≤ j)
abbrev rGt : R2D := cmp fun i j => decide (j < i)
abbrev rGe : R2D := cmp fun i j => decide (j ≤ i)
theorem od_lt : OpD X lv cm (compareOp .Lt) rLt := opd_cmp op_lt
theorem od_le : OpD X lv cm (compareOp .LtE) rLe := opd_cmp op_le
theorem od_gt : OpD X lv cm (compareOp .Gt) rGt := opd_cmp op_gt
theorem od_ge : OpD X lv cm (compareOp .GtE) rGe := opd_cmp op_ge
def rSub : R2D := fun x y G Q => match x, y with
  | .int i, .int j => Q (.int (i - j)) G
  | _, _ => False
theorem od_sub : OpD X lv cm (binaryOp .Sub) rSub := by
  intro gd pins s σ H G dx dy x y v u Q R I rx ry hg r1 r2 h l
  cases r1 with
  | int i => cases r2 with
    | int j => exact op_sub pins s σ H _ _ v u Q I rx ry ⟨i, j, rfl, rfl, l _ G H _ h (Ext.refl _ _) hg (.int _)⟩
    | _ => exact h.elim
  | _ => exact h.elim
/-- both small enough together -/
def MulOk (i j : Int) : Prop := i.natAbs.log2 + j.natAbs.log2 < 1000000
def rMul : R2D := fun x y G Q => match x, y with
  | .int i, .int j => MulOk i j ∧ Q (.int (i * j)) G
  | _, _ => False
theorem od_mul : OpD X lv cm (binaryOp .Mult) rMul := by
  intro gd pins s σ H G dx dy x y v u Q R I rx ry hg r1 r2 h l
  cases r1 with
  | int i => cases r2 with
    | int j => exact op_mulW pins s σ H _ _ v u Q I rx ry ⟨i, j, rfl, rfl, h.1, l _ G H _ h.2 (Ext.refl _ _) hg (.int _)⟩
    | _ => exact h.elim
  | _ => exact h.elim
/-- // by a positive number -/
def rDivP : R2D := fun x y G Q => match x, y with
  | .int i, .int j => (0 < j ∧ j.natAbs.log2 < 9000) ∧ Q (.int (i / j)) G
  | _, _ => False
theorem od_divP : OpD X lv cm (binaryOp .FloorDiv) rDivP := by
  intro gd pins s σ H G dx dy x y v u Q R I rx ry hg r1 r2 h l
  cases r1 with
  | int i => cases r2 with
    | int j => exact op_fdivW pins s σ H _ _ v u Q I rx ry ⟨i, j, rfl, rfl, h.1, l _ G H _ h.2 (Ext.refl _ _) hg (.int _)⟩
    | _ => exact h.elim
  | _ => exact h.elim
/-- // by any number but 0 -/
def rDiv : R2D := fun x y G Q => match x, y with
  | .int i, .int j => (j ≠ 0 ∧ j.natAbs.log2 < 9000) ∧ Q (.int (i.fdiv j)) G
  | _, _ => False
theorem op_fdivA : OpR X (binaryOp .FloorDiv) (rI (fun _ j => j ≠ 0 ∧ j.natAbs.log2 < 9000) fun i j => .int (i.fdiv j)) := opI fun _ _ _ _ _ _ _ hc q => floordiv_int hc.1 q (.inl (PyProof.noPylong_of_log2 hc.2))
theorem od_div : OpD X lv cm (binaryOp .FloorDiv) rDiv := by
  intro gd pins s σ H G dx dy x y v u Q R I rx ry hg r1 r2 h l
  cases r1 with
  | int i => cases r2 with
    | int j => exact op_fdivA pins s σ H _ _ v u Q I rx ry ⟨i, j, rfl, rfl, h.1, l _ G H _ h.2 (Ext.refl _ _) hg (.int _)⟩
    | _ => exact h.elim
  | _ => exact h.elim
def rModP : R2D := fun x y G Q => match x, y with
  | .int i, .int j => 0 < j ∧ Q (.int (i % j)) G
  | _, _ => False
theorem od_modP : OpD X lv cm (binaryOp .Mod) rModP := by
  intro gd pins s σ H G dx dy x y v u Q R I rx ry hg r1 r2 h l
  cases r1 with
  | int i => cases r2 with
    | int j => exact op_mod pins s σ H _ _ v u Q I rx ry ⟨i, j, rfl, rfl, h.1, l _ G H _ h.2 (Ext.refl _ _) hg (.int _)⟩
    | _ => exact h.elim
  | _ => exact h.elim
def rPow : R2D := fun x y G Q => match x, y with
  | .int i, .int j => (0 ≤ j ∧ j ≤ 1000000 ∧ i.natAbs < 2 ^ 64) ∧ Q (.int (i ^ j.toNat)) G
  | _, _ => False
theorem od_pow : OpD X lv cm (binaryOp .Pow) rPow := by
  intro gd pins s σ H G dx dy x y v u Q R I rx ry hg r1 r2 h l
  cases r1 with
  | int i => cases r2 with
    | int j => exact op_pow pins s σ H _ _ v u Q I rx ry ⟨i, j, rfl, rfl, h.1, l _ G H _ h.2 (Ext.refl _ _) hg (.int _)⟩
    | _ => exact h.elim
  | _ => exact h.elim
def rNeg : R1D := fun x G Q => match x with
  | .int i => Q (.int (-i)) G
  | _ => False
theorem od_neg : UnD X lv cm (unaryOp .USub) rNeg := by
  intro gd pins s σ H G dx x v Q R I rx hg r1 h l
  cases r1 with
  | int i => exact un_neg pins s σ H _ v Q I rx ⟨i, rfl, l _ G H _ h (Ext.refl _ _) hg (.int _)⟩
  | _ => exact h.elim
/-- the live list, as the heap has it -/
theorem rs_lst {H : Hp} {G : DH} {d : D} {v : V} {xs : List D} (hg : HpOk X.K X.mg H G) (r : Rp X.K X.mg H G d v) (h : rs G d = .lst xs) : ∃ a vs, v = .ref a ∧ H a = some (.lst vs) ∧ RpL X.K X.mg H G xs vs := by
  cases r with
  | lst g e r => cases h; exact ⟨_, _, rfl, e, r⟩
  | ref a =>
    unfold rs at h
    cases e : G a with
    | none => simp only [e] at h; cases h
    | some o =>
      simp only [e] at h
      have q := hg a o e
      cases q with
      | lst e2 r => cases h; exact ⟨a, _, rfl, e2, r⟩
      | dct _ _ => cases h
      | ins _ _ _ _ => cases h
  | _ => cases h
theorem rs_dct {H : Hp} {G : DH} {d : D} {v : V} {kvs : List (Key × D)} (hg : HpOk X.K X.mg H G) (r : Rp X.K X.mg H G d v) (h : rs G d = .dct kvs) : ∃ a vs, v = .ref a ∧ H a = some (.dK vs) ∧ RpK X.K X.mg H G kvs vs := by
  cases r with
  | dct g e r => cases h; exact ⟨_, _, rfl, e, r⟩
  | ref a =>
    unfold rs at h
    cases e : G a with
    | none => simp only [e] at h; cases h
    | some o =>
      simp only [e] at h
      have q := hg a o e
      cases q with
      | dct e2 r => cases h; exact ⟨a, _, rfl, e2, r⟩
      | lst _ _ => cases h
      | ins _ _ _ _ => cases h
  | _ => cases h
theorem rs_tup {H : Hp} {G : DH} {d : D} {v : V} {xs : List D} (r : Rp X.K X.mg H G d v) (h : rs G d = .tup xs) : ∃ a vs, v = .ref a ∧ TupAt X.K H G a vs ∧ RpL X.K X.mg H G xs vs := by
  cases r with
  | tup e r => cases h; exact ⟨_, _, rfl, e, r⟩
  | ref a =>
    unfold rs at h
    cases e : G a with
    | none => simp only [e] at h; cases h
    | some o => simp only [e] at h; cases o <;> cases h
  | _ => cases h
theorem rs_str {H : Hp} {G : DH} {d : D} {v : V} {x : Str} (r : Rp X.K X.mg H G d v) (h : rs G d = .str x) : v = .str x := by
  cases r with
  | str y => cases h; rfl
  | ref a =>
    unfold rs at h
    cases e : G a with
    | none => simp only [e] at h; cases h
    | some o => simp only [e] at h; cases o <;> cases h
  | _ => cases h
theorem rs_int {H : Hp} {G : DH} {d : D} {v : V} {x : Int} (r : Rp X.K X.mg H G d v) (h : rs G d = .int x) : v = .int x := by
  cases r with
  | int y => cases h; rfl
  | ref a =>
    unfold rs at h
    cases e : G a with
    | none => simp only [e] at h; cases h
    | some o => simp only [e] at h; cases o <;> cases h
  | _ => cases h
theorem rs_lsk {H : Hp} {G : DH} {d : D} {v : V} {xs : List D} (r : Rp X.K X.mg H G d v) (h : rs G d = .lsk xs) : ∃ a vs, v = .ref a ∧ LskAt X.K H G a vs ∧ RpL X.K X.mg H G xs vs := by
  cases r with
  | lsk e r => cases h; exact ⟨_, _, rfl, e, r⟩
  | ref a =>
    unfold rs at h
    cases e : G a with
    | none => simp only [e] at h; cases h
    | some o => simp only [e] at h; cases o <;> cases h
  | _ => cases h
/-- + -/
def rAdd : R2D := fun x y G Q => match rs G x, rs G y with
  | .int i, .int j => Q (.int (i + j)) G
  | .str s, .str t => s.length + t.length ≤ sizeLine ∧ Q (.str (s ++ t)) G
  | .lst xs, .lst ys => xs.length + ys.length ≤ sizeLine ∧ Q (.lst (xs ++ ys)) G
  | .tup xs, .tup ys => xs.length + ys.length ≤ sizeLine ∧ xs ≠ [] ∧ Q (.tup (xs ++ ys)) G
  | _, _ => False
theorem od_add : OpD X lv cm (binaryOp .Add) rAdd := by
  intro gd pins s σ H G dx dy x y v u Q R I rx ry hg r1 r2 h l
  unfold rAdd at h
  cases e1 : rs G dx with
  | int i =>
    cases e2 : rs G dy with
    | int j =>
      rw [e1, e2] at h
      cases rs_int r1 e1
      cases rs_int r2 e2
      exact op_add pins s σ H _ _ v u Q I rx ry ⟨i, j, rfl, rfl, l _ G H _ h (Ext.refl _ _) hg (.int _)⟩
    | _ => rw [e1, e2] at h; exact h.elim
  | str i =>
    cases e2 : rs G dy with
    | str j =>
      rw [e1, e2] at h
      cases rs_str r1 e1
      cases rs_str r2 e2
      exact op_add_str pins s σ H _ _ v u Q I rx ry ⟨i, j, rfl, rfl, h.1, l _ G H _ h.2 (Ext.refl _ _) hg (.str _)⟩
    | _ => rw [e1, e2] at h; exact h.elim
  | lst xs =>
    cases e2 : rs G dy with
    | lst ys =>
      rw [e1, e2] at h
      obtain ⟨a, vs, rfl, ha, ra⟩ := rs_lst hg r1 e1
      obtain ⟨b, us, rfl, hb, rb⟩ := rs_lst hg r2 e2
      exact op_cat pins s σ H _ _ v u Q I rx ry ⟨a, b, vs, us, rfl, rfl, ha, hb, by rw [← ra.length, ← rb.length]; exact h.1, fun p hp =>
        l _ G _ _ h.2 (Ext.newF hp) (hg.newF hp) (.lst (hg.free hp) upd_same ((ra.append rb).ext (Ext.newF hp)))⟩
    | _ => rw [e1, e2] at h; exact h.elim
  | tup xs =>
    cases e2 : rs G dy with
    | tup ys =>
      rw [e1, e2] at h
      obtain ⟨a, vs, rfl, ha, ra⟩ := rs_tup r1 e1
      obtain ⟨b, us, rfl, hb, rb⟩ := rs_tup r2 e2
      refine op_catT pins s σ H _ _ v u Q I rx ry ⟨a, b, vs, us, rfl, rfl, ha.sqT, hb.sqT, fun z => ?_, by rw [← ra.length, ← rb.length]; exact h.1, fun z => ?_, fun z => fun p hp => ?_⟩
      · subst z; cases ra; exact h.2.1 rfl
      · subst z; cases rb
        have q := h.2.2
        rw [List.append_nil] at q
        exact l _ G H _ q (Ext.refl _ _) hg (.tup ha ra)
      · exact l _ G _ _ h.2.2 (Ext.newF hp) (hg.newF hp) (.tup (.inl ⟨hg.free hp, upd_same⟩) ((ra.append rb).ext (Ext.newF hp)))
    | _ => rw [e1, e2] at h; exact h.elim
  | _ => rw [e1] at h; exact h.elim
/-- == and != of plain data -/
def isS (d : D) : Bool := match d with
  | .str _ => true
  | _ => false
def okQ (x y : D) : Bool := (isS x && isS y) || (okN 60 x && okN 60 y)
def rEq : R2D := fun x y G Q => okQ (rs G x) (rs G y) = true ∧ Q (.bl (deq (rs G x) (rs G y))) G
def rNe : R2D := fun x y G Q => okQ (rs G x) (rs G y) = true ∧ Q (.bl (!deq (rs G x) (rs G y))) G
theorem okQ_cases {x y : D} (h : okQ x y = true) : (∃ s t, x = .str s ∧ y = .str t) ∨ (okN 60 x = true ∧ okN 60 y = true) := by
  unfold okQ at h
  rcases Bool.or_eq_true _ _ ▸ h with h | h
  · rw [Bool.and_eq_true] at h
    cases x with
    | str s => cases y with
      | str t => exact .inl ⟨s, t, rfl, rfl⟩
      | _ => exact absurd h.2 Bool.false_ne_true
    | _ => exact absurd h.1 Bool.false_ne_true
  · rw [Bool.and_eq_true] at h
    exact .inr h
theorem deq_strV {s t : Str} : decide (V.str s = V.str t) = deq (.str s) (.str t) := by
  rw [L2.dec_str]
  simp only [deq, py, PyData.eqv]
theorem rs_dp {H : Hp} {G : DH} {d : D} {v : V} (hg : HpOk X.K X.mg H G) (r : Rp X.K X.mg H G d v) {n : Nat} (h : okN n (rs G d) = true) : Dp X.K H v (py (rs G d)) := by
  cases r with
  | ref a =>
    cases e : G a with
    | none => simp only [rs, e, okN] at h; exact absurd h Bool.false_ne_true
    | some o =>
      have q := hg a o e
      cases q with
      | lst e2 r =>
        simp only [rs, e] at h ⊢
        rw [py]
        simp only [okN, Bool.and_eq_true] at h
        exact .lst (.inl (.inl e2)) (RpL.dp h.2 r)
      | dct _ _ => simp only [rs, e, okN] at h; exact absurd h Bool.false_ne_true
      | ins _ _ _ _ => simp only [rs, e, okN] at h; exact absurd h Bool.false_ne_true
  | non => exact Rp.dp (K := X.K) (mg := X.mg) (G := G) h .non
  | bl b => exact Rp.dp (K := X.K) (mg := X.mg) (G := G) h (.bl b)
  | int i => exact Rp.dp (K := X.K) (mg := X.mg) (G := G) h (.int i)
  | str i => exact Rp.dp (K := X.K) (mg := X.mg) (G := G) h (.str i)
  | ty i => exact Rp.dp (K := X.K) (mg := X.mg) (G := G) h (.ty i)
  | tup a b => exact Rp.dp h (.tup a b)
  | lst a b c => exact Rp.dp h (.lst a b c)
  | lsk a b => exact Rp.dp h (.lsk a b)
  | dct a b c => exact Rp.dp h (.dct a b c)
  | ins a b c d e => exact Rp.dp h (.ins a b c d e)
  | cls a => exact Rp.dp h (.cls (K := X.K) (H := H) (G := G) a)
theorem shaped_py {d : D} (h : okN 60 d = true) : SeqAt.shaped (py d) = true := by
  obtain ⟨h1, h2⟩ := okN_lay h
  unfold SeqAt.shaped
  rw [h1, decide_eq_true (by omega)]; rfl
theorem Gd.un64 {X : Cx} (gd : Gd X lv cm) : X.A.units + 64 < cLine := by have := gd.un; omega
theorem od_eq : OpD X lv cm (compareOp .Eq) rEq := by
  intro gd pins s σ H G dx dy x y v u Q R I rx ry hg r1 r2 h l
  rcases okQ_cases h.1 with ⟨a, b, e1, e2⟩ | hk
  · cases rs_str r1 e1
    cases rs_str r2 e2
    refine L2.op_eq pins s σ H _ _ v u Q I rx ry ⟨rfl, l _ G H _ ?_ (Ext.refl _ _) hg (.bl _)⟩
    rw [deq_strV, ← e1, ← e2]; exact h.2
  · exact op_eqD gd.un64 pins s σ H _ _ v u Q I rx ry ⟨_, _, rs_dp hg r1 hk.1, rs_dp hg r2 hk.2, shaped_py hk.1, shaped_py hk.2, l _ G H _ h.2 (Ext.refl _ _) hg (.bl _)⟩
theorem od_ne : OpD X lv cm (compareOp .NotEq) rNe := by
  intro gd pins s σ H G dx dy x y v u Q R I rx ry hg r1 r2 h l
  rcases okQ_cases h.1 with ⟨a, b, e1, e2⟩ | hk
  · cases rs_str r1 e1
    cases rs_str r2 e2
    refine L2.op_ne pins s σ H _ _ v u Q I rx ry ⟨rfl, l _ G H _ ?_ (Ext.refl _ _) hg (.bl _)⟩
    rw [deq_strV, ← e1, ← e2]; exact h.2
  · exact op_neD gd.un64 pins s σ H _ _ v u Q I rx ry ⟨_, _, rs_dp hg r1 hk.1, rs_dp hg r2 hk.2, shaped_py hk.1, shaped_py hk.2, l _ G H _ h.2 (Ext.refl _ _) hg (.bl _)⟩
/-- == and != of texts, ints -/
def isN (d : D) : Bool := match d with
  | .non => true
  | _ => false
def rIsN : R2D := fun x y G Q => match y with
  | .non => Q (.bl (isN x)) G
  | _ => False
def rNotN : R2D := fun x y G Q => match y with
  | .non => Q (.bl (!isN x)) G
  | _ => False
theorem isN_v {H : Hp} {G : DH} {d : D} {v : V} (r : Rp X.K X.mg H G d v) : decide (v = .non) = isN d := by
  cases r with
  | non => rfl
  | _ => exact decide_eq_false (fun z => by cases z)
theorem od_isN : OpD X lv cm (compareOp .Is) rIsN := by
  intro gd pins s σ H G dx dy x y v u Q R I rx ry hg r1 r2 h l
  cases r2 with
  | non => exact op_isN pins s σ H _ _ v u Q I rx ry ⟨rfl, by rw [isN_v r1]; exact l _ G H _ h (Ext.refl _ _) hg (.bl _)⟩
  | _ => exact h.elim
theorem od_notN : OpD X lv cm (compareOp .IsNot) rNotN := by
  intro gd pins s σ H G dx dy x y v u Q R I rx ry hg r1 r2 h l
  cases r2 with
  | non => exact op_notN pins s σ H _ _ v u Q I rx ry ⟨rfl, by rw [isN_v r1]; exact l _ G H _ h (Ext.refl _ _) hg (.bl _)⟩
  | _ => exact h.elim
end
end DL

namespace DL
open L2 PyProof.Rows PySem PySem.Spec

/-! ### 6. in, places, slices, built-in functions -/
def kyD : D → Option Key
  | .int i => some (.inl i)
  | .str s => some (.inr s)
  | _ => none
def strIn (c z : Str) : Bool := !(Builtin.Str.occurrences z c 0 z.length 1).isEmpty
theorem strIn_one (c : Nat) (z : Str) : strIn ⟨#[c]⟩ z = decide (c ∈ z.cps.toList) := PySem.StrLaws.found_one z c
section
variable {X : Cx} {lv : Nat} {cm : Bool}
theorem key_v {H : Hp} {G : DH} {d : D} {v : V} {k : Key} (r : Rp X.K X.mg H G d v) (h : kyD d = some k) : v = kV k := by
  cases r with
  | int i => cases h; rfl
  | str i => cases h; rfl
  | _ => cases h
theorem Gd.un1 (gd : Gd X lv cm) : X.A.units + 1 < cLine := by have := gd.un; omega
/-- what the items answer, asked whether they are x -/
noncomputable def eqAsk (h : Heap) (x : PyData) (u : Value) : Bool := by
  classical exact if q : ∃ p as, Reads h u p as then PyData.eqv (Classical.choose q) x else false
theorem eqAsk_of {h : Heap} {x p : PyData} {u : Value} {as : List Addr} (hp : p.canLay0 = true) (r : Reads h u p as) : eqAsk h x u = PyData.eqv p x := by
  have q : ∃ p as, Reads h u p as := ⟨p, as, r⟩
  unfold eqAsk
  rw [dif_pos q]
  obtain ⟨as', r'⟩ := Classical.choose_spec q
  rw [← SeqAt.Reads.unique p _ u as as' hp r r']
theorem ask_all {pins : List (Addr × Obj)} {s : Shared} {σ : L2.St} {H : Hp} {G : DH} {A : Around} (I : Inv X pins σ H s) (hu : A.units + 64 < cLine) {dx : D} {v : Value} {as : List Addr} (hx : okN 60 dx = true) (rx : Reads s.heap v (py dx) as) :
    ∀ {xs : List D} {vs : List V} {us : List Value}, RpL X.K X.mg H G xs vs → Vals vs us → okNL 60 xs = true → (∀ u ∈ us, SeqAt.EqAt A s u v (eqAsk s.heap (py dx) u)) ∧ us.any (eqAsk s.heap (py dx)) = xs.any fun d => deq d dx
  | _, _, _, .nil, .nil, _ => ⟨(fun u h => by cases h), rfl⟩
  | _, _, _, .cons r t, .cons q ts, h => by
    simp only [okNL, Bool.and_eq_true] at h
    obtain ⟨bs, rd⟩ := Dp.reads I _ _ _ (Rp.dp h.1 r) q
    obtain ⟨i1, i2⟩ := ask_all I hu hx rx t ts h.2
    obtain ⟨l1, l2⟩ := okN_lay h.1
    obtain ⟨l3, l4⟩ := okN_lay hx
    have e := eqAsk_of (x := py dx) l1 rd
    refine ⟨fun w hw => ?_, by rw [List.any_cons, List.any_cons, e, i2]; rfl⟩
    rcases List.mem_cons.mp hw with rfl | hw
    · rw [e]; exact SeqAt.eqAt_reads _ _ _ _ _ _ _ _ rd rx l1 l3 (by omega)
    · exact i1 w hw
def inD (x : D) (ys : List D) : Bool := ys.any fun d => deq d x
def rInB (G : DH) (x y : D) (K : Bool → Prop) : Prop := match rs G y with
  | .dct kvs => match kyD x with
    | some k => K (lkK kvs k).isSome
    | none => False
  | .str z => match x with
    | .str c => K (strIn c z)
    | _ => False
  | .lst ys => (okN 60 (rs G x) = true ∧ okNL 60 ys = true) ∧ K (inD (rs G x) ys)
  | .tup ys => (okN 60 (rs G x) = true ∧ okNL 60 ys = true) ∧ K (inD (rs G x) ys)
  | _ => False
def rIn : R2D := fun x y G Q => rInB G x y fun b => Q (.bl b) G
def rNotIn : R2D := fun x y G Q => rInB G x y fun b => Q (.bl (!b)) G
theorem isSome_look {k : Key} {kvs : List (Key × D)} {vs : List (Key × V)} {H : Hp} {G : DH} (r : RpK X.K X.mg H G kvs vs) : (valV vs k).isSome = (lkK kvs k).isSome := by
  obtain ⟨h1, h2⟩ := r.look (k := k)
  cases e : lkK kvs k with
  | none => rw [h2 e]; rfl
  | some d => obtain ⟨v, hv, _⟩ := h1 d e; rw [hv]; rfl
theorem od_in : OpD X lv cm (compareOp .In) rIn := by
  intro gd pins s σ H G dx dy x y v u Q R I rx ry hg r1 r2 h l
  unfold rIn rInB at h
  have fin : ∀ b, R (.bl b) G → EP X pins σ Q (.bool b) s := fun b hb => ⟨.bl b, H, I, rfl, l _ G H _ hb (Ext.refl _ _) hg (.bl _)⟩
  cases e2 : rs G dy with
  | dct kvs =>
    simp only [e2] at h
    obtain ⟨a, vs, rfl, ha, ra⟩ := rs_dct hg r2 e2
    cases ek : kyD dx with
    | none => simp only [ek] at h
    | some k =>
      simp only [ek] at h
      cases key_v r1 ek
      obtain rfl : u = Value.ref a := ry
      refine d_in gd.un1 I (DGet.k (k := k) ha) rx fun s' I' => ⟨.bl _, H, I', rfl, ?_⟩
      rw [isSome_look ra]
      exact l _ G H _ h (Ext.refl _ _) hg (.bl _)
  | str z =>
    simp only [e2] at h
    cases rs_str r2 e2
    cases r1 with
    | str c => exact op_in_str pins s σ H _ _ v u Q I rx ry ⟨c, z, rfl, rfl, l _ G H _ h (Ext.refl _ _) hg (.bl _)⟩
    | _ => exact h.elim
  | lst ys =>
    simp only [e2] at h
    obtain ⟨a, vs, rfl, ha, ra⟩ := rs_lst hg r2 e2
    obtain rfl : u = Value.ref a := ry
    obtain ⟨its, rv, pl, hz⟩ := I.list (X := X) (.inl (.inl ha))
    obtain ⟨as, rd⟩ := Dp.reads I _ _ _ (rs_dp hg r1 h.1.1) rx
    obtain ⟨k1, k2⟩ := ask_all (A := X.A.in1) I (by have := gd.un; show X.A.units + 1 + 64 < _; omega) h.1.1 rd ra rv h.1.2
    refine SeqAt.in_listAt _ pl.isList (fun w hw => k1 w (by simpa using hw)) (fin _ ?_)
    rw [show its.toArray.any (eqAsk s.heap (py (rs G dx))) = its.any (eqAsk s.heap (py (rs G dx))) by simp, k2]
    exact h.2
  | tup ys =>
    simp only [e2] at h
    obtain ⟨a, vs, rfl, ha, ra⟩ := rs_tup r2 e2
    obtain rfl : u = Value.ref a := ry
    obtain ⟨its, rv, pl, hz⟩ := I.tuple (X := X) ha.sqT
    obtain ⟨as, rd⟩ := Dp.reads I _ _ _ (rs_dp hg r1 h.1.1) rx
    obtain ⟨k1, k2⟩ := ask_all (A := X.A.in1) I (by have := gd.un; show X.A.units + 1 + 64 < _; omega) h.1.1 rd ra rv h.1.2
    refine SeqAt.in_tupleAt _ pl (fun w hw => k1 w (by simpa using hw)) (fin _ ?_)
    rw [show its.toArray.any (eqAsk s.heap (py (rs G dx))) = its.any (eqAsk s.heap (py (rs G dx))) by simp, k2]
    exact h.2
  | _ => simp only [e2] at h
theorem od_notIn : OpD X lv cm (compareOp .NotIn) rNotIn := by
  intro gd pins s σ H G dx dy x y v u Q R I rx ry hg r1 r2 h l
  unfold rNotIn rInB at h
  have fin : ∀ b, R (.bl b) G → EP X pins σ Q (.bool b) s := fun b hb => ⟨.bl b, H, I, rfl, l _ G H _ hb (Ext.refl _ _) hg (.bl _)⟩
  cases e2 : rs G dy with
  | dct kvs =>
    simp only [e2] at h
    obtain ⟨a, vs, rfl, ha, ra⟩ := rs_dct hg r2 e2
    cases ek : kyD dx with
    | none => simp only [ek] at h
    | some k =>
      simp only [ek] at h
      cases key_v r1 ek
      obtain rfl : u = Value.ref a := ry
      refine d_notIn gd.un1 I (DGet.k (k := k) ha) rx fun s' I' => ⟨.bl _, H, I', rfl, ?_⟩
      rw [isSome_look ra]
      exact l _ G H _ h (Ext.refl _ _) hg (.bl _)
  | str z =>
    simp only [e2] at h
    cases rs_str r2 e2
    cases r1 with
    | str c => exact op_notin_str pins s σ H _ _ v u Q I rx ry ⟨c, z, rfl, rfl, l _ G H _ h (Ext.refl _ _) hg (.bl _)⟩
    | _ => exact h.elim
  | lst ys =>
    simp only [e2] at h
    obtain ⟨a, vs, rfl, ha, ra⟩ := rs_lst hg r2 e2
    obtain rfl : u = Value.ref a := ry
    obtain ⟨its, rv, pl, hz⟩ := I.list (X := X) (.inl (.inl ha))
    obtain ⟨as, rd⟩ := Dp.reads I _ _ _ (rs_dp hg r1 h.1.1) rx
    obtain ⟨k1, k2⟩ := ask_all (A := X.A.in1) I (by have := gd.un; show X.A.units + 1 + 64 < _; omega) h.1.1 rd ra rv h.1.2
    refine SeqAt.notIn_listAt _ pl.isList (fun w hw => k1 w (by simpa using hw)) (fin _ ?_)
    rw [show its.toArray.any (eqAsk s.heap (py (rs G dx))) = its.any (eqAsk s.heap (py (rs G dx))) by simp, k2]
    exact h.2
  | tup ys =>
    simp only [e2] at h
    obtain ⟨a, vs, rfl, ha, ra⟩ := rs_tup r2 e2
    obtain rfl : u = Value.ref a := ry
    obtain ⟨its, rv, pl, hz⟩ := I.tuple (X := X) ha.sqT
    obtain ⟨as, rd⟩ := Dp.reads I _ _ _ (rs_dp hg r1 h.1.1) rx
    obtain ⟨k1, k2⟩ := ask_all (A := X.A.in1) I (by have := gd.un; show X.A.units + 1 + 64 < _; omega) h.1.1 rd ra rv h.1.2
    refine SeqAt.notIn_tupleAt _ pl (fun w hw => k1 w (by simpa using hw)) (fin _ ?_)
    rw [show its.toArray.any (eqAsk s.heap (py (rs G dx))) = its.any (eqAsk s.heap (py (rs G dx))) by simp, k2]
    exact h.2
  | _ => simp only [e2] at h

/-! places -/
def atD (xs : List D) (i : Int) (K : D → Prop) : Prop := match atI xs i with
  | some d => K d
  | none => False
def rIx : R2D := fun x y G Q => match rs G x with
  | .lst xs => match y with
    | .int i => atD xs i fun d => Q d G
    | _ => False
  | .lsk xs => match y with
    | .int i => atD xs i fun d => Q d G
    | _ => False
  | .tup xs => match y with
    | .int i => atD xs i fun d => Q d G
    | _ => False
  | .str z => match y with
    | .int i => z.length ≤ sizeLine ∧ (match atI z.cps.toList i with
      | some c => Q (.str ⟨#[c]⟩) G
      | none => False)
    | _ => False
  | .dct kvs => match kyD y with
    | some k => (match lkK kvs k with
      | some d => Q d G
      | none => False)
    | none => False
  | _ => False
theorem atI_rp {H : Hp} {G : DH} {xs : List D} {vs : List V} {i : Int} {d : D} (r : RpL X.K X.mg H G xs vs) (h : atI xs i = some d) : ∃ v, atI vs i = some v ∧ Rp X.K X.mg H G d v := by
  unfold atI at h ⊢
  rw [← r.length]
  cases e : ixN xs.length i with
  | none => rw [e] at h; cases h
  | some j =>
    rw [e] at h
    exact r.get h
def IxD (X : Cx) (lv : Nat) (cm : Bool) (r : R2D) : Prop := Gd X lv cm → IxR X (upR2 X r)
theorem ixd : IxD X lv cm rIx := by
  intro gd value slice pins s σ H x y v u Q I rx ry ⟨dx, dy, G, R, hg, r1, r2, h, l⟩ hs
  unfold rIx at h
  cases e1 : rs G dx with
  | lst xs =>
    simp only [e1] at h
    obtain ⟨a, vs, rfl, ha, ra⟩ := rs_lst hg r1 e1
    cases r2 with
    | int i =>
      simp only [atD] at h
      cases ei : atI xs i with
      | none => simp only [ei] at h
      | some d =>
        simp only [ei] at h
        obtain ⟨w, hw, rw'⟩ := atI_rp ra ei
        exact ix_list value slice pins s σ H _ _ v u Q I rx ry ⟨a, vs, i, w, rfl, rfl, .inl (.inl ha), hw, l _ G H _ h (Ext.refl _ _) hg rw'⟩ hs
    | _ => exact h.elim
  | lsk xs =>
    simp only [e1] at h
    obtain ⟨a, vs, rfl, ha, ra⟩ := rs_lsk r1 e1
    cases r2 with
    | int i =>
      simp only [atD] at h
      cases ei : atI xs i with
      | none => simp only [ei] at h
      | some d =>
        simp only [ei] at h
        obtain ⟨w, hw, rw'⟩ := atI_rp ra ei
        exact ix_list value slice pins s σ H _ _ v u Q I rx ry ⟨a, vs, i, w, rfl, rfl, ha.sqL, hw, l _ G H _ h (Ext.refl _ _) hg rw'⟩ hs
    | _ => exact h.elim
  | tup xs =>
    simp only [e1] at h
    obtain ⟨a, vs, rfl, ha, ra⟩ := rs_tup r1 e1
    cases r2 with
    | int i =>
      simp only [atD] at h
      cases ei : atI xs i with
      | none => simp only [ei] at h
      | some d =>
        simp only [ei] at h
        obtain ⟨w, hw, rw'⟩ := atI_rp ra ei
        exact ix_tup value slice pins s σ H _ _ v u Q I rx ry ⟨a, vs, i, w, rfl, rfl, ha.sqT, hw, l _ G H _ h (Ext.refl _ _) hg rw'⟩ hs
    | _ => exact h.elim
  | str z =>
    simp only [e1] at h
    cases rs_str r1 e1
    cases r2 with
    | int i =>
      cases ei : atI z.cps.toList i with
      | none => simp only [ei] at h; exact h.2.elim
      | some c =>
        simp only [ei] at h
        exact ix_str value slice pins s σ H _ _ v u Q I rx ry ⟨z, i, c, rfl, rfl, h.1, ei, l _ G H _ h.2 (Ext.refl _ _) hg (.str _)⟩ hs
    | _ => exact h.elim
  | dct kvs =>
    simp only [e1] at h
    obtain ⟨a, vs, rfl, ha, ra⟩ := rs_dct hg r1 e1
    cases ek : kyD dy with
    | none => simp only [ek] at h
    | some k =>
      simp only [ek] at h
      cases el : lkK kvs k with
      | none => simp only [el] at h
      | some d =>
        simp only [el] at h
        cases key_v r2 ek
        obtain rfl : v = Value.ref a := rx
        obtain ⟨w, hw, rw'⟩ := (ra.look (k := k)).1 d el
        have g : DGet H a (kV k) (some w) := by rw [← hw]; exact DGet.k ha
        exact tail_any (dict_typeIs I g) PySem.F.slot_dict_getitem.lookup (d_getItem gd.un1 I g ry fun w' s3 I3 rw2 => ⟨w, H, I3, rw2, l _ G H _ h (Ext.refl _ _) hg rw'⟩) hs
  | _ => simp only [e1] at h
theorem pd_ix {a b : Expr} {ta tb : DE} {pos : Pos} (ha : PD X lv cm a ta) (hb : PD X lv cm b tb) (hs : PlainIx b := by intro _ _; rfl) : PD X lv cm (.Subscript a b pos) (dBin rIx ta tb) := fun gd Wx tk =>
  pe_imp (pe_ix (ixd (lv := lv) (cm := cm) gd) (ha gd Wx tk) (hb gd Wx tk) hs) fun σ H Q h => up_binR h

/-! slices -/
def dPart (t : Option DE) : DW → Sl → DH → (Option Int → DH → Prop) → Prop := fun W δ G Q => match t with
  | none => Q none G
  | some t => t W δ G fun d G1 => match d with
    | .int i => Q (some i) G1
    | _ => False
def cutD (xs : List D) (lo hi : Option Int) : List D := (xs.drop (HT.sIx xs.length 0 lo)).take (HT.sIx xs.length xs.length hi - HT.sIx xs.length 0 lo)
def rSl (x : D) (lo hi : Option Int) (G : DH) (Q : DQ) : Prop := match rs G x with
  | .lst xs => Q (.lst (cutD xs lo hi)) G
  | .lsk xs => Q (.lst (cutD xs lo hi)) G
  | .tup xs => ¬ (HT.sIx xs.length 0 lo = 0 ∧ HT.sIx xs.length xs.length hi = xs.length) ∧ Q (.tup (cutD xs lo hi)) G
  | .str z => z.length ≤ sizeLine ∧ Q (.str (cutS z lo hi)) G
  | _ => False
def dSl (te : DE) (tl th : Option DE) : DE := fun W δ G Q => te W δ G fun x G1 => dPart tl W δ G1 fun lo G2 => dPart th W δ G2 fun hi G3 => rSl x lo hi G3 Q
def upO (X : Cx) (Wx : WX) (t : DW → Sl → DH → (Option Int → DH → Prop) → Prop) : TO := fun σ H Q => ∃ (W : DW) (δ : Sl) (G : DH) (R : Option Int → DH → Prop), StOk X.K X.mg H G δ σ ∧ HpOk X.K X.mg H G ∧ t W δ G R ∧
  (∀ o G' H', R o G' → Ext H G H' G' → HpOk X.K X.mg H' G' → Q o H') ∧
  ∀ ex δ' G' σ' H' cls dd, W ex δ' G' → Ext H G H' G' → StOk X.K X.mg H' G' δ' σ' → HpOk X.K X.mg H' G' → ExOk X.K X.mg H' G' ex cls dd → Wx cls dd σ' H'
def PDO (X : Cx) (lv : Nat) (cm : Bool) (e : Option Expr) (t : Option DE) : Prop := Gd X lv cm → ∀ Wx, Takes X Wx → PO X e (upO X Wx (dPart t))
theorem po_imp {e : Option Expr} {t t' : TO} (h : PO X e t) (i : ∀ σ H Q, t' σ H Q → t σ H Q) : PO X e t' := ⟨fun pins s σ H Q I q => h.run pins s σ H Q I (i _ _ _ q)⟩
theorem pdo_none : PDO X lv cm none none := fun gd Wx tk => po_imp po_none fun σ H Q ⟨W, δ, G, R, hs, hg, ht, lQ, lW⟩ => lQ none G H ht (Ext.refl _ _) hg
theorem pdo_some {e : Expr} {t : DE} (h : PD X lv cm e t) : PDO X lv cm (some e) (some t) := fun gd Wx tk => po_imp (po_some (h gd Wx tk)) fun σ H Q ⟨W, δ, G, R, hs, hg, ht, lQ, lW⟩ =>
  ⟨W, δ, G, _, hs, hg, ht, fun d G1 H1 v h1 e1 g1 r1 => by
    cases r1 with
    | int i => exact ⟨i, rfl, lQ (some i) G1 H1 h1 e1 g1⟩
    | _ => exact h1.elim, lW⟩
def upSl (X : Cx) : V → Option Int → Option Int → Hp → VK → Prop := fun x lo hi H Q => ∃ (dx : D) (G : DH) (R : DQ), HpOk X.K X.mg H G ∧ Rp X.K X.mg H G dx x ∧ rSl dx lo hi G R ∧
  ∀ d G' H' v, R d G' → Ext H G H' G' → HpOk X.K X.mg H' G' → Rp X.K X.mg H' G' d v → Q v H'
theorem cut_rp {H : Hp} {G : DH} {xs : List D} {vs : List V} (r : RpL X.K X.mg H G xs vs) (lo hi : Option Int) : RpL X.K X.mg H G (cutD xs lo hi) (cutV vs lo hi) := by
  unfold cutD cutV
  rw [← r.length]
  exact (r.drop _).take _
theorem sld : SlR X (upSl X) := by
  intro pins s σ H x v vl vu lo hi sl Q I rx hs pl pu ⟨dx, G, R, hg, r1, h, l⟩
  unfold rSl at h
  cases e1 : rs G dx with
  | lst xs =>
    simp only [e1] at h
    obtain ⟨a, vs, rfl, ha, ra⟩ := rs_lst hg r1 e1
    exact sl_list pins s σ H _ v vl vu lo hi sl Q I rx hs pl pu ⟨a, vs, rfl, .inl (.inl ha), fun p hp => l _ G _ _ h (Ext.newF hp) (hg.newF hp) (.lst (hg.free hp) upd_same ((cut_rp ra lo hi).ext (Ext.newF hp)))⟩
  | lsk xs =>
    simp only [e1] at h
    obtain ⟨a, vs, rfl, ha, ra⟩ := rs_lsk r1 e1
    exact sl_list pins s σ H _ v vl vu lo hi sl Q I rx hs pl pu ⟨a, vs, rfl, ha.sqL, fun p hp => l _ G _ _ h (Ext.newF hp) (hg.newF hp) (.lst (hg.free hp) upd_same ((cut_rp ra lo hi).ext (Ext.newF hp)))⟩
  | tup xs =>
    simp only [e1] at h
    obtain ⟨a, vs, rfl, ha, ra⟩ := rs_tup r1 e1
    exact sl_tup pins s σ H _ v vl vu lo hi sl Q I rx hs pl pu ⟨a, vs, rfl, ha.sqT, by rw [← ra.length]; exact h.1, fun p hp => l _ G _ _ h.2 (Ext.newF hp) (hg.newF hp) (.tup (.inl ⟨hg.free hp, upd_same⟩) ((cut_rp ra lo hi).ext (Ext.newF hp)))⟩
  | str z =>
    simp only [e1] at h
    cases rs_str r1 e1
    exact sl_str pins s σ H _ v vl vu lo hi sl Q I rx hs pl pu ⟨z, rfl, h.1, l _ G H _ h.2 (Ext.refl _ _) hg (.str _)⟩
  | _ => simp only [e1] at h
theorem pd_sl {e : Expr} {lo hi : Option Expr} {te : DE} {tl th : Option DE} {p2 pos : Pos} (he : PD X lv cm e te) (hl : PDO X lv cm lo tl) (hh : PDO X lv cm hi th) : PD X lv cm (.Subscript e (.Slice lo hi none p2) pos) (dSl te tl th) := fun gd Wx tk =>
  pe_imp (pe_slice sld (he gd Wx tk) (hl gd Wx tk) (hh gd Wx tk)) fun σ H Q ⟨W, δ, G, R, hs, hg, ht, lQ, lW⟩ =>
    ⟨W, δ, G, _, hs, hg, ht, fun dx G1 H1 x h1 e1 g1 r1 => ⟨W, δ, G1, _, hs.ext e1, g1, h1, fun o G2 H2 h2 e2 g2 => ⟨W, δ, G2, _, hs.ext (e1.trans e2), g2, h2, fun o' G3 H3 h3 e3 g3 =>
      ⟨dx, G3, R, g3, r1.ext (e2.trans e3), h3, fun d G' H' v hd e4 g4 r4 => lQ d G' H' v hd (((e1.trans e2).trans e3).trans e4) g4 r4⟩,
        fun ex δ' G' σ' H' cls dd hw e3 => lW ex δ' G' σ' H' cls dd hw ((e1.trans e2).trans e3)⟩, fun ex δ' G' σ' H' cls dd hw e2 => lW ex δ' G' σ' H' cls dd hw (e1.trans e2)⟩, lW⟩
end
end DL

namespace DL
open L2 PyProof.Rows PySem PySem.Spec

/-! ### 7. calls of what Python brings -/
abbrev RLD := List D → DH → DQ → Prop
def dCB (r : RLD) (t : DA) : DE := fun W δ G Q => t W δ G fun ds G1 => r ds G1 Q
def upRL (X : Cx) (r : RLD) : List V → Hp → VK → Prop := fun vs H Q => ∃ (ds : List D) (G : DH) (R : DQ), HpOk X.K X.mg H G ∧ RpL X.K X.mg H G ds vs ∧ r ds G R ∧
  ∀ d G' H' v, R d G' → Ext H G H' G' → HpOk X.K X.mg H' G' → Rp X.K X.mg H' G' d v → Q v H'
def CallD (X : Cx) (lv : Nat) (cm : Bool) (f : Value) (r : RLD) : Prop := Gd X lv cm → CallR X f (upRL X r)
section
variable {X : Cx} {lv : Nat} {cm : Bool}
theorem up_cb {Wx : WX} {r : RLD} {t : DA} {σ : L2.St} {H : Hp} {Q : VK} (h : upE X Wx (dCB r t) σ H Q) : tCB (upRL X r) (upA X Wx t) σ H Q := by
  obtain ⟨W, δ, G, R, hs, hg, ht, lQ, lW⟩ := h
  exact ⟨W, δ, G, _, hs, hg, ht, fun ds G1 H1 vs h1 e1 g1 r1 => ⟨ds, G1, R, g1, r1, h1, fun d G' H' v hd e2 g2 r2 => lQ d G' H' v hd (e1.trans e2) g2 r2⟩, lW⟩
theorem pd_callB {x : Str} {id : String} {r : RLD} {e : Expr} {es : List Expr} {t : DA} {p pos : Pos} (hc : CallD X lv cm (.builtin id) r) (hv : bootBuiltins x = some (.builtin id)) (hm : X.mg x = none) (ha : PDA X lv cm (e :: es) t) (hg : Gl X x := by rfl)
    (hn : x ≠ "__name__" := by decide) (hdb : (x == ("__debug__" : Str)) = false := by decide)
    (he : starEach (e :: es) X.env = (false, eval e X.env) :: starEach es X.env := by rfl) (hpl : (backTo pos (starEach es X.env)).any (·.1) = false := by rfl) : PD X lv cm (.Call (.Name x p) (e :: es) [] pos) (dCB r t) := fun gd Wx tk =>
  pe_imp (pe_callB (hc gd) hg hm hv (ha gd Wx tk) hn hdb he hpl) fun σ H Q h => up_cb h
theorem pd_callTy {x : Str} {T : String} {r : RLD} {e : Expr} {es : List Expr} {t : DA} {p pos : Pos} (hc : CallD X lv cm (.type T) r) (hv : bootBuiltins x = some (.type T)) (hm : X.mg x = none) (ha : PDA X lv cm (e :: es) t) (hg : Gl X x := by rfl)
    (hn : x ≠ "__name__" := by decide) (hdb : (x == ("__debug__" : Str)) = false := by decide)
    (he : starEach (e :: es) X.env = (false, eval e X.env) :: starEach es X.env := by rfl) (hpl : (backTo pos (starEach es X.env)).any (·.1) = false := by rfl) : PD X lv cm (.Call (.Name x p) (e :: es) [] pos) (dCB r t) := fun gd Wx tk =>
  pe_imp (pe_callTy (hc gd) hg hm hv (ha gd Wx tk) hn hdb he hpl) fun σ H Q h => up_cb h
/-- a built-in class as a value -/
theorem pd_ty {x : Str} {n : String} {p : Pos} (hv : bootBuiltins x = some (.type n)) (hm : X.mg x = none) (hg : Gl X x := by rfl) (hn : x ≠ "__name__" := by decide) (hd : (x == ("__debug__" : Str)) = false := by decide) : PD X lv cm (.Name x p) (dC (.ty n)) :=
  pd_const (v := .ty n) (pe_bltn hg hm hv rfl hn hd) fun _ _ _ _ => .ty n

/-! len, abs, max, min, int, str, divmod -/
def rLen : RLD := fun ds G Q => match ds with
  | [d] => match rs G d with
    | .lst xs => Q (.int xs.length) G
    | .lsk xs => Q (.int xs.length) G
    | .tup xs => Q (.int xs.length) G
    | .str s => s.length ≤ sizeLine ∧ Q (.int s.length) G
    | .dct kvs => Q (.int kvs.length) G
    | _ => False
  | _ => False
theorem one_rp {H : Hp} {G : DH} {d : D} {vs : List V} (r : RpL X.K X.mg H G [d] vs) : ∃ v, vs = [v] ∧ Rp X.K X.mg H G d v := by
  cases r with
  | cons r t => cases t; exact ⟨_, rfl, r⟩
theorem two_rp {H : Hp} {G : DH} {d e : D} {vs : List V} (r : RpL X.K X.mg H G [d, e] vs) : ∃ v u, vs = [v, u] ∧ Rp X.K X.mg H G d v ∧ Rp X.K X.mg H G e u := by
  cases r with
  | cons r t => cases t with
    | cons r2 t => cases t; exact ⟨_, _, rfl, r, r2⟩
theorem cd_len : CallD X lv cm (.builtin "len") rLen := by
  intro gd pins s σ H vs us Q I rv ⟨ds, G, R, hg, r0, h, l⟩
  match ds, r0, h with
  | [d], r0, h =>
    obtain ⟨v, rfl, r⟩ := one_rp r0
    unfold rLen at h
    simp only at h
    cases e1 : rs G d with
    | lst xs =>
      simp only [e1] at h
      obtain ⟨a, ws, rfl, ha, ra⟩ := rs_lst hg r e1
      exact call_len_seq pins s σ H _ us Q I rv ⟨a, ws, rfl, .inl (.inl (.inl ha)), by rw [← ra.length]; exact l _ G H _ h (Ext.refl _ _) hg (.int _)⟩
    | lsk xs =>
      simp only [e1] at h
      obtain ⟨a, ws, rfl, ha, ra⟩ := rs_lsk r e1
      exact call_len_seq pins s σ H _ us Q I rv ⟨a, ws, rfl, .inl ha.sqL, by rw [← ra.length]; exact l _ G H _ h (Ext.refl _ _) hg (.int _)⟩
    | tup xs =>
      simp only [e1] at h
      obtain ⟨a, ws, rfl, ha, ra⟩ := rs_tup r e1
      exact call_len_seq pins s σ H _ us Q I rv ⟨a, ws, rfl, .inr ha.sqT, by rw [← ra.length]; exact l _ G H _ h (Ext.refl _ _) hg (.int _)⟩
    | str z =>
      simp only [e1] at h
      cases rs_str r e1
      exact call_len_str pins s σ H _ us Q I rv ⟨z, rfl, h.1, l _ G H _ h.2 (Ext.refl _ _) hg (.int _)⟩
    | dct kvs =>
      simp only [e1] at h
      obtain ⟨a, ws, rfl, ha, ra⟩ := rs_dct hg r e1
      exact call_lenD pins s σ H _ us Q I rv ⟨a, ws, rfl, ha, by rw [← ra.length]; exact l _ G H _ h (Ext.refl _ _) hg (.int _)⟩
    | _ => simp only [e1] at h
  | [], _, h => exact h.elim
  | _ :: _ :: _, _, h => exact h.elim
def rAbs : RLD := fun ds G Q => match ds with
  | [.int i] => Q (.int (if i < 0 then -i else i)) G
  | _ => False
theorem cd_abs : CallD X lv cm (.builtin "abs") rAbs := by
  intro gd pins s σ H vs us Q I rv ⟨ds, G, R, hg, r0, h, l⟩
  unfold rAbs at h
  split at h
  · rename_i i
    obtain ⟨v, rfl, r⟩ := one_rp r0
    cases r
    exact call_abs pins s σ H _ us Q I rv ⟨i, rfl, l _ G H _ h (Ext.refl _ _) hg (.int _)⟩
  · exact h.elim
def rMax2 : RLD := fun ds G Q => match ds with
  | [.int i, .int j] => Q (.int (if j > i then j else i)) G
  | _ => False
def rMin2 : RLD := fun ds G Q => match ds with
  | [.int i, .int j] => Q (.int (if j < i then j else i)) G
  | _ => False
theorem cd_max2 : CallD X lv true (.builtin "max") rMax2 := by
  intro gd pins s σ H vs us Q I rv ⟨ds, G, R, hg, r0, h, l⟩
  unfold rMax2 at h
  split at h
  · rename_i i j
    obtain ⟨v, u, rfl, r, r2⟩ := two_rp r0
    cases r; cases r2
    exact call_max2 (gd.cl rfl) pins s σ H _ us Q I rv ⟨i, j, rfl, l _ G H _ h (Ext.refl _ _) hg (.int _)⟩
  · exact h.elim
theorem cd_min2 : CallD X lv true (.builtin "min") rMin2 := by
  intro gd pins s σ H vs us Q I rv ⟨ds, G, R, hg, r0, h, l⟩
  unfold rMin2 at h
  split at h
  · rename_i i j
    obtain ⟨v, u, rfl, r, r2⟩ := two_rp r0
    cases r; cases r2
    exact call_min2 (gd.cl rfl) pins s σ H _ us Q I rv ⟨i, j, rfl, l _ G H _ h (Ext.refl _ _) hg (.int _)⟩
  · exact h.elim
def rInt1 : RLD := fun ds G Q => match ds with
  | [.int i] => Q (.int i) G
  | [.bl k] => Q (.int (if k then 1 else 0)) G
  | [.str a] => a.length ≤ 640 ∧ (match PySem.intText? a with
    | some n => Q (.int n) G
    | none => False)
  | _ => False
theorem cd_int : CallD X lv cm (.type "int") rInt1 := by
  intro gd pins s σ H vs us Q I rv ⟨ds, G, R, hg, r0, h, l⟩
  unfold rInt1 at h
  split at h
  · rename_i i
    obtain ⟨v, rfl, r⟩ := one_rp r0
    cases r
    exact call_int1 pins s σ H _ us Q I rv (.inl ⟨i, rfl, l _ G H _ h (Ext.refl _ _) hg (.int _)⟩)
  · rename_i i
    obtain ⟨v, rfl, r⟩ := one_rp r0
    cases r
    exact call_int1 pins s σ H _ us Q I rv (.inr ⟨i, rfl, l _ G H _ h (Ext.refl _ _) hg (.int _)⟩)
  · rename_i a
    obtain ⟨v, rfl, r⟩ := one_rp r0
    cases r
    obtain ⟨h1, h2⟩ := h
    cases en : PySem.intText? a with
    | none => simp only [en] at h2
    | some n =>
      simp only [en] at h2
      exact call_int_str pins s σ H _ us Q I rv ⟨a, n, rfl, en, h1, l _ G H _ h2 (Ext.refl _ _) hg (.int _)⟩
  · exact h.elim
def rStr1 : RLD := fun ds G Q => match ds with
  | [.int i] => i.natAbs.log2 < 1920 ∧ Q (.str (toString i)) G
  | [.str a] => Q (.str a) G
  | _ => False
theorem cd_str : CallD X lv cm (.type "str") rStr1 := by
  intro gd pins s σ H vs us Q I rv ⟨ds, G, R, hg, r0, h, l⟩
  unfold rStr1 at h
  split at h
  · rename_i i
    obtain ⟨v, rfl, r⟩ := one_rp r0
    cases r
    exact call_str_int pins s σ H _ us Q I rv ⟨i, rfl, h.1, l _ G H _ h.2 (Ext.refl _ _) hg (.str _)⟩
  · rename_i a
    obtain ⟨v, rfl, r⟩ := one_rp r0
    cases r
    exact SkE.call_str_str pins s σ H _ us Q I rv ⟨a, rfl, l _ G H _ h (Ext.refl _ _) hg (.str _)⟩
  · exact h.elim
def rDivmod : RLD := fun ds G Q => match ds with
  | [.int i, .int j] => (0 < j ∧ j.natAbs.log2 < 9000) ∧ Q (.tup [.int (i / j), .int (i % j)]) G
  | _ => False
theorem cd_divmod : CallD X lv cm (.builtin "divmod") rDivmod := by
  intro gd pins s σ H vs us Q I rv ⟨ds, G, R, hg, r0, h, l⟩
  unfold rDivmod at h
  split at h
  · rename_i i j
    obtain ⟨v, u, rfl, r, r2⟩ := two_rp r0
    cases r; cases r2
    exact call_divmodW pins s σ H _ us Q I rv ⟨i, j, rfl, ⟨h.1.1, PyProof.noPylong_of_log2 h.1.2⟩, fun p hp => l _ G _ _ h.2 (Ext.newF hp) (hg.newF hp) (.tup (.inl ⟨hg.free hp, upd_same⟩) (.cons (.int _) (.cons (.int _) .nil)))⟩
  · exact h.elim
/-! list(..), tuple(..), dict(..) -/
/-- what list(..) makes of it -/
def itemsD (d : D) (K : List D → Prop) : Prop := match d with
  | .lst xs => K xs
  | .lsk xs => K xs
  | .tup xs => K xs
  | _ => False
def rListF : RLD := fun ds G Q => match ds with
  | [d] => itemsD (rs G d) fun xs => Q (.lst xs) G
  | _ => False
def rListM : RLD := fun ds G Q => match ds with
  | [d] => itemsD (rs G d) fun xs => ∀ p, G p = none → Q (.ref p) (upG G p (.lst xs))
  | _ => False
theorem items_sq {H : Hp} {G : DH} {d : D} {v : V} {K : List D → Prop} (hg : HpOk X.K X.mg H G) (r : Rp X.K X.mg H G d v) (h : itemsD (rs G d) K) : ∃ a vs xs, v = .ref a ∧ (SqL X.K H a vs ∨ SqT X.K H a vs) ∧ RpL X.K X.mg H G xs vs ∧ K xs := by
  unfold itemsD at h
  split at h
  · rename_i xs e; obtain ⟨a, vs, h1, h2, h3⟩ := rs_lst hg r e; exact ⟨a, vs, xs, h1, .inl (.inl (.inl h2)), h3, h⟩
  · rename_i xs e; obtain ⟨a, vs, h1, h2, h3⟩ := rs_lsk r e; exact ⟨a, vs, xs, h1, .inl h2.sqL, h3, h⟩
  · rename_i xs e; obtain ⟨a, vs, h1, h2, h3⟩ := rs_tup r e; exact ⟨a, vs, xs, h1, .inr h2.sqT, h3, h⟩
  · exact h.elim
theorem cd_listF : CallD X lv cm (.type "list") rListF := by
  intro gd pins s σ H vs us Q I rv ⟨ds, G, R, hg, r0, h, l⟩
  match ds, r0, h with
  | [d], r0, h =>
    obtain ⟨v, rfl, r⟩ := one_rp r0
    obtain ⟨a, ws, xs, rfl, hq, ra, h⟩ := items_sq hg r h
    exact call_list_of pins s σ H _ us Q I rv ⟨a, ws, rfl, hq, fun p hp => l _ G _ _ h (Ext.newF hp) (hg.newF hp) (.lst (hg.free hp) upd_same (ra.ext (Ext.newF hp)))⟩
  | [], _, h => exact h.elim
  | _ :: _ :: _, _, h => exact h.elim
theorem cd_listM : CallD X lv cm (.type "list") rListM := by
  intro gd pins s σ H vs us Q I rv ⟨ds, G, R, hg, r0, h, l⟩
  match ds, r0, h with
  | [d], r0, h =>
    obtain ⟨v, rfl, r⟩ := one_rp r0
    obtain ⟨a, ws, xs, rfl, hq, ra, h⟩ := items_sq hg r h
    exact call_list_of pins s σ H _ us Q I rv ⟨a, ws, rfl, hq, fun p hp => l _ _ _ _ (h p (hg.free hp)) (Ext.new hp) (HpOk.new hg hp (.lst upd_same (ra.ext (Ext.new hp)))) (.ref p)⟩
  | [], _, h => exact h.elim
  | _ :: _ :: _, _, h => exact h.elim
def rTuple : RLD := fun ds G Q => match ds with
  | [d] => itemsD (rs G d) fun xs => Q (.tup xs) G
  | _ => False
theorem cd_tuple : CallD X lv cm (.type "tuple") rTuple := by
  intro gd pins s σ H vs us Q I rv ⟨ds, G, R, hg, r0, h, l⟩
  match ds, r0, h with
  | [d], r0, h =>
    obtain ⟨v, rfl, r⟩ := one_rp r0
    unfold rTuple at h
    simp only at h
    unfold itemsD at h
    split at h
    · rename_i xs e
      obtain ⟨a, ws, rfl, ha, ra⟩ := rs_lst hg r e
      exact call_tuple_of pins s σ H _ us Q I rv ⟨a, ws, rfl, .inl ⟨.inl (.inl ha), fun p hp => l _ G _ _ h (Ext.newF hp) (hg.newF hp) (.tup (.inl ⟨hg.free hp, upd_same⟩) (ra.ext (Ext.newF hp)))⟩⟩
    · rename_i xs e
      obtain ⟨a, ws, rfl, ha, ra⟩ := rs_lsk r e
      exact call_tuple_of pins s σ H _ us Q I rv ⟨a, ws, rfl, .inl ⟨ha.sqL, fun p hp => l _ G _ _ h (Ext.newF hp) (hg.newF hp) (.tup (.inl ⟨hg.free hp, upd_same⟩) (ra.ext (Ext.newF hp)))⟩⟩
    · rename_i xs e
      obtain ⟨a, ws, rfl, ha, ra⟩ := rs_tup r e
      exact call_tuple_of pins s σ H _ us Q I rv ⟨a, ws, rfl, .inr ⟨ha.sqT, l _ G H _ h (Ext.refl _ _) hg (.tup ha ra)⟩⟩
    · exact h.elim
  | [], _, h => exact h.elim
  | _ :: _ :: _, _, h => exact h.elim
/-! all, any, sum, max, min of lists -/
theorem ints_v {H : Hp} {G : DH} : ∀ {ns : List Int} {vs : List V}, RpL X.K X.mg H G (ns.map D.int) vs → vs = ns.map V.int
  | [], _, .nil => rfl
  | n :: ns, _, .cons r t => by cases r; rw [List.map_cons, ints_v t]
theorem bls_v {H : Hp} {G : DH} : ∀ {ns : List Bool} {vs : List V}, RpL X.K X.mg H G (ns.map D.bl) vs → vs = ns.map V.bl
  | [], _, .nil => rfl
  | n :: ns, _, .cons r t => by cases r; rw [List.map_cons, bls_v t]
theorem strs_v {H : Hp} {G : DH} : ∀ {ns : List Str} {vs : List V}, RpL X.K X.mg H G (ns.map D.str) vs → vs = ns.map V.str
  | [], _, .nil => rfl
  | n :: ns, _, .cons r t => by cases r; rw [List.map_cons, strs_v t]
def lstD (d : D) (K : List D → Prop) : Prop := match d with
  | .lst xs => K xs
  | .lsk xs => K xs
  | _ => False
theorem lst_sq {H : Hp} {G : DH} {d : D} {v : V} {K : List D → Prop} (hg : HpOk X.K X.mg H G) (r : Rp X.K X.mg H G d v) (h : lstD (rs G d) K) : ∃ a vs xs, v = .ref a ∧ SqL X.K H a vs ∧ RpL X.K X.mg H G xs vs ∧ K xs := by
  unfold lstD at h
  split at h
  · rename_i xs e; obtain ⟨a, vs, h1, h2, h3⟩ := rs_lst hg r e; exact ⟨a, vs, xs, h1, .inl (.inl h2), h3, h⟩
  · rename_i xs e; obtain ⟨a, vs, h1, h2, h3⟩ := rs_lsk r e; exact ⟨a, vs, xs, h1, h2.sqL, h3, h⟩
  · exact h.elim
def rAll : RLD := fun ds G Q => match ds with
  | [d] => lstD (rs G d) fun xs => ∃ bs : List Bool, xs = bs.map D.bl ∧ Q (.bl (bs.all id)) G
  | _ => False
def rAny : RLD := fun ds G Q => match ds with
  | [d] => lstD (rs G d) fun xs => ∃ bs : List Bool, xs = bs.map D.bl ∧ Q (.bl (bs.any id)) G
  | _ => False
def rSum : RLD := fun ds G Q => match ds with
  | [d] => lstD (rs G d) fun xs => ∃ ns : List Int, xs = ns.map D.int ∧ Q (.int ns.sum) G
  | _ => False
def rMaxL : RLD := fun ds G Q => match ds with
  | [d] => lstD (rs G d) fun xs => ∃ ns : List Int, xs = ns.map D.int ∧ 0 < ns.length ∧ ∀ m, m ∈ ns → (∀ y ∈ ns, y ≤ m) → Q (.int m) G
  | _ => False
def rMinL : RLD := fun ds G Q => match ds with
  | [d] => lstD (rs G d) fun xs => ∃ ns : List Int, xs = ns.map D.int ∧ 0 < ns.length ∧ ∀ m, m ∈ ns → (∀ y ∈ ns, m ≤ y) → Q (.int m) G
  | _ => False
theorem cd_all : CallD X lv true (.builtin "all") rAll := by
  intro gd pins s σ H vs us Q I rv ⟨ds, G, R, hg, r0, h, l⟩
  match ds, r0, h with
  | [d], r0, h =>
    obtain ⟨v, rfl, r⟩ := one_rp r0
    obtain ⟨a, ws, xs, rfl, hq, ra, bs, rfl, h⟩ := lst_sq hg r h
    cases bls_v ra
    exact cr_all (gd.cl rfl) pins s σ H _ us Q I rv ⟨a, bs, rfl, hq, l _ G H _ h (Ext.refl _ _) hg (.bl _)⟩
  | [], _, h => exact h.elim
  | _ :: _ :: _, _, h => exact h.elim
theorem cd_any : CallD X lv true (.builtin "any") rAny := by
  intro gd pins s σ H vs us Q I rv ⟨ds, G, R, hg, r0, h, l⟩
  match ds, r0, h with
  | [d], r0, h =>
    obtain ⟨v, rfl, r⟩ := one_rp r0
    obtain ⟨a, ws, xs, rfl, hq, ra, bs, rfl, h⟩ := lst_sq hg r h
    cases bls_v ra
    exact cr_any (gd.cl rfl) pins s σ H _ us Q I rv ⟨a, bs, rfl, hq, l _ G H _ h (Ext.refl _ _) hg (.bl _)⟩
  | [], _, h => exact h.elim
  | _ :: _ :: _, _, h => exact h.elim
theorem cd_sum : CallD X lv true (.builtin "sum") rSum := by
  intro gd pins s σ H vs us Q I rv ⟨ds, G, R, hg, r0, h, l⟩
  match ds, r0, h with
  | [d], r0, h =>
    obtain ⟨v, rfl, r⟩ := one_rp r0
    obtain ⟨a, ws, xs, rfl, hq, ra, bs, rfl, h⟩ := lst_sq hg r h
    cases ints_v ra
    exact cr_sum (gd.cl rfl) pins s σ H _ us Q I rv ⟨a, bs, rfl, hq, l _ G H _ h (Ext.refl _ _) hg (.int _)⟩
  | [], _, h => exact h.elim
  | _ :: _ :: _, _, h => exact h.elim
theorem cd_maxL : CallD X lv true (.builtin "max") rMaxL := by
  intro gd pins s σ H vs us Q I rv ⟨ds, G, R, hg, r0, h, l⟩
  match ds, r0, h with
  | [d], r0, h =>
    obtain ⟨v, rfl, r⟩ := one_rp r0
    obtain ⟨a, ws, xs, rfl, hq, ra, bs, rfl, hl, h⟩ := lst_sq hg r h
    cases ints_v ra
    exact cr_max (gd.cl rfl) pins s σ H _ us Q I rv ⟨a, bs, rfl, hq, hl, fun m h1 h2 => l _ G H _ (h m h1 h2) (Ext.refl _ _) hg (.int _)⟩
  | [], _, h => exact h.elim
  | _ :: _ :: _, _, h => exact h.elim
theorem cd_minL : CallD X lv true (.builtin "min") rMinL := by
  intro gd pins s σ H vs us Q I rv ⟨ds, G, R, hg, r0, h, l⟩
  match ds, r0, h with
  | [d], r0, h =>
    obtain ⟨v, rfl, r⟩ := one_rp r0
    obtain ⟨a, ws, xs, rfl, hq, ra, bs, rfl, hl, h⟩ := lst_sq hg r h
    cases ints_v ra
    exact cr_min (gd.cl rfl) pins s σ H _ us Q I rv ⟨a, bs, rfl, hq, hl, fun m h1 h2 => l _ G H _ (h m h1 h2) (Ext.refl _ _) hg (.int _)⟩
  | [], _, h => exact h.elim
  | _ :: _ :: _, _, h => exact h.elim
/-! isinstance with a built-in class -/
def tyD : D → Option String
  | .non => some "NoneType"
  | .bl _ => some "bool"
  | .int _ => some "int"
  | .str _ => some "str"
  | .tup _ => some "tuple"
  | .lst _ => some "list"
  | .lsk _ => some "list"
  | .dct _ => some "dict"
  | _ => none
def isT (a b : String) : Bool := a == b || (a == "bool" && b == "int")
def tysA : List String := ["NoneType", "bool", "int", "str", "tuple", "list", "dict"]
def tysB : List String := ["bool", "int", "str", "tuple", "list", "dict"]
theorem kitB_ok : ∀ a ∈ tysA, ∀ b ∈ tysB, kitB a b = some (isT a b) := by decide +kernel
theorem tyX_of {H : Hp} {G : DH} {d : D} {v : V} {a : String} (hg : HpOk X.K X.mg H G) (r : Rp X.K X.mg H G d v) (h : tyD (rs G d) = some a) : TyX X.K H v (.type a) ∧ a ∈ tysA := by
  cases e : rs G d with
  | lst xs => rw [e] at h; cases h; obtain ⟨p, vs, rfl, h2, _⟩ := rs_lst hg r e; exact ⟨.base (.lst h2), by decide⟩
  | dct xs => rw [e] at h; cases h; obtain ⟨p, vs, rfl, h2, _⟩ := rs_dct hg r e; exact ⟨.base (.dK h2), by decide⟩
  | tup xs =>
    rw [e] at h; cases h; obtain ⟨p, vs, rfl, h2, _⟩ := rs_tup r e
    refine ⟨?_, by decide⟩
    rcases h2 with ⟨_, h2⟩ | ⟨o, its, n, h3, h4, _⟩
    · exact .base (.tup h2)
    · exact .kTuple h3 h4
  | lsk xs =>
    rw [e] at h; cases h; obtain ⟨p, vs, rfl, h2, _⟩ := rs_lsk r e
    refine ⟨?_, by decide⟩
    rcases h2 with ⟨_, o, h2⟩ | ⟨o, its, n, h3, h4, _⟩
    · exact .base (.frz h2)
    · exact .kList h3 h4
  | str x => rw [e] at h; cases h; cases rs_str r e; exact ⟨.base (.str x), by decide⟩
  | int x => rw [e] at h; cases h; cases rs_int r e; exact ⟨.base (.int x), by decide⟩
  | non =>
    rw [e] at h; cases h
    cases r with
    | non => exact ⟨.base .non, by decide⟩
    | ref b =>
      unfold rs at e
      cases eb : G b with
      | none => simp only [eb] at e; cases e
      | some o => simp only [eb] at e; cases o <;> cases e
    | _ => cases e
  | bl k =>
    rw [e] at h; cases h
    cases r with
    | bl k => exact ⟨.base (.bl k), by decide⟩
    | ref b =>
      unfold rs at e
      cases eb : G b with
      | none => simp only [eb] at e; cases e
      | some o => simp only [eb] at e; cases o <;> cases e
    | _ => cases e
  | _ => rw [e] at h; cases h
def rIsi : RLD := fun ds G Q => match ds with
  | [d, .ty T] => match tyD (rs G d) with
    | some a => (tysB.contains T = true) ∧ Q (.bl (isT a T)) G
    | none => False
  | _ => False
theorem cd_isi : CallD X lv cm (.builtin "isinstance") rIsi := by
  intro gd pins s σ H vs us Q I rv ⟨ds, G, R, hg, r0, h, l⟩
  unfold rIsi at h
  split at h
  · rename_i d T
    obtain ⟨v, u, rfl, r, r2⟩ := two_rp r0
    cases r2
    cases e : tyD (rs G d) with
    | none => simp only [e] at h
    | some a =>
      simp only [e] at h
      obtain ⟨t1, t2⟩ := tyX_of hg r e
      exact call_isi pins s σ H _ us Q I rv ⟨v, .ty T, _, _, _, rfl, .ty T, t1, kit_ty (kitB_ok a t2 T (by simpa using h.1)), l _ G H _ h.2 (Ext.refl _ _) hg (.bl _)⟩
  · exact h.elim
end
end DL

namespace DL
open L2 PyProof.Rows PySem PySem.Spec

/-! ### 8. statements -/
def dNext : DS := fun D δ G => D.nx δ G
def thn' (D : DEnds) (u : DS) : DEnds := { D with nx := u D }
def trn' (D : DEnds) (N : Sl → DH → Prop) : DEnds := { D with nx := N, ct := N, bk := D.nx }
theorem thn_nx {D : DEnds} {u : DS} : (thn' D u).nx = u D := rfl
theorem thn_rt {D : DEnds} {u : DS} : (thn' D u).rt = D.rt := rfl
theorem thn_ex {D : DEnds} {u : DS} : (thn' D u).ex = D.ex := rfl
theorem thn_bk {D : DEnds} {u : DS} : (thn' D u).bk = D.bk := rfl
theorem thn_ct {D : DEnds} {u : DS} : (thn' D u).ct = D.ct := rfl
theorem trn_nx {D : DEnds} {N : Sl → DH → Prop} : (trn' D N).nx = N := rfl
theorem trn_rt {D : DEnds} {N : Sl → DH → Prop} : (trn' D N).rt = D.rt := rfl
theorem trn_ex {D : DEnds} {N : Sl → DH → Prop} : (trn' D N).ex = D.ex := rfl
theorem trn_bk {D : DEnds} {N : Sl → DH → Prop} : (trn' D N).bk = D.nx := rfl
theorem trn_ct {D : DEnds} {N : Sl → DH → Prop} : (trn' D N).ct = N := rfl
def dSeq (t u : DS) : DS := fun D δ G => t (thn' D u) δ G
def dPass : DS := dNext
def dBrk : DS := fun D δ G => D.bk δ G
def dCnt : DS := fun D δ G => D.ct δ G
def dDrop (t : DE) : DS := fun D δ G => t D.ex δ G fun _ G1 => D.nx δ G1
def dRet (t : DE) : DS := fun D δ G => t D.ex δ G D.rt
def dRetN : DS := fun D _ G => D.rt .non G
def dIfS (c : DT) (t u : DS) : DS := fun D δ G => c D.ex δ G fun b G1 => Br b (t D δ G1) (u D δ G1) .mk
/-- a target: the value, then what follows -/
abbrev DG := D → DW → Sl → DH → (Sl → DH → Prop) → Prop
abbrev DGs := List D → DW → Sl → DH → (Sl → DH → Prop) → Prop
def gdName (i : Nat) : DG := fun d _ δ G Q => Q (δ.set i (some d)) G
def gdNil : DGs := fun ds _ δ G Q => ds = [] ∧ Q δ G
def gdCons (t : DG) (u : DGs) : DGs := fun ds W δ G Q => match ds with
  | d :: r => t d W δ G fun δ' G' => u r W δ' G' Q
  | [] => False
def gdTup (n : Nat) (t : DGs) : DG := fun d W δ G Q => match rs G d with
  | .tup xs => xs.length = n ∧ t xs W δ G Q
  | _ => False
def dAsg (t : DE) (g : DG) : DS := fun D δ G => t D.ex δ G fun x G1 => g x D.ex δ G1 D.nx
def dPar (i j : Nat) (t : DA) : DS := fun D δ G => t D.ex δ G fun ds G1 => match ds with
  | [a, b] => D.nx ((δ.set i (some a)).set j (some b)) G1
  | _ => False
section
variable {X : Cx} {lv : Nat} {cm : Bool} {st : Stmt} {rest : List Stmt} {t u : DS} {e : Expr} {te : DE} {pos : Pos}
theorem pdss_nil : PDSs X lv cm [] dNext := fun gd Wx tk => pss_imp pss_nil fun D σ H ⟨DD, δ, G, hs, hg, ht, l1, l2, l3, l4, l5⟩ => l1 δ G σ H ht (Ext.refl _ _) hs hg
theorem pdss_cons (h1 : PDS X lv cm st t) (h2 : PDSs X lv cm rest u) : PDSs X lv cm (st :: rest) (dSeq t u) := fun gd Wx tk =>
  pss_imp (pss_cons (h1 gd Wx tk) (h2 gd Wx tk)) fun D σ H ⟨DD, δ, G, hs, hg, ht, l1, l2, l3, l4, l5⟩ => ⟨{ DD with nx := u DD }, δ, G, hs, hg, ht,
    fun δ' G' σ' H' h e s g => ⟨DD, δ', G', s, g, h, fun δ2 G2 σ2 H2 h2 e2 => l1 δ2 G2 σ2 H2 h2 (e.trans e2), fun d G2 H2 v h2 e2 => l2 d G2 H2 v h2 (e.trans e2), fun δ2 G2 σ2 H2 h2 e2 => l3 δ2 G2 σ2 H2 h2 (e.trans e2),
      fun δ2 G2 σ2 H2 h2 e2 => l4 δ2 G2 σ2 H2 h2 (e.trans e2), fun ex δ2 G2 σ2 H2 cls dd h2 e2 => l5 ex δ2 G2 σ2 H2 cls dd h2 (e.trans e2)⟩, l2, l3, l4, l5⟩
theorem pdss_one (h1 : PDS X lv cm st t) : PDSs X lv cm [st] t := fun gd Wx tk => pss_one (h1 gd Wx tk)
theorem pds_pass : PDS X lv cm (.Pass pos) dPass := fun gd Wx tk => ps_imp ps_pass fun D σ H ⟨DD, δ, G, hs, hg, ht, l1, l2, l3, l4, l5⟩ => l1 δ G σ H ht (Ext.refl _ _) hs hg
theorem pds_break : PDS X lv cm (.Break pos) dBrk := fun gd Wx tk => ps_imp ps_break fun D σ H ⟨DD, δ, G, hs, hg, ht, l1, l2, l3, l4, l5⟩ => l3 δ G σ H ht (Ext.refl _ _) hs hg
theorem pds_cont : PDS X lv cm (.Continue pos) dCnt := fun gd Wx tk => ps_imp ps_continue fun D σ H ⟨DD, δ, G, hs, hg, ht, l1, l2, l3, l4, l5⟩ => l4 δ G σ H ht (Ext.refl _ _) hs hg
theorem pds_expr (he : PD X lv cm e te) (hs : swapsWith e none pos.line X.env = pure false := by rfl) : PDS X lv cm (.Expr e pos) (dDrop te) := fun gd Wx tk =>
  ps_imp (ps_expr (he gd Wx tk) hs) fun D σ H ⟨DD, δ, G, hs, hg, ht, l1, l2, l3, l4, l5⟩ => ⟨DD.ex, δ, G, _, hs, hg, ht, fun d G1 H1 v h1 e1 g1 _ => l1 δ G1 σ H1 h1 e1 (hs.ext e1) g1, l5⟩
theorem pds_ret (he : PD X lv cm e te) : PDS X lv cm (.Return (some e) pos) (dRet te) := fun gd Wx tk =>
  ps_imp (ps_ret (he gd Wx tk)) fun D σ H ⟨DD, δ, G, hs, hg, ht, l1, l2, l3, l4, l5⟩ => ⟨DD.ex, δ, G, _, hs, hg, ht, fun d G1 H1 v h1 e1 g1 r1 => l2 d G1 H1 v h1 e1 g1 r1, l5⟩
theorem pds_retN : PDS X lv cm (.Return none pos) dRetN := fun gd Wx tk => ps_imp ps_retN fun D σ H ⟨DD, δ, G, hs, hg, ht, l1, l2, l3, l4, l5⟩ => l2 .non G H .non ht (Ext.refl _ _) hg .non
theorem pds_if {c : Expr} {a b : List Stmt} {tc : DT} (hc : PDT X lv cm c tc) (ha : PDSs X lv cm a t) (hb : PDSs X lv cm b u) : PDS X lv cm (.If c a b pos) (dIfS tc t u) := fun gd Wx tk =>
  ps_imp (ps_if (hc gd Wx tk) (ha gd Wx tk) (hb gd Wx tk)) fun D σ H ⟨DD, δ, G, hs, hg, ht, l1, l2, l3, l4, l5⟩ => ⟨DD.ex, δ, G, _, hs, hg, ht, fun k G1 H1 h1 e g1 => by
    cases k with
    | true =>
      replace h1 := br_t h1
      rw [if_pos rfl]
      exact ⟨DD, δ, G1, hs.ext e, g1, h1, fun δ2 G2 σ2 H2 h2 e2 => l1 δ2 G2 σ2 H2 h2 (e.trans e2), fun d G2 H2 v h2 e2 => l2 d G2 H2 v h2 (e.trans e2), fun δ2 G2 σ2 H2 h2 e2 => l3 δ2 G2 σ2 H2 h2 (e.trans e2),
        fun δ2 G2 σ2 H2 h2 e2 => l4 δ2 G2 σ2 H2 h2 (e.trans e2), fun ex δ2 G2 σ2 H2 cls dd h2 e2 => l5 ex δ2 G2 σ2 H2 cls dd h2 (e.trans e2)⟩
    | false =>
      replace h1 := br_f h1
      rw [if_neg Bool.false_ne_true]
      exact ⟨DD, δ, G1, hs.ext e, g1, h1, fun δ2 G2 σ2 H2 h2 e2 => l1 δ2 G2 σ2 H2 h2 (e.trans e2), fun d G2 H2 v h2 e2 => l2 d G2 H2 v h2 (e.trans e2), fun δ2 G2 σ2 H2 h2 e2 => l3 δ2 G2 σ2 H2 h2 (e.trans e2),
        fun δ2 G2 σ2 H2 h2 e2 => l4 δ2 G2 σ2 H2 h2 (e.trans e2), fun ex δ2 G2 σ2 H2 cls dd h2 e2 => l5 ex δ2 G2 σ2 H2 cls dd h2 (e.trans e2)⟩, l5⟩
/-! targets -/
def upG1 (X : Cx) (Wx : WX) (g : DG) : TG := fun v σ H Q => ∃ (W : DW) (δ : Sl) (G : DH) (d : D) (R : Sl → DH → Prop), StOk X.K X.mg H G δ σ ∧ HpOk X.K X.mg H G ∧ Rp X.K X.mg H G d v ∧ g d W δ G R ∧
  (∀ δ' G' σ' H', R δ' G' → Ext H G H' G' → StOk X.K X.mg H' G' δ' σ' → HpOk X.K X.mg H' G' → Q σ' H') ∧
  ∀ ex δ' G' σ' H' cls dd, W ex δ' G' → Ext H G H' G' → StOk X.K X.mg H' G' δ' σ' → HpOk X.K X.mg H' G' → ExOk X.K X.mg H' G' ex cls dd → Wx cls dd σ' H'
def upGs (X : Cx) (Wx : WX) (g : DGs) : TGs := fun vs σ H Q => ∃ (W : DW) (δ : Sl) (G : DH) (ds : List D) (R : Sl → DH → Prop), StOk X.K X.mg H G δ σ ∧ HpOk X.K X.mg H G ∧ RpL X.K X.mg H G ds vs ∧ g ds W δ G R ∧
  (∀ δ' G' σ' H', R δ' G' → Ext H G H' G' → StOk X.K X.mg H' G' δ' σ' → HpOk X.K X.mg H' G' → Q σ' H') ∧
  ∀ ex δ' G' σ' H' cls dd, W ex δ' G' → Ext H G H' G' → StOk X.K X.mg H' G' δ' σ' → HpOk X.K X.mg H' G' → ExOk X.K X.mg H' G' ex cls dd → Wx cls dd σ' H'
def PDG (X : Cx) (lv : Nat) (cm : Bool) (tg : Expr) (g : DG) : Prop := Gd X lv cm → ∀ Wx, Takes X Wx → PG X tg (upG1 X Wx g)
def PDGs (X : Cx) (lv : Nat) (cm : Bool) (tg : List Expr) (g : DGs) : Prop := Gd X lv cm → ∀ Wx, Takes X Wx → PGs X tg (upGs X Wx g)
theorem pg_imp {e : Expr} {t t' : TG} (h : PG X e t) (i : ∀ v σ H Q, t' v σ H Q → t v σ H Q) : PG X e t' := ⟨fun pins s σ H v u Q I r q => h.run pins s σ H v u Q I r (i _ _ _ _ q)⟩
theorem pgs_imp {e : List Expr} {t t' : TGs} (h : PGs X e t) (i : ∀ v σ H Q, t' v σ H Q → t v σ H Q) : PGs X e t' := ⟨fun pins s σ H v u Q I r q => h.run pins s σ H v u Q I r (i _ _ _ _ q)⟩
theorem pdg_name {i : Nat} {x : Str} (hN : X.N.Nodup) (hi : X.N[i]? = some x) (hx : Loc X.env.scope x) (hf : X.fn x = true ∨ X.env.scope.names.lookup x = some .local := by first | exact .inl rfl | exact .inr rfl | assumption) : PDG X lv cm (.Name x pos) (gdName i) := fun gd Wx tk =>
  pg_imp (pg_name hN hi hx hf) fun v σ H Q ⟨W, δ, G, d, R, hs, hg, r, h, l1, l2⟩ => l1 _ G _ H h (Ext.refl _ _) (hs.set i r) hg
theorem pdgs_nil : PDGs X lv cm [] gdNil := fun gd Wx tk => pgs_imp pgs_nil fun vs σ H Q ⟨W, δ, G, ds, R, hs, hg, r, ⟨e, h⟩, l1, l2⟩ => by
  subst e; cases r; exact ⟨rfl, l1 δ G σ H h (Ext.refl _ _) hs hg⟩
theorem pdgs_cons {es : List Expr} {t : DG} {u : DGs} (h1 : PDG X lv cm e t) (h2 : PDGs X lv cm es u) (hs : (assignEach (e :: es) X.env).map (·.2) = assign e X.env :: (assignEach es X.env).map (·.2) := by rfl) : PDGs X lv cm (e :: es) (gdCons t u) := fun gd Wx tk =>
  pgs_imp (pgs_cons (h1 gd Wx tk) (h2 gd Wx tk) hs) fun vs σ H Q ⟨W, δ, G, ds, R, hs, hg, r, h, l1, l2⟩ => by
    cases r with
    | nil => exact h.elim
    | cons r rr => exact ⟨_, _, rfl, W, δ, G, _, _, hs, hg, r, h, fun δ' G' σ' H' h' e' s' g' => ⟨W, δ', G', _, R, s', g', rr.ext e', h', fun δ2 G2 σ2 H2 hh e2 => l1 δ2 G2 σ2 H2 hh (e'.trans e2), fun ex δ2 G2 σ2 H2 cls dd hh e2 => l2 ex δ2 G2 σ2 H2 cls dd hh (e'.trans e2)⟩, l2⟩
theorem pdg_tup {es : List Expr} {k : Nat} {t : DGs} {n : Nat} (h : PDGs X lv true es t) (hn : (assignEach es X.env).length = n := by rfl) (hst : (assignEach es X.env).findIdx? (·.1) = none := by rfl) : PDG X lv true (.Tuple es k pos) (gdTup n t) := fun gd Wx tk =>
  pg_imp (pg_tup (gd.cl rfl) (h gd Wx tk) hn hst) fun v σ H Q ⟨W, δ, G, d, R, hs, hg, r, h, l1, l2⟩ => by
    unfold gdTup at h
    split at h
    · rename_i xs e
      obtain ⟨a, vs, rfl, ha, ra⟩ := rs_tup r e
      exact ⟨a, vs, rfl, ha.sqT, by rw [← ra.length]; exact h.1, W, δ, G, xs, R, hs, hg, ra, h.2, l1, l2⟩
    · exact h.elim
theorem up_asg {Wx : WX} {g : DG} {D : Ends} {σ : L2.St} {H : Hp} (h : upS X Wx (dAsg te g) D σ H) : tAsg (upE X Wx te) (upG1 X Wx g) D σ H := by
  obtain ⟨DD, δ, G, hs, hg, ht, l1, l2, l3, l4, l5⟩ := h
  exact ⟨DD.ex, δ, G, _, hs, hg, ht, fun d G1 H1 v h1 e1 g1 r1 => ⟨DD.ex, δ, G1, d, _, hs.ext e1, g1, r1, h1, fun δ' G' σ' H' h' e' => l1 δ' G' σ' H' h' (e1.trans e'), fun ex δ2 G2 σ2 H2 cls dd hh e2 => l5 ex δ2 G2 σ2 H2 cls dd hh (e1.trans e2)⟩, l5⟩
theorem pds_asg {tg : Expr} {g : DG} (he : PD X lv cm e te) (hg : PDG X lv cm tg g) (hs : swapsWithSole [tg] e pos.line X.env = pure false := by rfl) (hw : swappedStores [tg] e X.env = pure none := by rfl)
    (h1 : (assignEach [tg] X.env).map (·.2) = [assign tg X.env] := by rfl) : PDS X lv cm (.Assign [tg] e pos) (dAsg te g) := fun gd Wx tk => ps_imp (ps_asg (he gd Wx tk) (hg gd Wx tk) hs hw h1) fun D σ H h => up_asg h
theorem pds_set {i : Nat} {x : Str} {pos' : Pos} (hN : X.N.Nodup) (hi : X.N[i]? = some x) (hx : Loc X.env.scope x) (he : PD X lv cm e te) (hs : swapsWith e (some (.Name x pos')) pos.line X.env = pure false := by rfl)
    (hf : X.fn x = true ∨ X.env.scope.names.lookup x = some .local := by first | exact .inl rfl | exact .inr rfl | assumption) : PDS X lv cm (.Assign [.Name x pos'] e pos) (dAsg te (gdName i)) := fun gd Wx tk =>
  ps_imp (ps_set hN hi hx (he gd Wx tk) hs hf) fun D σ H ⟨DD, δ, G, hs, hg, ht, l1, l2, l3, l4, l5⟩ => ⟨DD.ex, δ, G, _, hs, hg, ht, fun d G1 H1 v h1 e1 g1 r1 => l1 _ G1 _ H1 h1 e1 ((hs.ext e1).set i r1) g1, l5⟩
theorem pds_par {i j : Nat} {x y : Str} {a b : Expr} {t : DA} {px py pt : Pos} {kt k2 pt2} (hN : X.N.Nodup) (hi : X.N[i]? = some x) (hj : X.N[j]? = some y) (hij : i ≠ j) (hx : X.env.scope.names.lookup x = some .local) (hy : X.env.scope.names.lookup y = some .local) (ha : PDA X lv true [a, b] t)
    (hw : swappedStores [.Tuple [.Name x px, .Name y py] kt pt] (.Tuple [a, b] k2 pt2) X.env = pure (some [x, y]) := by rfl) (hs : swapsWithSole [.Tuple [.Name x px, .Name y py] kt pt] (.Tuple [a, b] k2 pt2) pos.line X.env = pure false := by rfl) :
    PDS X lv true (.Assign [.Tuple [.Name x px, .Name y py] kt pt] (.Tuple [a, b] k2 pt2) pos) (dPar i j t) := fun gd Wx tk =>
  ps_imp (ps_par (gd.cl rfl) hN hi hj hij hx hy (ha gd Wx tk) hw hs) fun D σ H ⟨DD, δ, G, hs, hg, ht, l1, l2, l3, l4, l5⟩ => ⟨DD.ex, δ, G, _, hs, hg, ht, fun ds G1 H1 vs h1 e1 g1 r1 => by
    match ds, r1, h1 with
    | [d1, d2], r1, h1 =>
      obtain ⟨v, w, rfl, r2, r3⟩ := two_rp r1
      exact ⟨v, w, rfl, l1 _ G1 _ H1 h1 e1 (((hs.ext e1).set i r2).set j r3) g1⟩
    | [], _, h => exact h.elim
    | [_], _, h => exact h.elim
    | _ :: _ :: _ :: _, _, h => exact h.elim, l5⟩
/-! stores into lists, dicts -/
/-- o[i] = v -/
def rSetD (o i v : D) (G : DH) (Q : DH → Prop) : Prop := match o with
  | .ref a => match G a with
    | some (.lst xs) => match i with
      | .int k => match ixN xs.length k with
        | some j => Q (upG G a (.lst (xs.set j v)))
        | none => False
      | _ => False
    | some (.dct kvs) => match kyD i with
      | some k => ((kvs.map (·.1)).Nodup ∧ kvs.length < sizeLine) ∧ Q (upG G a (.dct (ptK kvs k v)))
      | none => False
    | _ => False
  | _ => False
def gdSub (to ti : DE) : DG := fun v W δ G Q => to W δ G fun o G1 => ti W δ G1 fun i G2 => rSetD o i v G2 fun G3 => Q δ G3
def upSet (X : Cx) : TSet := fun o i v H Q => ∃ (do' di dv : D) (G : DH) (R : DH → Prop), HpOk X.K X.mg H G ∧ Rp X.K X.mg H G do' o ∧ Rp X.K X.mg H G di i ∧ Rp X.K X.mg H G dv v ∧ rSetD do' di dv G R ∧
  ∀ G' H', R G' → Ext H G H' G' → HpOk X.K X.mg H' G' → Q H'
theorem set_pd (gd : Gd X lv cm) : PSet X (upSet X) := by
  intro pins s σ H o i v ov iv u Q I ro ri rv ⟨do', di, dv, G, R, hg, r1, r2, r3, h, l⟩
  unfold rSetD at h
  cases r1 with
  | ref a =>
    simp only at h
    cases ea : G a with
    | none => simp only [ea] at h
    | some w =>
      simp only [ea] at h
      have ob := hg a w ea
      cases ob with
      | lst e2 ra =>
        simp only at h
        cases r2 with
        | int k =>
          simp only at h
          rename_i vs xs
          cases ej : ixN xs.length k with
          | none => simp only [ej] at h
          | some j =>
            simp only [ej] at h
            have ext := Ext.write (H := H) (o := .lst (xs.set j dv)) (u := .lst (vs.set j v)) ea
            exact set_list pins s σ H _ _ _ ov iv u Q I ro ri rv ⟨a, vs, k, j, rfl, rfl, e2, by rw [← ra.length]; exact ej, l _ _ h ext (hg.upd ext (.lst upd_same ((RpL.set r3 j ra).ext ext)))⟩
        | _ => exact h.elim
      | dct e2 ra =>
        simp only at h
        rename_i vs kvs
        cases ek : kyD di with
        | none => simp only [ek] at h
        | some k =>
          simp only [ek] at h
          cases key_v r2 ek
          obtain rfl : ov = Value.ref a := ro
          have ext := Ext.write (H := H) (o := .dct (ptK kvs k dv)) (u := .dK (putK vs k v)) ea
          refine d_setItem gd.un1 I (DPut.k (k := k) e2 (by rw [← ra.length]; exact h.1.2)) ri rv fun s' I' => ⟨_, I', l _ _ h.2 ext (hg.upd ext (.dct upd_same ?_))⟩
          refine RpK.ext ext ?_
          rw [ptK_eq k dv h.1.1]
          unfold putK
          rw [any_keys ra.keys]
          split
          · exact ra.mapPut r3
          · exact ra.append (.cons r3 .nil)
      | ins _ _ _ _ => exact h.elim
  | _ => exact h.elim
theorem pdg_sub {o i : Expr} {to ti : DE} (ho : PD X lv cm o to) (hi : PD X lv cm i ti)
    (ha : ∀ v, assign (.Subscript o i pos) X.env v = (do
      let ov ← holding [v] (eval o X.env)
      let iv ← holding [v, ov] (eval i X.env)
      standAt pos
      holding [v, ov, iv] (setItem ov iv v)
      release [v, ov, iv] []) := by intro _; rfl) : PDG X lv cm (.Subscript o i pos) (gdSub to ti) := fun gd Wx tk =>
  pg_imp (pg_sub (ho gd Wx tk) (hi gd Wx tk) (set_pd gd) ha) fun v σ H Q ⟨W, δ, G, d, R, hs, hg, r, h, l1, l2⟩ => ⟨W, δ, G, _, hs, hg, h, fun o1 G1 H1 v1 h1 e1 g1 r1 =>
    ⟨W, δ, G1, _, hs.ext e1, g1, h1, fun i1 G2 H2 v2 h2 e2 g2 r2 => ⟨o1, i1, d, G2, _, g2, r1.ext e2, r2, r.ext (e1.trans e2), h2, fun G3 H3 h3 e3 g3 => l1 δ G3 σ H3 h3 ((e1.trans e2).trans e3) (hs.ext ((e1.trans e2).trans e3)) g3⟩,
      fun ex δ2 G2 σ2 H2 cls dd hh e2 => l2 ex δ2 G2 σ2 H2 cls dd hh (e1.trans e2)⟩, l2⟩
end
end DL

namespace DL
open L2 PyProof.Rows PySem PySem.Spec

/-! ### 9. loops -/
theorem ite_t {A B : Prop} (h : if true = true then A else B) : A := h
theorem ite_f {A B : Prop} (h : if false = true then A else B) : B := by
  rwa [if_neg Bool.false_ne_true] at h
def dWhile (c : DT) (tb : DS) : DS := fun D δ G => ∃ P : Nat → Sl → DH → Prop, (∃ m, P m δ G) ∧ ∀ m δ G, P m δ G → c D.ex δ G fun b G1 =>
  Br b (tb (trn' D fun δ' G' => ∃ m', m' < m ∧ P m' δ' G') δ G1) (D.nx δ G1) .mk
section
variable {X : Cx} {lv : Nat} {cm : Bool} {pos : Pos}
theorem pds_while {c : Expr} {body : List Stmt} {tc : DT} {tb : DS} (hc : PDT X lv cm c tc) (hb : PDSs X lv cm body tb) : PDS X lv cm (.While c body [] pos) (dWhile tc tb) := fun gd Wx tk =>
  ps_imp (ps_while gd.po (hc gd Wx tk) (hb gd Wx tk)) fun D σ0 H0 ⟨DD, δ0, G0, hs0, hg0, ⟨P, ⟨m0, p0⟩, turn⟩, l1, l2, l3, l4, l5⟩ =>
    ⟨fun m σ H => ∃ δ G, Ext H0 G0 H G ∧ StOk X.K X.mg H G δ σ ∧ HpOk X.K X.mg H G ∧ P m δ G, ⟨m0, δ0, G0, Ext.refl _ _, hs0, hg0, p0⟩, fun m σ H ⟨δ, G, e, hs, hg, p⟩ =>
      ⟨DD.ex, δ, G, _, hs, hg, turn m δ G p, fun b G1 H1 h1 e1 g1 => by
        have e01 := e.trans e1
        cases b with
        | true =>
          replace h1 := ite_t h1
          refine iteT ?_
          refine ⟨fun σ' H' => ∃ δ' G', Ext H0 G0 H' G' ∧ StOk X.K X.mg H' G' δ' σ' ∧ HpOk X.K X.mg H' G' ∧ ∃ m', m' < m ∧ P m' δ' G', fun σ' H' ⟨δ', G', e', s', g', m', hm, p'⟩ => ⟨m', hm, δ', G', e', s', g', p'⟩, ?_⟩
          exact ⟨_, δ, G1, hs.ext e1, g1, h1, fun δ' G' σ' H' h' e' s' g' => ⟨δ', G', e01.trans e', s', g', h'⟩, fun d G2 H2 v h2 e2 => l2 d G2 H2 v h2 (e01.trans e2),
            fun δ2 G2 σ2 H2 h2 e2 => l1 δ2 G2 σ2 H2 h2 (e01.trans e2), fun δ' G' σ' H' h' e' s' g' => ⟨δ', G', e01.trans e', s', g', h'⟩, fun ex δ2 G2 σ2 H2 cls dd h2 e2 => l5 ex δ2 G2 σ2 H2 cls dd h2 (e01.trans e2)⟩
        | false =>
          replace h1 := ite_f h1
          refine iteF ?_
          exact l1 δ G1 σ H1 h1 e01 (hs.ext e1) g1, fun ex δ2 G2 σ2 H2 cls dd h2 e2 => l5 ex δ2 G2 σ2 H2 cls dd h2 (e.trans e2)⟩⟩
end
/-- what is walked: its items, what must hold at each turn, the heap -/
abbrev DI := DW → Sl → DH → (List D → (DH → Prop) → DH → Prop) → Prop
structure ItD (X : Cx) (J : It) (H0 : Hp) (G0 : DH) (xs : List D) (S : DH → Prop) : Prop where
  go : ∀ i x H G, xs[i]? = some x → Ext H0 G0 H G → HpOk X.K X.mg H G → S G → J.go i H ∧ ∀ v H', J.yld i H v H' → Ext H G H' G ∧ HpOk X.K X.mg H' G ∧ Rp X.K X.mg H' G x v
  stop : ∀ H G, Ext H0 G0 H G → HpOk X.K X.mg H G → S G → J.stop xs.length H
def upI (X : Cx) (Wx : WX) (t : DI) : TI := fun σ H R => ∃ (W : DW) (δ : Sl) (G : DH) (R' : List D → (DH → Prop) → DH → Prop), StOk X.K X.mg H G δ σ ∧ HpOk X.K X.mg H G ∧ t W δ G R' ∧
  (∀ xs S G' H' J, R' xs S G' → Ext H G H' G' → HpOk X.K X.mg H' G' → ItD X J H' G' xs S → R J H') ∧
  ∀ ex δ' G' σ' H' cls dd, W ex δ' G' → Ext H G H' G' → StOk X.K X.mg H' G' δ' σ' → HpOk X.K X.mg H' G' → ExOk X.K X.mg H' G' ex cls dd → Wx cls dd σ' H'
def PDI (X : Cx) (lv : Nat) (cm : Bool) (tg e : Expr) (t : DI) : Prop := Gd X lv cm → ∀ Wx, Takes X Wx → PI X tg e (upI X Wx t)
theorem pi_imp {X : Cx} {tg e : Expr} {t t' : TI} (h : PI X tg e t) (i : ∀ σ H R, t' σ H R → t σ H R) : PI X tg e t' := ⟨fun pins s σ H R I q => h.run pins s σ H R I (i _ _ _ q)⟩
def forK (g : DG) (tb : DS) (D : DEnds) (δ : Sl) (xs : List DL.D) (S : DH → Prop) (G1 : DH) : Prop := ∃ P : Nat → Sl → DH → Prop, P 0 δ G1 ∧
  (∀ i x δ G, xs[i]? = some x → P i δ G → S G ∧ g x D.ex δ G fun δ2 G2 => tb (trn' D (P (i + 1))) δ2 G2) ∧ ∀ δ G, P xs.length δ G → S G ∧ D.nx δ G
def dFor (it : DI) (g : DG) (tb : DS) : DS := fun D δ G => it D.ex δ G fun xs S G1 => forK g tb D δ xs S G1
section
variable {X : Cx} {lv : Nat} {cm : Bool} {pos : Pos}
theorem pds_for {tg iter : Expr} {body : List Stmt} {it : DI} {g : DG} {tb : DS} (hi : PDI X lv true tg iter it) (hgt : PDG X lv true tg g) (hb : PDSs X lv true body tb)
    (hs : ∀ x, foldedSetIterable iter X.env x = pure x := by intro _; rfl) : PDS X lv true (.For tg iter body [] pos) (dFor it g tb) := fun gd Wx tk =>
  ps_imp (ps_for gd.po (gd.cl rfl) (hi gd Wx tk) (hgt gd Wx tk) (hb gd Wx tk) hs) fun D σ00 H00 ⟨DD, δ00, G00, hs00, hg00, ht, l1, l2, l3, l4, l5⟩ =>
    ⟨DD.ex, δ00, G00, _, hs00, hg00, ht, fun xs S G0 H0 J ⟨P, p0, turn, fin⟩ e0 g0 IJ =>
      ⟨fun i m σ H => m = xs.length - i ∧ i ≤ xs.length ∧ ∃ δ G, Ext H0 G0 H G ∧ StOk X.K X.mg H G δ σ ∧ HpOk X.K X.mg H G ∧ P i δ G, ⟨xs.length, by simp, Nat.zero_le _, δ00, G0, Ext.refl _ _, hs00.ext e0, g0, p0⟩, fun i m σ H ⟨em, hi, δ, G, e, hs, hg, p⟩ => by
        have ee := e0.trans e
        by_cases hlt : i < xs.length
        · have hx : xs[i]? = some xs[i] := List.getElem?_eq_getElem hlt
          obtain ⟨hS, hstep⟩ := turn i _ δ G hx p
          obtain ⟨hgo, hyld⟩ := IJ.go i _ H G hx e hg hS
          refine .inr ⟨hgo, fun σ' H' => ∃ δ' G', Ext H0 G0 H' G' ∧ StOk X.K X.mg H' G' δ' σ' ∧ HpOk X.K X.mg H' G' ∧ P (i + 1) δ' G', fun σ' H' ⟨δ', G', e', s', g', p'⟩ => ⟨xs.length - (i + 1), by omega, rfl, hlt, δ', G', e', s', g', p'⟩, fun v H' hy => ?_⟩
          obtain ⟨e1, g1, r1⟩ := hyld v H' hy
          exact ⟨DD.ex, δ, G, xs[i], _, hs.ext e1, g1, r1, hstep, fun δ2 G2 σ2 H2 h2 e2 s2 g2 => ⟨_, δ2, G2, s2, g2, h2,
              fun δ' G' σ' H' h' e' s' g' => ⟨δ', G', ((e.trans e1).trans e2).trans e', s', g', h'⟩, fun d G3 H3 v h3 e3 => l2 d G3 H3 v h3 (((ee.trans e1).trans e2).trans e3),
              fun δ3 G3 σ3 H3 h3 e3 => l1 δ3 G3 σ3 H3 h3 (((ee.trans e1).trans e2).trans e3), fun δ' G' σ' H' h' e' s' g' => ⟨δ', G', ((e.trans e1).trans e2).trans e', s', g', h'⟩,
              fun ex δ3 G3 σ3 H3 cls dd h3 e3 => l5 ex δ3 G3 σ3 H3 cls dd h3 (((ee.trans e1).trans e2).trans e3)⟩,
            fun ex δ2 G2 σ2 H2 cls dd h2 e2 => l5 ex δ2 G2 σ2 H2 cls dd h2 ((ee.trans e1).trans e2)⟩
        · have ei : i = xs.length := by omega
          subst ei
          obtain ⟨hS, hn⟩ := fin δ G p
          exact .inl ⟨IJ.stop H G e hg hS, l1 δ G σ H hn ee hs hg⟩⟩, l5⟩

/-! what may be walked -/
theorem RpL.getV2 {H : Hp} {G : DH} {xs : List D} {vs : List V} (r : RpL X.K X.mg H G xs vs) {i : Nat} {x : D} {v : V} (hx : xs[i]? = some x) (hv : vs[i]? = some v) : Rp X.K X.mg H G x v := by
  obtain ⟨w, hw, rw'⟩ := r.get hx
  rw [hv] at hw; cases hw; exact rw'
theorem it_seqL {a : Addr} {H0 : Hp} {G0 : DH} {xs : List D} {S : DH → Prop} (h : ∀ H G, Ext H0 G0 H G → HpOk X.K X.mg H G → S G → ∃ vs, SqL X.K H a vs ∧ RpL X.K X.mg H G xs vs) : ItD X (Itl X.K a) H0 G0 xs S := by
  refine ⟨fun i x H G hx e hg s => ?_, fun H G e hg s => ?_⟩
  · obtain ⟨vs, hq, r⟩ := h H G e hg s
    obtain ⟨v, hv, rv⟩ := r.get hx
    refine ⟨⟨vs, v, hq, hv⟩, fun w H' ⟨eh, hw⟩ => ?_⟩
    subst eh
    exact ⟨Ext.refl _ _, hg, r.getV2 hx (hw vs hq)⟩
  · obtain ⟨vs, hq, r⟩ := h H G e hg s
    exact ⟨vs, hq, by rw [r.length]; exact Nat.le_refl _⟩
theorem it_seqT {a : Addr} {H0 : Hp} {G0 : DH} {xs : List D} {S : DH → Prop} (h : ∀ H G, Ext H0 G0 H G → HpOk X.K X.mg H G → S G → ∃ vs, SqT X.K H a vs ∧ RpL X.K X.mg H G xs vs) : ItD X (Itt X.K a) H0 G0 xs S := by
  refine ⟨fun i x H G hx e hg s => ?_, fun H G e hg s => ?_⟩
  · obtain ⟨vs, hq, r⟩ := h H G e hg s
    obtain ⟨v, hv, rv⟩ := r.get hx
    refine ⟨⟨vs, v, hq, hv⟩, fun w H' ⟨eh, hw⟩ => ?_⟩
    subst eh
    exact ⟨Ext.refl _ _, hg, r.getV2 hx (hw vs hq)⟩
  · obtain ⟨vs, hq, r⟩ := h H G e hg s
    exact ⟨vs, hq, by rw [r.length]; exact Nat.le_refl _⟩
theorem it_str {z : Str} {H0 : Hp} {G0 : DH} {S : DH → Prop} : ItD X (Its z) H0 G0 (z.cps.toList.map fun c => .str ⟨#[c]⟩) S := by
  refine ⟨fun i x H G hx e hg s => ?_, fun H G e hg s => ?_⟩
  · have hi := (List.getElem?_eq_some_iff.mp hx).1
    rw [List.length_map] at hi
    refine ⟨by show i < z.cps.size; simpa using hi, fun w H' ⟨eh, c, hc, ew⟩ => ?_⟩
    subst eh; subst ew
    refine ⟨Ext.refl _ _, hg, ?_⟩
    rw [List.getElem?_map, Array.getElem?_toList, hc] at hx
    cases hx
    exact .str _
  · show z.cps.size ≤ _
    simp
/-- neither a text nor a tuple -/
def notTS (d : D) : Prop := match d with
  | .str _ => False
  | .tup _ => False
  | _ => True
/-- the items of a value -/
def walkD (d : D) (G : DH) (K : List D → (DH → Prop) → Prop) : Prop := match d with
  | .lst xs => K xs fun _ => True
  | .lsk xs => K xs fun _ => True
  | .tup xs => K xs fun _ => True
  | .str z => K (z.cps.toList.map fun c => .str ⟨#[c]⟩) fun _ => True
  | .ref a => match G a with
    | some (.lst xs) => K xs fun G => G a = some (.lst xs)
    | _ => False
  | _ => False
def diVal (t : DE) : DI := fun W δ G R => t W δ G fun d G1 => walkD d G1 fun xs S => R xs S G1
theorem PI.cast {tg l : Expr} {tl : TE} {p : V → Hp → (It → Hp → Prop) → Prop} (hl : PE X l tl)
    (h : ∀ (pins : List (Addr × Obj)) (s : Shared) (σ : L2.St) (H : Hp) (R : It → Hp → Prop) (x : V) (v : Value), Inv X pins σ H s → RelV x v → p x H R → wpAny (model X.prog X.w) X.A (pyIter v) (PIE X pins σ tg R) X.xe s) :
    PI X tg l (fun σ H R => tl σ H fun x H1 => p x H1 R) := ⟨fun pins s σ H R I q => thn (hl.run pins s σ H _ I q) fun v s1 ⟨x, H1, I1, r1, q1⟩ => h pins s1 σ H1 R x v I1 r1 q1⟩
theorem iter_list {tg : Expr} {pins : List (Addr × Obj)} {s : Shared} {σ : L2.St} {H : Hp} {R : It → Hp → Prop} {a : Addr} {vs : List V} (I : Inv X pins σ H s) (hq : SqL X.K H a vs) (q : R (Itl X.K a) H) :
    wpAny (model X.prog X.w) X.A (pyIter (.ref a)) (PIE X pins σ tg R) X.xe s := by
  obtain ⟨its, rv, p, hz⟩ := I.list hq
  refine wpAny_pyIter_list p.isList ⟨s.heap.objs.size, [s.heap.objs.size], _, _, H, rfl, I.kept (t' := s.toks) (fun b o e => Heap.get?_push_of_some _ e), turn_list a _, ⟨_, Heap.get?_push_size _ rfl, rfl, rfl⟩, fun b hb => ?_, q⟩
  cases (List.mem_singleton.mp hb)
  exact I.fpOk (Nat.le_refl _) (I.hok.fresh (Nat.le_refl _))
theorem iter_tuple {tg : Expr} {pins : List (Addr × Obj)} {s : Shared} {σ : L2.St} {H : Hp} {R : It → Hp → Prop} {a : Addr} {vs : List V} (I : Inv X pins σ H s) (hq : SqT X.K H a vs) (q : R (Itt X.K a) H) :
    wpAny (model X.prog X.w) X.A (pyIter (.ref a)) (PIE X pins σ tg R) X.xe s := by
  obtain ⟨its, rv, p, hz⟩ := I.tuple hq
  refine wpAny_pyIter_tuple (show s.heap.IsTuple a its.toArray from p) ⟨s.heap.objs.size, [s.heap.objs.size], _, _, H, rfl, I.kept (t' := s.toks) (fun b o e => Heap.get?_push_of_some _ e), turn_tuple a _, ⟨_, Heap.get?_push_size _ rfl, rfl, rfl⟩, fun b hb => ?_, q⟩
  cases (List.mem_singleton.mp hb)
  exact I.fpOk (Nat.le_refl _) (I.hok.fresh (Nat.le_refl _))
theorem iter_str {tg : Expr} {pins : List (Addr × Obj)} {s : Shared} {σ : L2.St} {H : Hp} {R : It → Hp → Prop} {x : Str} {t : Tok} (I : Inv X pins σ H s) (q : R (Its x) H) :
    wpAny (model X.prog X.w) X.A (pyIter (.str x t)) (PIE X pins σ tg R) X.xe s := by
  cases ha : x.cps.all (· < 128) with
  | false => exact wpAny_pyIter_wide ha (pi_one (tk := s.toks) I _ (turn_str _ x t "str_iterator" (.inr rfl)) ⟨_, Heap.get?_push_size _ rfl, rfl, rfl⟩ q)
  | true => exact wpAny_pyIter_ascii ha (pi_one (tk := s.toks) I _ (turn_str _ x t "str_ascii_iterator" (.inl rfl)) ⟨_, Heap.get?_push_size _ rfl, rfl, rfl⟩ q)
def pWalk (X : Cx) : V → Hp → (It → Hp → Prop) → Prop := fun x H R => ∃ (d : D) (G : DH) (R' : List D → (DH → Prop) → Prop), HpOk X.K X.mg H G ∧ Rp X.K X.mg H G d x ∧ walkD d G R' ∧ ∀ xs S J, R' xs S → ItD X J H G xs S → R J H
theorem pdi_val {tg e : Expr} {t : DE} (h : PD X lv cm e t) : PDI X lv cm tg e (diVal t) := fun gd Wx tk =>
  pi_imp (PI.cast (p := pWalk X) (h gd Wx tk) fun pins s σ H R x v I r ⟨d, G, R', hg, rd, hw, l⟩ => by
    unfold walkD at hw
    cases rd with
    | lst g e2 ra =>
      cases (show v = Value.ref _ from r)
      exact iter_list I (.inl (.inl e2)) (l _ _ _ hw (it_seqL fun H' G' e3 hg' _ => ⟨_, .inl (.inl (e3 _ _ g e2).1), ra.ext e3⟩))
    | lsk e2 ra =>
      cases (show v = Value.ref _ from r)
      exact iter_list I e2.sqL (l _ _ _ hw (it_seqL fun H' G' e3 hg' _ => ⟨_, (e2.ext e3).sqL, ra.ext e3⟩))
    | tup e2 ra =>
      cases (show v = Value.ref _ from r)
      exact iter_tuple I e2.sqT (l _ _ _ hw (it_seqT fun H' G' e3 hg' _ => ⟨_, (e2.ext e3).sqT, ra.ext e3⟩))
    | str z =>
      obtain ⟨tk', rfl⟩ := r
      exact iter_str I (l _ _ _ hw it_str)
    | ref a =>
      cases (show v = Value.ref _ from r)
      simp only at hw
      cases ea : G a with
      | none => simp only [ea] at hw
      | some o =>
        simp only [ea] at hw
        have ob := hg a o ea
        cases ob with
        | lst e2 ra =>
          simp only at hw
          refine iter_list I (.inl (.inl e2)) (l _ _ _ hw (it_seqL fun H' G' e3 hg' s' => ?_))
          have ob' := hg' a _ s'
          cases ob' with
          | lst e4 ra4 => exact ⟨_, .inl (.inl e4), ra4⟩
        | dct _ _ => exact hw.elim
        | ins _ _ _ _ => exact hw.elim
    | _ => exact hw.elim) fun σ H R ⟨W, δ, G, R', hs, hg, ht, l1, l2⟩ => ⟨W, δ, G, _, hs, hg, ht, fun d G1 H1 v h1 e1 g1 r1 => ⟨d, G1, _, g1, r1, h1, fun xs S J hr IJ => l1 xs S G1 H1 J hr e1 g1 IJ⟩, l2⟩
/-- range(n), range(a, b) -/
def rng (lo : Int) (n : Nat) : List D := (List.range n).map fun i => .int (lo + (i : Nat))
def diRng1 (t : DA) : DI := fun W δ G R => t W δ G fun ds G1 => match ds with
  | [.int j] => (-(2 ^ 62) ≤ j ∧ j < 2 ^ 62) ∧ R (rng 0 j.toNat) (fun _ => True) G1
  | _ => False
def diRng2 (t : DA) : DI := fun W δ G R => t W δ G fun ds G1 => match ds with
  | [.int i, .int j] => (-(2 ^ 62) ≤ i ∧ i < 2 ^ 62 ∧ -(2 ^ 62) ≤ j ∧ j < 2 ^ 62) ∧ R (rng i (j - i).toNat) (fun _ => True) G1
  | _ => False
theorem it_rng {lo : Int} {n : Nat} {H0 : Hp} {G0 : DH} {S : DH → Prop} : ItD X (Itr lo n) H0 G0 (rng lo n) S := by
  refine ⟨fun i x H G hx e hg s => ?_, fun H G e hg s => ?_⟩
  · have hi := (List.getElem?_eq_some_iff.mp hx).1
    rw [rng, List.length_map, List.length_range] at hi
    refine ⟨hi, fun w H' ⟨eh, ew⟩ => ?_⟩
    subst eh; subst ew
    refine ⟨Ext.refl _ _, hg, ?_⟩
    rw [rng, List.getElem?_map, List.getElem?_range hi] at hx
    cases hx
    exact .int _
  · show n ≤ _
    rw [rng, List.length_map, List.length_range]
    exact Nat.le_refl _
theorem pdi_range1 {tg a : Expr} {t : DA} {p : Pos} (hm : X.mg "range" = none) (ha : PDA X lv cm [a] t) (hg : Gl X "range" := by rfl) (hs : starEach [a] X.env = [(false, eval a X.env)] := by rfl) : PDI X lv cm tg (.Call (.Name "range" p) [a] [] pos) (diRng1 t) := fun gd Wx tk =>
  pi_imp (pi_range1 hg hm (ha gd Wx tk) hs) fun σ H R ⟨W, δ, G, R', hs, hg, ht, l1, l2⟩ => ⟨W, δ, G, _, hs, hg, ht, fun ds G1 H1 vs h1 e1 g1 r1 => by
    split at h1
    · rename_i j
      obtain ⟨v, rfl, r2⟩ := one_rp r1
      cases r2
      exact ⟨j, rfl, h1.1.1, h1.1.2, l1 _ _ G1 H1 _ h1.2 e1 g1 it_rng⟩
    · exact h1.elim, l2⟩
theorem pdi_range2 {tg a b : Expr} {t : DA} {p : Pos} (hm : X.mg "range" = none) (ha : PDA X lv cm [a, b] t) (hg : Gl X "range" := by rfl) (hs : starEach [a, b] X.env = [(false, eval a X.env), (false, eval b X.env)] := by rfl) (hs2 : starEach [b] X.env = [(false, eval b X.env)] := by rfl) :
    PDI X lv cm tg (.Call (.Name "range" p) [a, b] [] pos) (diRng2 t) := fun gd Wx tk =>
  pi_imp (pi_range2 hg hm (ha gd Wx tk) hs hs2) fun σ H R ⟨W, δ, G, R', hs, hg, ht, l1, l2⟩ => ⟨W, δ, G, _, hs, hg, ht, fun ds G1 H1 vs h1 e1 g1 r1 => by
    split at h1
    · rename_i i j
      obtain ⟨v, u, rfl, r2, r3⟩ := two_rp r1
      cases r2; cases r3
      exact ⟨i, j, rfl, h1.1, l1 _ _ G1 H1 _ h1.2 e1 g1 it_rng⟩
    · exact h1.elim, l2⟩
/-- enumerate(xs), zip(xs, ys) over lists -/
def enumD (xs : List D) : List D := (List.range xs.length).zipWith (fun i x => D.tup [.int (i : Nat), x]) xs
def diEnum (t : DA) : DI := fun W δ G R => t W δ G fun ds G1 => match ds with
  | [d] => walkD d G1 fun xs S => notTS d ∧ R (enumD xs) S G1
  | _ => False
theorem enumD_get {xs : List D} {i : Nat} {x : D} (h : (enumD xs)[i]? = some x) : ∃ y, xs[i]? = some y ∧ x = .tup [.int (i : Nat), y] := by
  unfold enumD at h
  rw [List.getElem?_zipWith] at h
  by_cases hi : i < xs.length
  · rw [List.getElem?_range hi, List.getElem?_eq_getElem hi] at h
    cases h
    exact ⟨_, List.getElem?_eq_getElem hi, rfl⟩
  · rw [List.getElem?_eq_none (by simpa using hi)] at h
    simp at h
theorem enumD_length (xs : List D) : (enumD xs).length = xs.length := by simp [enumD]
theorem it_enum {a : Addr} {H0 : Hp} {G0 : DH} {xs : List D} {S : DH → Prop} (h : ∀ H G, Ext H0 G0 H G → HpOk X.K X.mg H G → S G → ∃ vs, SqL X.K H a vs ∧ RpL X.K X.mg H G xs vs) : ItD X (Ite X.K a) H0 G0 (enumD xs) S := by
  refine ⟨fun i x H G hx e hg s => ?_, fun H G e hg s => ?_⟩
  · obtain ⟨vs, hq, r⟩ := h H G e hg s
    obtain ⟨y, hy, rfl⟩ := enumD_get hx
    obtain ⟨v, hv, rv⟩ := r.get hy
    refine ⟨⟨vs, v, hq, hv⟩, fun w H' ⟨T, u, ew, hT, eh, hw⟩ => ?_⟩
    subst eh; subst ew
    have hu := hw vs hq
    exact ⟨Ext.newF hT, hg.newF hT, .tup (.inl ⟨hg.free hT, upd_same⟩) (.cons (.int _) (.cons ((r.getV2 hy hu).ext (Ext.newF hT)) .nil))⟩
  · obtain ⟨vs, hq, r⟩ := h H G e hg s
    exact ⟨vs, hq, by rw [enumD_length, r.length]; exact Nat.le_refl _⟩
/-- the list that is walked, at any later heap -/
theorem walk_list {d : D} {v : V} {H : Hp} {G : DH} {K : List D → (DH → Prop) → Prop} (hg : HpOk X.K X.mg H G) (r : Rp X.K X.mg H G d v) (hw : walkD d G K) (hns : notTS d) : ∃ a vs xs S, v = .ref a ∧ SqL X.K H a vs ∧ K xs S ∧ ∀ H' G', Ext H G H' G' → HpOk X.K X.mg H' G' → S G' → ∃ vs, SqL X.K H' a vs ∧ RpL X.K X.mg H' G' xs vs := by
  unfold walkD at hw
  cases r with
  | lst g e2 ra => exact ⟨_, _, _, _, rfl, .inl (.inl e2), hw, fun H' G' e3 hg' _ => ⟨_, .inl (.inl (e3 _ _ g e2).1), ra.ext e3⟩⟩
  | lsk e2 ra => exact ⟨_, _, _, _, rfl, e2.sqL, hw, fun H' G' e3 hg' _ => ⟨_, (e2.ext e3).sqL, ra.ext e3⟩⟩
  | tup e2 ra => exact hns.elim
  | str z => exact hns.elim
  | ref a =>
    simp only at hw
    cases ea : G a with
    | none => simp only [ea] at hw
    | some o =>
      simp only [ea] at hw
      have ob := hg a o ea
      cases ob with
      | lst e2 ra =>
        simp only at hw
        refine ⟨a, _, _, _, rfl, .inl (.inl e2), hw, fun H' G' e3 hg' s' => ?_⟩
        have ob' := hg' a _ s'
        cases ob' with
        | lst e4 ra4 => exact ⟨_, .inl (.inl e4), ra4⟩
      | dct _ _ => exact hw.elim
      | ins _ _ _ _ => exact hw.elim
  | _ => exact hw.elim
theorem walkD_and {d : D} {G : DH} {A : Prop} {K : List D → (DH → Prop) → Prop} (h : walkD d G fun xs S => A ∧ K xs S) : A ∧ walkD d G K := by
  unfold walkD at h ⊢
  cases d with
  | ref a =>
    simp only at h ⊢
    cases ea : G a with
    | none => simp only [ea] at h
    | some o =>
      simp only [ea] at h ⊢
      cases o with
      | lst xs => exact h
      | _ => exact h.elim
  | lst xs => exact h
  | lsk xs => exact h
  | tup xs => exact h
  | str xs => exact h
  | _ => exact h.elim
theorem pdi_enum {e : Expr} {t : DA} {p tpos : Pos} {elts : List Expr} {kk : Nat} (hm : X.mg "enumerate" = none) (ha : PDA X lv cm [e] t) (hg : Gl X "enumerate" := by rfl) (hs : starEach [e] X.env = [(false, eval e X.env)] := by rfl) :
    PDI X lv cm (.Tuple elts kk tpos) (.Call (.Name "enumerate" p) [e] [] pos) (diEnum t) := fun gd Wx tk =>
  pi_imp (pi_enum hg hm (ha gd Wx tk) hs) fun σ H R ⟨W, δ, G, R', hs, hg, ht, l1, l2⟩ => ⟨W, δ, G, _, hs, hg, ht, fun ds G1 H1 vs h1 e1 g1 r1 => by
    split at h1
    · rename_i d
      obtain ⟨v, rfl, r2⟩ := one_rp r1
      obtain ⟨hns, hw⟩ := walkD_and h1
      obtain ⟨a, vs, xs, S, rfl, hq, hr, hl⟩ := walk_list g1 r2 hw hns
      exact ⟨a, vs, rfl, hq, l1 _ _ G1 H1 _ hr e1 g1 (it_enum hl)⟩
    · exact h1.elim, l2⟩
def zipD (xs ys : List D) : List D := xs.zipWith (fun x y => D.tup [x, y]) ys
def diZip (t : DA) : DI := fun W δ G R => t W δ G fun ds G1 => match ds with
  | [c, d] => walkD c G1 fun xs S => notTS c ∧ walkD d G1 fun ys S' => notTS d ∧ R (zipD xs ys) (fun G => S G ∧ S' G) G1
  | _ => False
theorem it_zip {a b : Addr} {H0 : Hp} {G0 : DH} {xs ys : List D} {S S' : DH → Prop} (h : ∀ H G, Ext H0 G0 H G → HpOk X.K X.mg H G → S G → ∃ vs, SqL X.K H a vs ∧ RpL X.K X.mg H G xs vs)
    (h' : ∀ H G, Ext H0 G0 H G → HpOk X.K X.mg H G → S' G → ∃ vs, SqL X.K H b vs ∧ RpL X.K X.mg H G ys vs) : ItD X (Itz X.K a b) H0 G0 (zipD xs ys) (fun G => S G ∧ S' G) := by
  refine ⟨fun i x H G hx e hg s => ?_, fun H G e hg s => ?_⟩
  · obtain ⟨vs, hq, r⟩ := h H G e hg s.1
    obtain ⟨us, hq', r'⟩ := h' H G e hg s.2
    unfold zipD at hx
    rw [List.getElem?_zipWith] at hx
    cases e1 : xs[i]? with
    | none => rw [e1] at hx; simp at hx
    | some y =>
      cases e2 : ys[i]? with
      | none => rw [e1, e2] at hx; simp at hx
      | some z =>
        rw [e1, e2] at hx
        cases hx
        obtain ⟨v, hv, rv⟩ := r.get e1
        obtain ⟨u, hu, ru⟩ := r'.get e2
        refine ⟨⟨vs, us, v, u, hq, hq', hv, hu⟩, fun w H' ⟨T, v2, u2, ew, hT, eh, hw, hw'⟩ => ?_⟩
        subst eh; subst ew
        have hv2 := hw vs hq
        have hu2 := hw' us hq'
        exact ⟨Ext.newF hT, hg.newF hT, .tup (.inl ⟨hg.free hT, upd_same⟩) (.cons ((r.getV2 e1 hv2).ext (Ext.newF hT)) (.cons ((r'.getV2 e2 hu2).ext (Ext.newF hT)) .nil))⟩
  · obtain ⟨vs, hq, r⟩ := h H G e hg s.1
    obtain ⟨us, hq', r'⟩ := h' H G e hg s.2
    refine ⟨vs, us, hq, hq', ?_⟩
    rw [zipD, List.length_zipWith, ← r.length, ← r'.length]
    omega
theorem pdi_zip {e e2 : Expr} {t : DA} {p tpos : Pos} {elts : List Expr} {kk : Nat} (hm : X.mg "zip" = none) (ha : PDA X lv cm [e, e2] t) (hg : Gl X "zip" := by rfl)
    (hs : starEach [e, e2] X.env = (false, eval e X.env) :: starEach [e2] X.env := by rfl) (hpl : (backTo pos (starEach [e2] X.env)).any (·.1) = false := by rfl) :
    PDI X lv cm (.Tuple elts kk tpos) (.Call (.Name "zip" p) [e, e2] [] pos) (diZip t) := fun gd Wx tk =>
  pi_imp (pi_zip hg hm (ha gd Wx tk) hs hpl) fun σ H R ⟨W, δ, G, R', hs, hg, ht, l1, l2⟩ => ⟨W, δ, G, _, hs, hg, ht, fun ds G1 H1 vs h1 e1 g1 r1 => by
    split at h1
    · rename_i c d
      obtain ⟨v, u, rfl, r2, r3⟩ := two_rp r1
      obtain ⟨hns, hw⟩ := walkD_and h1
      obtain ⟨a, vs, xs, S, rfl, hq, hw2, hl⟩ := walk_list g1 r2 hw hns
      obtain ⟨hns2, hw2⟩ := walkD_and hw2
      obtain ⟨b, us, ys, S', rfl, hq', hr, hl'⟩ := walk_list g1 r3 hw2 hns2
      exact ⟨a, b, vs, us, rfl, hq, hq', l1 _ _ G1 H1 _ hr e1 g1 (it_zip hl hl')⟩
    · exact h1.elim, l2⟩
end
end DL

namespace DL
open L2 PyProof.Rows PySem PySem.Spec

/-! ### 10. comprehensions -/
def dWipe (δ : Sl) : List Nat → Sl
  | [] => δ
  | v :: vs => (dWipe δ vs).set v none
def W0 : DW := fun _ _ _ => False
def delG (G : DH) (p : Addr) : DH := fun b => if b = p then none else G b
theorem delG_same {G : DH} {p : Addr} : delG G p p = none := if_pos rfl
theorem delG_ne {G : DH} {p b : Addr} (h : b ≠ p) : delG G p b = G b := if_neg h
theorem delG_sub {G : DH} {p : Addr} : Sub (delG G p) G := fun a o h => by
  by_cases e : a = p
  · rw [e, delG_same] at h; cases h
  · rw [delG_ne e] at h; exact h
theorem delG_new {G : DH} {p : Addr} {o : DO} (h : G p = none) : delG (upG G p o) p = G := by
  funext b
  by_cases e : b = p
  · rw [e, delG_same, h]
  · rw [delG_ne e, upG_ne e]
theorem delG_id {G : DH} {p : Addr} (h : G p = none) : delG G p = G := by
  funext b
  by_cases e : b = p
  · rw [e, delG_same, h]
  · rw [delG_ne e]
theorem wipe_set {σ : L2.St} {i : Nat} {v : Option V} : ∀ {vs : List Nat}, i ∈ vs → L2.wipe (σ.set i v) vs = L2.wipe σ vs
  | [], h => by cases h
  | w :: vs, h => by
    show (L2.wipe (σ.set i v) vs).set w none = (L2.wipe σ vs).set w none
    by_cases hi : i ∈ vs
    · rw [wipe_set hi]
    · have e : i = w := by
        rcases List.mem_cons.mp h with e | e
        · exact e
        · exact absurd e hi
      subst e
      have q : ∀ us : List Nat, (L2.wipe (σ.set i v) us).set i none = (L2.wipe σ us).set i none := fun us => by
        induction us with
        | nil => show (σ.set i v).set i none = σ.set i none; rw [List.set_set]
        | cons u us ih =>
          show ((L2.wipe (σ.set i v) us).set u none).set i none = ((L2.wipe σ us).set u none).set i none
          by_cases eu : u = i
          · subst eu; rw [List.set_set, List.set_set]; exact ih
          · rw [List.set_comm _ _ eu, ih, List.set_comm _ _ (Ne.symm eu)]
      exact q vs
section
variable {K : PySem.W.Frag} {mg : Str → Option Value} {H : Hp} {G : DH}
theorem StOk.wipe {δ : Sl} {σ : L2.St} (h : StOk K mg H G δ σ) : ∀ vs : List Nat, StOk K mg H G (dWipe δ vs) (L2.wipe σ vs)
  | [] => h
  | v :: vs => (StOk.wipe h vs).clear v
end
/-- the context of a comprehension's block -/
abbrev blkX (X : Cx) (scope : Scope) (s : Shared) (H : Hp) (C : Addr) (cl : List (Str × Addr)) (fp : List Addr) : Cx := X.blk s H scope (compEnvC scope cl C X.env) fp
theorem Gd.blk {X : Cx} {lv : Nat} {cm : Bool} (g : Gd X lv cm) (scope : Scope) (s : Shared) (H : Hp) (C : Addr) (cl : List (Str × Addr)) (fp : List Addr) : Gd (blkX X scope s H C cl fp) lv cm :=
  ⟨g.gu, g.dp, g.un, g.hd, g.cl, PassesOwn.never⟩
def WF : WX := fun _ _ _ _ => False
theorem takesF {X : Cx} : Takes X WF := fun u s' ⟨a, B, sI, pins, σ, H, cls, d, e, I, nb, up, sky, na, os, ag, w⟩ => w.elim
/-- a comprehension's target: names -/
def TgOk (K : PySem.W.Frag) (mg : Str → Option Value) (g : DG) (hg : TG) (vs : List Nat) : Prop := ∀ (d : D) (v : V) (σ : L2.St) (H : Hp) (δ : Sl) (G : DH) (R : Sl → DH → Prop) (Q : L2.St → Hp → Prop),
  StOk K mg H G δ σ → HpOk K mg H G → Rp K mg H G d v → g d W0 δ G R → (∀ δ' σ', R δ' G → StOk K mg H G δ' σ' → L2.wipe σ' vs = L2.wipe σ vs → Q σ' H) → hg v σ H Q
def TgsOk (K : PySem.W.Frag) (mg : Str → Option Value) (g : DGs) (hg : TGs) (vs : List Nat) : Prop := ∀ (ds : List D) (us : List V) (σ : L2.St) (H : Hp) (δ : Sl) (G : DH) (R : Sl → DH → Prop) (Q : L2.St → Hp → Prop),
  StOk K mg H G δ σ → HpOk K mg H G → RpL K mg H G ds us → g ds W0 δ G R → (∀ δ' σ', R δ' G → StOk K mg H G δ' σ' → L2.wipe σ' vs = L2.wipe σ vs → Q σ' H) → hg us σ H Q
def LcTg (X : Cx) (scope : Scope) (tg : Expr) (g : DG) (vs : List Nat) : Prop := X.calm = true → ∃ hg : TG, (∀ (s : Shared) (H : Hp) (C : Addr) (cl : List (Str × Addr)) (fp : List Addr), PG (blkX X scope s H C cl fp) tg hg) ∧ TgOk X.K X.mg g hg vs
def LcTgs (X : Cx) (scope : Scope) (tg : List Expr) (g : DGs) (vs : List Nat) : Prop := X.calm = true → ∃ hg : TGs, (∀ (s : Shared) (H : Hp) (C : Addr) (cl : List (Str × Addr)) (fp : List Addr), PGs (blkX X scope s H C cl fp) tg hg) ∧ TgsOk X.K X.mg g hg vs
section
variable {X : Cx} {lv : Nat} {cm : Bool} {pos : Pos} {scope : Scope} {vs : List Nat}
theorem lct_name {i : Nat} {x : Str} (hN : X.N.Nodup) (hi : X.N[i]? = some x) (hv : i ∈ vs) (hx : ∀ (C : Addr) (cl : List (Str × Addr)), Loc (compEnvC scope cl C X.env).scope x) (hf : ∀ (C : Addr) (cl : List (Str × Addr)), (scope.names.lookup x == some .cell) = true ∨ (compEnvC scope cl C X.env).scope.names.lookup x = some .local) :
    LcTg X scope (.Name x pos) (gdName i) vs := fun _ => ⟨gName i, fun s H C cl fp => pg_name (X := blkX X scope s H C cl fp) hN hi (hx C cl) (hf C cl), fun d v σ H δ G R Q hs hg r h l => l _ _ h (hs.set i r) (wipe_set hv)⟩
theorem lcts_nil : LcTgs X scope [] gdNil vs := fun _ => ⟨gNil, fun s H C cl fp => pgs_nil, fun ds us σ H δ G R Q hs hg r ⟨e, h⟩ l => by
  subst e; cases r; exact ⟨rfl, l δ σ h hs rfl⟩⟩
theorem lcts_cons {e : Expr} {es : List Expr} {t : DG} {u : DGs} (h1 : LcTg X scope e t vs) (h2 : LcTgs X scope es u vs) (hG : ∀ d W δ G R, t d W δ G R → t d W δ G fun δ' G' => G' = G ∧ R δ' G)
    (hs : ∀ (C : Addr) (cl : List (Str × Addr)), (assignEach (e :: es) (compEnvC scope cl C X.env)).map (·.2) = assign e (compEnvC scope cl C X.env) :: (assignEach es (compEnvC scope cl C X.env)).map (·.2) := by intro _ _; rfl) : LcTgs X scope (e :: es) (gdCons t u) vs := fun hc => by
  obtain ⟨g1, p1, o1⟩ := h1 hc
  obtain ⟨g2, p2, o2⟩ := h2 hc
  refine ⟨gCons g1 g2, fun s H C cl fp => pgs_cons (p1 s H C cl fp) (p2 s H C cl fp) (hs C cl), fun ds us σ H δ G R Q hst hg r h l => ?_⟩
  cases r with
  | nil => exact h.elim
  | cons r rr =>
    refine ⟨_, _, rfl, o1 _ _ σ H δ G _ _ hst hg r (hG _ _ _ _ _ h) fun δ' σ' ⟨_, h'⟩ s' w' => ?_⟩
    exact o2 _ _ σ' H δ' G R Q s' hg rr h' fun δ2 σ2 h2 s2 w2 => l δ2 σ2 h2 s2 (w2.trans w')
theorem lct_tup {es : List Expr} {k : Nat} {t : DGs} {n : Nat} (h : LcTgs X scope es t vs) (hn : ∀ (C : Addr) (cl : List (Str × Addr)), (assignEach es (compEnvC scope cl C X.env)).length = n := by intro _ _; rfl)
    (hst : ∀ (C : Addr) (cl : List (Str × Addr)), (assignEach es (compEnvC scope cl C X.env)).findIdx? (·.1) = none := by intro _ _; rfl) : LcTg X scope (.Tuple es k pos) (gdTup n t) vs := fun hc => by
  obtain ⟨g1, p1, o1⟩ := h hc
  refine ⟨gTup X.K n g1, fun s H C cl fp => pg_tup (X := blkX X scope s H C cl fp) hc (p1 s H C cl fp) (hn C cl) (hst C cl), fun d v σ H δ G R Q hs hg r h l => ?_⟩
  unfold gdTup at h
  split at h
  · rename_i xs e
    obtain ⟨a, us, rfl, ha, ra⟩ := rs_tup (X := X) r e
    exact ⟨a, us, rfl, ha.sqT, by rw [← ra.length]; exact h.1, o1 xs us σ H δ G R Q hs hg ra h.2 l⟩
  · exact h.elim
theorem gdName_same {i : Nat} : ∀ d W δ G R, gdName i d W δ G R → gdName i d W δ G fun δ' G' => G' = G ∧ R δ' G := fun _ _ _ _ _ h => ⟨rfl, h⟩
theorem gdTup_same {n : Nat} {t : DGs} (h : ∀ ds W δ G R, t ds W δ G R → t ds W δ G fun δ' G' => G' = G ∧ R δ' G) : ∀ d W δ G R, gdTup n t d W δ G R → gdTup n t d W δ G fun δ' G' => G' = G ∧ R δ' G := fun d W δ G R q => by
  unfold gdTup at q ⊢
  split at q
  · exact ⟨q.1, h _ _ _ _ _ q.2⟩
  · exact q.elim
theorem gdNil_same : ∀ ds W δ G R, gdNil ds W δ G R → gdNil ds W δ G fun δ' G' => G' = G ∧ R δ' G := fun _ _ _ _ _ h => ⟨h.1, rfl, h.2⟩
/-- tests of a clause -/
def PDTs (X : Cx) (lv : Nat) (cm : Bool) (ifs : List Expr) (t : DT) : Prop := Gd X lv cm → ∀ Wx, Takes X Wx → PTs X ifs (upT X Wx t)
theorem pts_imp {e : List Expr} {t t' : TT} (h : PTs X e t) (i : ∀ σ H Q, t' σ H Q → t σ H Q) : PTs X e t' := ⟨fun pins s σ H Q I q => h.run pins s σ H Q I (i _ _ _ q)⟩
def dYes : DT := fun _ _ G Q => Q true G
theorem pdts_nil : PDTs X lv cm [] dYes := fun gd Wx tk => pts_imp pts_nil fun σ H Q ⟨W, δ, G, R, hs, hg, ht, lQ, lW⟩ => lQ true G H ht (Ext.refl _ _) hg
theorem pdts_one {c : Expr} {t : DT} (h : PDT X lv cm c t) : PDTs X lv cm [c] t := fun gd Wx tk => pts_one (h gd Wx tk)
end
/-- the loop; fin: what is made of the new list -/
def lcK (g : DG) (tt : DT) (te : DE) (vs : List Nat) (fin : Addr → List D → DH → DQ → Prop) (δ : Sl) (Q : DQ) (xs : List D) (S : DH → Prop) (G1 : DH) (_ : Shut Q ()) : Prop := ∀ p, G1 p = none → ∃ P : Nat → List D → DH → Prop, P 0 [] (upG G1 p (.lst [])) ∧
  (∀ i x ys G, xs[i]? = some x → G p = some (.lst ys) → P i ys G → S G ∧ g x W0 (dWipe δ vs) G fun δ2 G2 => tt W0 δ2 G2 fun b G3 =>
    if b = true then te W0 δ2 G3 fun y G4 => G4 p = some (.lst ys) ∧ ys.length < sizeLine ∧ P (i + 1) (ys ++ [y]) (upG G4 p (.lst (ys ++ [y]))) else G3 p = some (.lst ys) ∧ P (i + 1) ys G3) ∧
  ∀ ys G, G p = some (.lst ys) → P xs.length ys G → S G ∧ fin p ys G Q
def lcLoop (it : DI) (g : DG) (tt : DT) (te : DE) (vs : List Nat) (fin : Addr → List D → DH → DQ → Prop) : DE := fun W δ G Q => it W δ G fun xs S G1 => lcK g tt te vs fin δ Q xs S G1 .mk
def dLc (it : DI) (g : DG) (tt : DT) (te : DE) (vs : List Nat) : DE := lcLoop it g tt te vs fun p ys G Q => Q (.lst ys) (delG G p)
def dLcM (it : DI) (g : DG) (tt : DT) (te : DE) (vs : List Nat) : DE := lcLoop it g tt te vs fun p _ G Q => Q (.ref p) G
def FinOk (X : Cx) (fin : Addr → List D → DH → DQ → Prop) : Prop := ∀ (p : Addr) (ys : List D) (H : Hp) (G : DH) (R : DQ), HpOk X.K X.mg H G → G p = some (.lst ys) → fin p ys G R → ∃ d G', R d G' ∧ Ext H G H G' ∧ HpOk X.K X.mg H G' ∧ Rp X.K X.mg H G' d (.ref p)
section
variable {X : Cx} {lv : Nat} {pos : Pos} {scope : Scope} {own : List (Str × Nat)} {elt tg iter : Expr} {ifs : List Expr} {it : DI} {g : DG} {tt : DT} {te : DE} {fin : Addr → List D → DH → DQ → Prop}
theorem finF : FinOk X fun p ys G Q => Q (.lst ys) (delG G p) := fun p ys H G R hg hp h => by
  have ob := hg p _ hp
  cases ob with
  | lst e r => exact ⟨_, _, h, delG_sub.ext, hg.sub delG_sub, .lst delG_same e (r.ext delG_sub.ext)⟩
theorem finM : FinOk X fun p _ G Q => Q (.ref p) G := fun p ys H G R hg hp h => ⟨_, _, h, Ext.refl _ _, hg, .ref p⟩
theorem up_lc {Wx : WX} {hg : TG} (ho : TgOk X.K X.mg g hg (own.map (·.2))) (hf : FinOk X fin) {σ : L2.St} {H : Hp} {Q : VK} (h : upE X Wx (lcLoop it g tt te (own.map (·.2)) fin) σ H Q) :
    tLc (upI X Wx it) hg (upT X WF tt) (upE X WF te) (own.map (·.2)) σ H Q := by
  obtain ⟨W, δ, G, R, hs, hgo, ht, lQ, lW⟩ := h
  refine ⟨W, δ, G, _, hs, hgo, ht, fun xs S G1 H1 J h1 e1 g1 IJ => fun p hp => ?_, lW⟩
  obtain ⟨P, p0, turn, fn⟩ := h1 p (g1.free hp)
  have n1 : Ext H1 G1 (L2.upd H1 p (.lst [])) (upG G1 p (.lst [])) := Ext.new hp
  refine ⟨fun i m H => m = xs.length - i ∧ i ≤ xs.length ∧ ∃ ys G, Ext H1 G1 H G ∧ HpOk X.K X.mg H G ∧ G p = some (.lst ys) ∧ P i ys G, ⟨xs.length, by simp, Nat.zero_le _, [], _, n1, HpOk.new g1 hp (.lst upd_same .nil), upG_same, p0⟩, fun i m Hi ⟨em, hi, ys, Gi, e, gi, gp, pi⟩ => ?_⟩
  have ei := e1.trans e
  by_cases hlt : i < xs.length
  · have hx : xs[i]? = some xs[i] := List.getElem?_eq_getElem hlt
    obtain ⟨hS, hstep⟩ := turn i _ ys Gi hx gp pi
    obtain ⟨hgo, hyld⟩ := IJ.go i _ Hi Gi hx e gi hS
    refine .inr ⟨hgo, fun H' => ∃ ys G, Ext H1 G1 H' G ∧ HpOk X.K X.mg H' G ∧ G p = some (.lst ys) ∧ P (i + 1) ys G, fun H' ⟨ys', G', e', g', gp', p'⟩ => ⟨xs.length - (i + 1), by omega, rfl, hlt, ys', G', e', g', gp', p'⟩, fun v H' hy => ?_⟩
    obtain ⟨e2, g2, r2⟩ := hyld v H' hy
    have e12 := ei.trans e2
    refine ho _ v _ H' _ Gi _ _ ((hs.wipe _).ext e12) g2 r2 hstep fun δ2 σ2 h2 s2 w2 => ⟨?_, ?_⟩
    · refine w2.trans ?_
      clear w2 s2 h2
      have idem : ∀ us : List Nat, (∀ u ∈ us, u ∈ own.map (·.2)) → L2.wipe (L2.wipe σ (own.map (·.2))) us = L2.wipe σ (own.map (·.2)) := fun us => by
        induction us with
        | nil => intro _; rfl
        | cons u us ih =>
          intro hu
          show (L2.wipe (L2.wipe σ (own.map (·.2))) us).set u none = _
          rw [ih fun w hw => hu w (List.mem_cons_of_mem _ hw)]
          have hmem := hu u List.mem_cons_self
          generalize own.map (·.2) = ws at hmem
          induction ws with
          | nil => cases hmem
          | cons w ws ihw =>
            show ((L2.wipe σ ws).set w none).set u none = (L2.wipe σ ws).set w none
            by_cases ew : u = w
            · subst ew; rw [List.set_set]
            · rw [List.set_comm _ _ (Ne.symm ew), ihw ((List.mem_cons.mp hmem).resolve_left ew)]
      exact idem _ fun _ h => h
    · refine ⟨W0, δ2, Gi, _, s2, g2, h2, fun b G3 H3 h3 e3 g3 => ?_, fun ex δ' G' σ' H' cls dd hw => hw.elim⟩
      cases b with
      | true =>
        replace h3 := ite_t h3
        refine iteT ?_
        refine ⟨W0, δ2, G3, _, s2.ext e3, g3, h3, fun y G4 H4 v4 ⟨gp4, hl4, p4⟩ e4 g4 r4 => ?_, fun ex δ' G' σ' H' cls dd hw => hw.elim⟩
        have ob := g4 p _ gp4
        cases ob with
        | lst ep rp =>
          rename_i acc
          have wr := Ext.write (H := H4) (o := .lst (ys ++ [y])) (u := .lst (acc ++ [v4])) gp4
          exact ⟨acc, ep, by rw [← rp.length]; exact hl4, ys ++ [y], _, (((e.trans e2).trans e3).trans e4).trans wr, g4.upd wr (.lst upd_same ((rp.append (.one r4)).ext wr)), upG_same, p4⟩
      | false =>
        replace h3 := ite_f h3
        refine iteF ?_
        exact ⟨ys, G3, (e.trans e2).trans e3, g3, h3.1, h3.2⟩
  · have ei' : i = xs.length := by omega
    subst ei'
    obtain ⟨hS, hn⟩ := fn ys Gi gp pi
    obtain ⟨d, G', hR, ex', hg', rp'⟩ := hf p ys Hi Gi R gi gp hn
    exact .inl ⟨IJ.stop Hi Gi e gi hS, lQ d G' Hi _ hR (ei.trans ex') hg' rp'⟩
theorem pd_lcG (hN : X.N.Nodup) (hi : PDI X lv true tg iter it) (ok : BlkOk X.N X.env.scope scope own) (hgt : LcTg X scope tg g (own.map (·.2))) (ht : ∀ (s : Shared) (H : Hp) (C : Addr) (cl : List (Str × Addr)) (fp : List Addr), PDTs (blkX X scope s H C cl fp) lv true ifs tt)
    (he : ∀ (s : Shared) (H : Hp) (C : Addr) (cl : List (Str × Addr)) (fp : List Addr), PD (blkX X scope s H C cl fp) lv true elt te) (hf : FinOk X fin) (hs : ∀ x, foldedSetIterable iter X.env x = pure x := by intro _; rfl) :
    PD X lv true (.ListComp elt [⟨tg, iter, ifs, 0⟩] scope pos) (lcLoop it g tt te (own.map (·.2)) fin) := fun gd Wx tk => by
  obtain ⟨hg, pg, ho⟩ := hgt (gd.cl rfl)
  exact pe_imp (pe_lc (gd.cl rfl) hN (hi gd Wx tk) ok pg (fun s H C cl fp => ht s H C cl fp (gd.blk scope s H C cl fp) WF takesF) (fun s H C cl fp => he s H C cl fp (gd.blk scope s H C cl fp) WF takesF) hs) fun σ H Q h => up_lc ho hf h
/-- name = [..] on one line -/
theorem pds_setLcG {i : Nat} {y : Str} {py spos : Pos} (hN : X.N.Nodup) (hy : X.N[i]? = some y) (hyl : X.env.scope.names.lookup y = some .local) (hsw : swapsWith (.ListComp elt [⟨tg, iter, ifs, 0⟩] scope pos) (some (.Name y py)) spos.line X.env = pure true)
    (hi : PDI X lv true tg iter it) (ok : BlkOk X.N X.env.scope scope own) (hgt : LcTg X scope tg g (own.map (·.2))) (ht : ∀ (s : Shared) (H : Hp) (C : Addr) (cl : List (Str × Addr)) (fp : List Addr), PDTs (blkX X scope s H C cl fp) lv true ifs tt)
    (he : ∀ (s : Shared) (H : Hp) (C : Addr) (cl : List (Str × Addr)) (fp : List Addr), PD (blkX X scope s H C cl fp) lv true elt te) (hf : FinOk X fin) (hs : ∀ x, foldedSetIterable iter X.env x = pure x := by intro _; rfl) :
    PDS X lv true (.Assign [.Name y py] (.ListComp elt [⟨tg, iter, ifs, 0⟩] scope pos) spos) (dAsg (lcLoop it g tt te (own.map (·.2)) fin) (gdName i)) := fun gd Wx tk => by
  obtain ⟨hg, pg, ho⟩ := hgt (gd.cl rfl)
  exact ps_imp (ps_setLc (gd.cl rfl) hN hy hyl hsw (hi gd Wx tk) ok pg (fun s H C cl fp => ht s H C cl fp (gd.blk scope s H C cl fp) WF takesF) (fun s H C cl fp => he s H C cl fp (gd.blk scope s H C cl fp) WF takesF) hs)
    fun D σ H ⟨DD, δ, G, hst, hgh, h, l1, l2, l3, l4, l5⟩ => up_lc ho hf (Q := fun x H1 => gName i x σ H1 D.nx) ⟨DD.ex, δ, G, _, hst, hgh, h, fun d G1 H1 v h1 e1 g1 r1 => l1 _ G1 _ H1 h1 e1 ((hst.ext e1).set i r1) g1, l5⟩
end
end DL

namespace DL
open L2 PyProof.Rows PySem PySem.Spec

/-! ### 11. defs and their calls -/
/-- what a def of the text promises, where no repr runs -/
structure FnG (P : Program) (w : World) (K : PySem.W.Frag) (mg : Str → Option Value) (base : Heap) (k : Nat) (f : Addr) (fd : FuncData) (ps : List Str) (sp : Sp) : Prop where
  len : ∀ vs H Q E, sp vs H Q E → vs.length = ps.length
  run : ∀ (A : Around) (outer : List Env) (s : Shared) (H : Hp) (args : Args) (us : List Value) (vs : List V) (Q : VK) (E : XK), Room k A → A.guards = some [] → Env0 P w K mg base A outer s H → BindsTo s fd args (ps.zip us) → Vals vs us → sp vs H Q E →
    codeAny (model P w) A (.call (.ref f) args) (CR (L2.CX P w) outer P w H s Q E) s
/-- a promise over trees, as one over values -/
abbrev DSp := List D → DH → DQ → (Exn → DH → Prop) → Prop
def upSp (K : PySem.W.Frag) (mg : Str → Option Value) (sp : DSp) : Sp := fun vs H Q E => ∃ (ds : List D) (G : DH) (R : DQ) (RE : Exn → DH → Prop), RpL K mg H G ds vs ∧ HpOk K mg H G ∧ sp ds G R RE ∧
  (∀ d G' H' v, R d G' → Ext H G H' G' → HpOk K mg H' G' → Rp K mg H' G' d v → Q v H') ∧
  ∀ x G' H' cls dd, RE x G' → Ext H G H' G' → HpOk K mg H' G' → ExOk K mg H' G' x cls dd → E cls dd H'
mutual
/-- the same data, live lists let go -/
inductive FzV (G1 G' : DH) : D → D → Prop
  | same (d : D) : FzV G1 G' d d
  | lst {a : Addr} {xs ys : List D} : G1 a = some (.lst xs) → G' a = none → FzL G1 G' xs ys → FzV G1 G' (.ref a) (.lst ys)
  | dct {a : Addr} {xs ys : List (Key × D)} : G1 a = some (.dct xs) → G' a = none → FzK G1 G' xs ys → FzV G1 G' (.ref a) (.dct ys)
  | ins {a : Addr} {c : CI} {xs ys : List D} : G1 a = some (.ins c xs) → xs.length = c.fl.length → G' a = none → FzL G1 G' xs ys → FzV G1 G' (.ref a) (.ins c ys)
  | tup {xs ys : List D} : FzL G1 G' xs ys → FzV G1 G' (.tup xs) (.tup ys)
  | lstI {xs ys : List D} : FzL G1 G' xs ys → FzV G1 G' (.lst xs) (.lst ys)
inductive FzL (G1 G' : DH) : List D → List D → Prop
  | nil : FzL G1 G' [] []
  | cons {x y : D} {xs ys : List D} : FzV G1 G' x y → FzL G1 G' xs ys → FzL G1 G' (x :: xs) (y :: ys)
inductive FzK (G1 G' : DH) : List (Key × D) → List (Key × D) → Prop
  | nil : FzK G1 G' [] []
  | cons {k : Key} {x y : D} {xs ys : List (Key × D)} : FzV G1 G' x y → FzK G1 G' xs ys → FzK G1 G' ((k, x) :: xs) ((k, y) :: ys)
end
theorem FzL.same {G1 G' : DH} : ∀ xs : List D, FzL G1 G' xs xs
  | [] => .nil
  | x :: xs => .cons (.same x) (FzL.same xs)
theorem FzK.same {G1 G' : DH} : ∀ xs : List (Key × D), FzK G1 G' xs xs
  | [] => .nil
  | (k, x) :: xs => .cons (.same x) (FzK.same xs)
section
variable {K : PySem.W.Frag} {mg : Str → Option Value} {H : Hp} {G1 G' : DH}
mutual
theorem FzV.rp (s : Sub G' G1) (hg : HpOk K mg H G1) : ∀ {d e : D} {v : V}, FzV G1 G' d e → Rp K mg H G1 d v → Rp K mg H G' e v
  | _, _, _, .same d, r => r.ext s.ext
  | _, _, _, .lst h1 h2 h3, r => by
    cases r
    have ob := hg _ _ h1
    cases ob with
    | lst e ra => exact .lst h2 e (FzL.rp s hg h3 ra)
  | _, _, _, .dct h1 h2 h3, r => by
    cases r
    have ob := hg _ _ h1
    cases ob with
    | dct e ra => exact .dct h2 e (FzK.rp s hg h3 ra)
  | _, _, _, .ins h1 hl h2 h3, r => by
    cases r
    have ob := hg _ _ h1
    cases ob with
    | ins m e n ra => exact .ins m h2 e (by rw [n, hl, List.take_length]) (FzL.rp s hg h3 ra)
  | _, _, _, .tup h, r => by
    cases r with
    | tup e ra => exact .tup (e.ext s.ext) (FzL.rp s hg h ra)
  | _, _, _, .lstI h, r => by
    cases r with
    | lst g e ra => exact .lst (s.none g) e (FzL.rp s hg h ra)
theorem FzL.rp (s : Sub G' G1) (hg : HpOk K mg H G1) : ∀ {d e : List D} {v : List V}, FzL G1 G' d e → RpL K mg H G1 d v → RpL K mg H G' e v
  | _, _, _, .nil, r => by cases r; exact .nil
  | _, _, _, .cons h t, r => by
    cases r with
    | cons r rr => exact .cons (FzV.rp s hg h r) (FzL.rp s hg t rr)
theorem FzK.rp (s : Sub G' G1) (hg : HpOk K mg H G1) : ∀ {d e : List (Key × D)} {v : List (Key × V)}, FzK G1 G' d e → RpK K mg H G1 d v → RpK K mg H G' e v
  | _, _, _, .nil, r => by cases r; exact .nil
  | _, _, _, .cons h t, r => by
    cases r with
    | cons r rr => exact .cons (FzV.rp s hg h r) (FzK.rp s hg t rr)
end
end
/-- what a body is to reach -/
def bodyEnds (Q : DQ) (E : Exn → DH → Prop) : DEnds where
  nx := fun _ G1 => ∃ G2, Sub G2 G1 ∧ Q .non G2
  rt := fun d G1 => ∃ d2 G2, Sub G2 G1 ∧ FzV G1 G2 d d2 ∧ Q d2 G2
  ex := fun x _ G1 => ∃ G2, Sub G2 G1 ∧ E x G2
def slots (N : List Str) (ds : List D) : Sl := ds.map some ++ List.replicate (N.length - ds.length) none

section
variable {P : Program} {w : World} {K : PySem.W.Frag} {mg : Str → Option Value} {base : Heap} {k : Nat} {f : Addr} {qual : Str} {scope : Scope} {cdv : Value} {N ps : List Str}
/-- the promise from the body's reading -/
theorem fnG_of {name : Str} {params : Arguments} {body : List Stmt} {dV kV doc pm ct oc : Value} {an od : Option Addr} {osl : Array (Option Value)} {sp : DSp} {rd : DS}
    (lk : K.lookup f = some ⟨oc, od, .func (PySem.W.fnOf name qual params body scope dV kV doc pm an cdv ct), osl⟩) (hcd : PySem.W.codeIn K cdv qual = true) (S : FnScope N ps scope)
    (len : ∀ ds G Q E, sp ds G Q E → ds.length = ps.length)
    (hb : ∀ (A : Around) (outer : List Env) (s : Shared) (H : Hp) (E : XK), PDSs (cxOf (L2.CX P w) P w K mg base N qual scope f cdv A outer s H E) k true body rd)
    (hsp : ∀ ds G Q E, sp ds G Q E → rd (bodyEnds Q E) (slots N ds) G) :
    FnG P w K mg base (k + 1) f (PySem.W.fnOf name qual params body scope dV kV doc pm an cdv ct) ps (upSp K mg sp) := by
  have lenV : ∀ vs H Q E, upSp K mg sp vs H Q E → vs.length = ps.length := fun vs H Q E ⟨ds, G, R, RE, r, _, h, _⟩ => r.length.symm.trans (len _ _ _ _ h)
  refine ⟨lenV, fun A outer s H args us vs Q E hr hgd e0 hbt rv hs => ?_⟩
  have hl := lenV _ _ _ _ hs
  have inK : K.In s.heap := e0.mod.kin.keeps (fun b o e => (e0.bs b o e).1)
  have nolim : s.heap.NoLimit := e0.mod.nolimit.keeps (fun b o e => (e0.bs b o e).1)
  refine codeAny_call_function hr.depth (inK _ _ lk) rfl S.co S.gen rfl (PySem.W.codeRec_of inK hcd) (hbt _ _ _ _ ?_)
  refine wpAny_newFunctionEnv_cells S.kind (fun ⟨n, v⟩ hy => ?_) (fun env he s1 x => ?_)
  · rcases S.par n (List.of_mem_zip hy).1 with q | q
    · exact .inl q
    · exact .inr ⟨q, PySem.W.cellsFrom_some _ _ _ (.inl q)⟩
  subst he
  refine ⟨nolim.keeps x.toInCall.keep, codeAny_func ?_⟩
  generalize hX : cxOf (L2.CX P w) P w K mg base N qual scope f cdv A outer s H E = X
  have I : Inv X [] (start N vs) H s1 := by rw [← hX]; exact inv_start S hr.hd e0 hl rv x
  have gdX : Gd X k true := by
    subst hX
    exact ⟨hgd, (hr.deeper _).dp, (hr.deeper _).un, fun _ => hr.hd, fun _ => rfl, passes_of rfl⟩
  have tkX : Takes X (fun cls d _ H' => E cls d H') := by
    subst hX
    exact takes_of rfl rfl rfl rfl
  have hbX := hb A outer s H E
  rw [hX] at hbX
  have XK' : X.K = K := by rw [← hX] <;> rfl
  have Xmg : X.mg = mg := by rw [← hX] <;> rfl
  obtain ⟨ds, G, R, RE, rd0, hg, hsp0, lQ, lE⟩ := hs
  have goal := (hbX gdX _ tkX).run [] s1 (start N vs) H { nx := fun _ H' => Q .non H', rt := Q } I
    ⟨bodyEnds R RE, slots N ds, G, by rw [XK', Xmg]; exact StOk.start rd0, by rw [XK', Xmg]; exact hg, hsp _ _ _ _ hsp0,
      fun δ' G1 σ' H' ⟨G2, sb, q⟩ e _ g => by rw [XK', Xmg] at g; exact lQ _ G2 H' _ q (e.trans sb.ext) (g.sub sb) .non,
      fun d G1 H' v ⟨d2, G2, sb, fz, q⟩ e g r => by rw [XK', Xmg] at g r; exact lQ d2 G2 H' v q (e.trans sb.ext) (g.sub sb) (fz.rp sb g r),
      fun _ _ _ _ z => z.elim, fun _ _ _ _ z => z.elim,
      fun y δ' G1 σ' H' cls dd ⟨G2, sb, q⟩ e _ g xo => by rw [XK', Xmg] at g xo; exact lE y G2 H' cls dd q (e.trans sb.ext) (g.sub sb) (xo.ext sb.ext)⟩
  have hP : X.prog = P := by rw [← hX] <;> rfl
  have hw : X.w = w := by rw [← hX] <;> rfl
  have hA : X.A = A.deeper (envOfC qual scope s.heap.objs.size f cdv) := by rw [← hX] <;> rfl
  have hE : X.env = envOfC qual scope s.heap.objs.size f cdv := by rw [← hX] <;> rfl
  have hs0 : X.s_0 = s ∧ X.H_0 = H ∧ X.outer = outer ∧ X.ex = [] := by rw [← hX] <;> exact ⟨rfl, rfl, rfl, rfl⟩
  have hxe : X.xe = fun e s' => wpAny (model P w) (A.deeper (envOfC qual scope s.heap.objs.size f cdv)) (leaving (envOfC qual scope s.heap.objs.size f cdv) e) (fun _ s'' => L2.CX P w outer H s E e s'') (fun e' s'' => L2.CX P w outer H s E e' s'') s' := by rw [← hX] <;> rfl
  rw [hP, hw, hA, hE, hxe] at goal
  refine wpAny_mono goal (fun fl s' q => ?_) (fun _ _ q => q)
  have fin : ∀ {σ' : L2.St} {H' : Hp} {v : V} {u : Value}, Inv X [] σ' H' s' → RelV v u → Q v H' → CE outer P w H s Q u s' := fun {σ' H' v u} J r q => by
    have h1 := J.os
    have h2 := J.base
    have h3 := J.hok
    rw [hs0.1] at h1
    rw [hs0.1, hs0.2.1, hs0.2.2.2, show X.fs = frs outer from by show frs X.outer = _; rw [hs0.2.2.1]] at h2
    rw [hP, hw] at h3
    exact ⟨v, H', h1, J.bare, h2, h3, r, q⟩
  cases fl with
  | ret u => obtain ⟨v, σ', H', J, r, q⟩ := q; exact fin J r q
  | next => obtain ⟨σ', H', J, q⟩ := q; exact fin (v := V.non) (u := Value.none) J rfl q
  | brk => obtain ⟨_, _, _, q⟩ := q; exact q.elim
  | cont => obtain ⟨_, _, _, q⟩ := q; exact q.elim
end

/-- a def of the top by its name -/
structure HasF (P : Program) (w : World) (K : PySem.W.Frag) (mg : Str → Option Value) (base : Heap) (x : Str) (k : Nat) (ps : List Str) (sp : DSp) : Prop where
  ex : ∃ (f : Addr) (fd : FuncData), mg x = some (.ref f) ∧ PySem.W.keepIn K (.ref f) = true ∧ Binds K fd ps [] ∧ FnG P w K mg base k f fd ps (upSp K mg sp)
abbrev HasFX (X : Cx) (x : Str) (k : Nat) (ps : List Str) (sp : DSp) : Prop := HasF X.prog X.w X.K X.mg X.base x k ps sp
/-- the callee's promise is asked -/
def Ap (sp : DSp) (ds : List D) (G : DH) (Q : DQ) (E : Exn → DH → Prop) (_ : Shut Q E) : Prop := sp ds G Q E
def dCall (sp : DSp) (t : DA) : DE := fun W δ G Q => t W δ G fun ds G1 => Ap sp ds G1 Q (fun x G2 => W x δ G2) .mk
section
variable {X : Cx} {lv k : Nat} {f : Addr} {fd : FuncData} {ps : List Str} {sp : DSp}
/-- the callee runs: Wx takes what it lets out -/
theorem run_fnG {pins : List (Addr × Obj)} {σ : L2.St} {H : Hp} {s : Shared} {Q : VK} {us ds : List Value} {vs dvs : List V} {S : Sp} {Wx : WX} (F : FnG X.prog X.w X.K X.mg X.base k f fd ps S) (gd : Gd X lv true) (hk : k ≤ lv) (tk : Takes X Wx) (hb : Binds X.K fd ps ds) (hd : Vals dvs ds)
    (I : Inv X pins σ H s) (r : Vals vs us) (h : S (vs ++ dvs) H Q (fun cls dd H' => Wx cls dd σ H')) : wpAny (model X.prog X.w) X.A (call (.ref f) us) (EP X pins σ Q) X.xe s := by
  have rr : Vals (vs ++ dvs) (us ++ ds) := r.append hd
  refine wpAny_call (codeAny_mono (F.run X.A X.stack s H ⟨us, []⟩ (us ++ ds) (vs ++ dvs) Q _ (gd.room.mono hk) gd.gu I.env0 (hb s us I.kIn ((rr.length.symm).trans (F.len _ _ _ _ h))) rr h) (fun y s' hq => ?_))
  match y, hq with
  | .error e, hq => exact passAt tk σ pins H s e s' I hq
  | .ok (.ret u), hq => exact I.after hq
  | .ok .next, hq => exact hq.elim
  | .ok .brk, hq => exact hq.elim
  | .ok .cont, hq => exact hq.elim
/-- from trees to values at a call -/
theorem up_sp {Wx : WX} {W : DW} {δ : Sl} {σ : L2.St} {H : Hp} {G : DH} {ds : List D} {vs : List V} {Q : VK} {R : DQ} (hs : StOk X.K X.mg H G δ σ) (hg : HpOk X.K X.mg H G) (r : RpL X.K X.mg H G ds vs) (h : sp ds G R fun x G2 => W x δ G2)
    (lQ : ∀ d G' H' v, R d G' → Ext H G H' G' → HpOk X.K X.mg H' G' → Rp X.K X.mg H' G' d v → Q v H')
    (lW : ∀ ex δ' G' σ' H' cls dd, W ex δ' G' → Ext H G H' G' → StOk X.K X.mg H' G' δ' σ' → HpOk X.K X.mg H' G' → ExOk X.K X.mg H' G' ex cls dd → Wx cls dd σ' H') :
    upSp X.K X.mg sp vs H Q (fun cls dd H' => Wx cls dd σ H') :=
  ⟨ds, G, R, _, r, hg, h, lQ, fun x G' H' cls dd hx e g xo => lW x δ G' σ H' cls dd hx e (hs.ext e) g xo⟩
theorem pd_call {x : Str} {e : Expr} {es : List Expr} {t : DA} {p pos : Pos} (F : HasFX X x k ps sp) (hk : k ≤ lv) (ha : PDA X lv true (e :: es) t) (hg : Gl X x := by rfl) (hdb : (x == ("__debug__" : Str)) = false := by decide)
    (he : starEach (e :: es) X.env = (false, eval e X.env) :: starEach es X.env := by rfl) (hpl : (backTo pos (starEach es X.env)).any (·.1) = false := by rfl) : PD X lv true (.Call (.Name x p) (e :: es) [] pos) (dCall sp t) := fun gd Wx tk => by
  obtain ⟨f, fd, hm, kp, hb, F⟩ := F.ex
  refine ⟨fun pins s σ H Q I ⟨W, δ, G, R, hs, hgo, ht, lQ, lW⟩ => ?_⟩
  refine wpAny_Call_Name_kw (ld_glob I hg hm ?_ hdb)
  refine PySem.W.callWith_K (h₀ := X.base) I.ok.mod.kin kp (thn ((ha gd Wx tk).run pos pins s σ H (fun vs H1 => upSp X.K X.mg sp vs H1 Q (fun cls dd H' => Wx cls dd σ H')) I ⟨W, δ, G, _, hs, hgo, ht, fun ds G1 H1 vs h1 e1 g1 r1 =>
    up_sp (hs.ext e1) g1 r1 h1 (fun d G' H' v hd e2 => lQ d G' H' v hd (e1.trans e2)) (fun ex δ' G' σ' H' cls dd hw e2 => lW ex δ' G' σ' H' cls dd hw (e1.trans e2)), lW⟩) fun us s1 ⟨vs, H1, I1, r, q⟩ => ⟨I1.kIn, ?_⟩) he hpl
  exact run_fnG (ds := []) (dvs := []) F gd hk tk hb .nil I1 r (by rw [List.append_nil]; exact q)
theorem pd_call0 {x : Str} {p pos : Pos} (F : HasFX X x k ps sp) (hk : k ≤ lv) (hg : Gl X x := by rfl) (hdb : (x == ("__debug__" : Str)) = false := by decide) : PD X lv true (.Call (.Name x p) [] [] pos) (dCall sp dNil) := fun gd Wx tk => by
  obtain ⟨f, fd, hm, kp, hb, F⟩ := F.ex
  refine ⟨fun pins s σ H Q I ⟨W, δ, G, R, hs, hgo, ht, lQ, lW⟩ => ?_⟩
  refine wpAny_Call_Name_kw (ld_glob I hg hm ?_ hdb)
  exact PySem.W.callWith_K0 I.kIn kp (run_fnG (us := []) (vs := []) (ds := []) (dvs := []) F gd hk tk hb .nil I .nil (up_sp hs hgo .nil ht lQ lW))
end
/-- a def by its statement -/
theorem fnG_FunD {P : Program} {w : World} {K : PySem.W.Frag} {mg : Str → Option Value} {base : Heap} {k : Nat} {f : Addr} {fd : FuncData} {x qual : Str} {params : Arguments} {body : List Stmt} {scope : Scope} {N ps : List Str} {dvs : List V} {kws : List (Str × V)} {sp : DSp} {rd : DS}
    (F : FunD K x qual params body scope dvs kws f fd) (S : FnScope N ps scope) (len : ∀ ds G Q E, sp ds G Q E → ds.length = ps.length)
    (hb : ∀ (cdv : Value) (A : Around) (outer : List Env) (s : Shared) (H : Hp) (E : XK), PDSs (cxOf (L2.CX P w) P w K mg base N qual scope f cdv A outer s H E) k true body rd)
    (hsp : ∀ ds G Q E, sp ds G Q E → rd (bodyEnds Q E) (slots N ds) G) : FnG P w K mg base (k + 1) f fd ps (upSp K mg sp) := by
  obtain ⟨oc, od, dV, kV, doc, pm, an, cdv, ct, osl, rfl, lk, hcd, hD, hK⟩ := F.ex
  exact fnG_of lk hcd S len (hb cdv) hsp
/-- a def whose parameters are all written, over its statement -/
theorem hasF_of {P : Program} {w : World} {K : PySem.W.Frag} {mg : Str → Option Value} {base : Heap} {k : Nat} {f : Addr} {fd : FuncData} {x qual : Str} {params : Arguments} {body : List Stmt} {scope : Scope} {N ps : List Str} {sp : DSp} {rd : DS}
    (hm : mg x = some (.ref f)) (F : FunD K x qual params body scope [] [] f fd) (S : FnScope N ps scope)
    (hbd : ∀ (kV doc pm : Value) (an : Option Addr) (cdv ct : Value) (us : List Value), us.length = ps.length → bindArgs (PySem.W.fnOf x qual params body scope .none kV doc pm an cdv ct) ⟨us, []⟩ = pure (ps.zip us))
    (len : ∀ ds G Q E, sp ds G Q E → ds.length = ps.length)
    (hb : ∀ (cdv : Value) (A : Around) (outer : List Env) (s : Shared) (H : Hp) (E : XK), PDSs (cxOf (L2.CX P w) P w K mg base N qual scope f cdv A outer s H E) k true body rd)
    (hsp : ∀ ds G Q E, sp ds G Q E → rd (bodyEnds Q E) (slots N ds) G) : HasF P w K mg base x (k + 1) ps sp :=
  ⟨f, fd, hm, F.kp, F.bindsN hbd, fnG_FunD F S len hb hsp⟩
theorem funD_mk {K : PySem.W.Frag} {x qual : Str} {params : Arguments} {body : List Stmt} {scope : Scope} {f : Addr} {oc kV doc pm cdv ct : Value} {od an : Option Addr} {osl : Array (Option Value)}
    (l : K.lookup f = some ⟨oc, od, .func (PySem.W.fnOf x qual params body scope .none kV doc pm an cdv ct), osl⟩) (c : PySem.W.codeIn K cdv qual = true) (k : PySem.W.keepIn K (.ref f) = true) :
    FunD K x qual params body scope [] [] f (PySem.W.fnOf x qual params body scope .none kV doc pm an cdv ct) :=
  ⟨⟨oc, od, .none, kV, doc, pm, an, cdv, ct, osl, rfl, l, c, .inl ⟨rfl, rfl⟩, .inl rfl⟩, k⟩
end DL

namespace DL
open L2 PyProof.Rows PySem PySem.Spec

/-! ### 12. the end: the law's own call -/
theorem law_callG {P : Program} {w : World} {K : PySem.W.Frag} {mg mb : Str → Option Value} {k : Nat} {fa a : Addr} {fd : FuncData} {x : Str} {sp : Sp} {s₁ : Shared} {vs : List Value} {ns : List Int}
    (KX : K.In s₁.heap) (hns : s₁.heap.Ns mainGlobals mg) (hb : s₁.heap.Ns builtinsNs mb) (hbb : ∀ x : Str, x ≠ "__name__" → mb x = bootBuiltins x) (hlim : s₁.heap.NoLimit) (hg : s₁.gens = #[])
    (ha : s₁.heap.get? a = some { cls := .type "list", data := .seq vs.toArray }) (hi : IntsAre vs ns) (hl : ns.length ≤ sizeLine) (hr : Room k callerA)
    (F : ∀ base : Heap, K.In base → base.Ns mainGlobals mg → FnG P w K mg base k fa fd [x] sp) (hbind : ∀ (s : Shared) (u : Value), BindsTo s fd ⟨[u], []⟩ [(x, u)])
    (hsp : ∀ H : Hp, Only H → SqL K H a (ns.map V.int) → sp [.ref a] H (fun v _ => v = .bl true) fun _ _ _ => False) :
    codeAny (model P w) callerA (.call (.ref fa) ⟨[.ref a], []⟩) (fun r s' => r = .ok (.ret (.bool true)) ∧ OldK s₁.heap s'.heap ∧ s'.os = s₁.os ∧ AllBare s'.gens) s₁ := by
  have rv := vals_ints hi
  have lenV := hi.length
  have core : ∀ H : Hp, Only H → SqL K H a (ns.map V.int) → HOk P w H s₁.heap → (∀ b, H b ≠ none → b = a) → (H a ≠ none → K.lookup a = none) →
      codeAny (model P w) callerA (.call (.ref fa) ⟨[.ref a], []⟩) (fun r s' => r = .ok (.ret (.bool true)) ∧ OldK s₁.heap s'.heap ∧ s'.os = s₁.os ∧ AllBare s'.gens) s₁ := fun H hO hS hok hA hK => by
    have stands : ∀ {b : Addr} {o : Obj}, s₁.heap.get? b = some o → H b = none → (hidT s₁.heap H).get? b = some o := fun e n => hidT_get e n
    have plain : ∀ {b : Addr} {o : Obj} {es : Array DictEntry} {ep : Nat}, s₁.heap.get? b = some o → o.data = .dict es ep → H b = none := fun {b o es ep} e d => by
      refine Classical.byContradiction fun q => ?_
      cases hA b q
      rw [ha] at e
      cases e
      cases (show Data.seq vs.toArray _ = Data.dict es ep from d)
    have names : ∀ {b : Addr} {m : Str → Option Value}, s₁.heap.Ns b m → (hidT s₁.heap H).Ns b m := fun {b m} ⟨o, es, ep, e, d, r⟩ => ⟨o, es, ep, stands e (plain e d), d, r⟩
    have kb : K.In (hidT s₁.heap H) := fun b o e => stands (KX b o e) (Classical.byContradiction fun q => by
      cases hA b q
      rw [hK q] at e
      cases e)
    have md : Mod K mg (hidT s₁.heap H) := ⟨kb, names hns, ⟨mb, names hb, hbb⟩, by obtain ⟨mc, h1, h2⟩ := hlim; exact ⟨mc, names h1, h2⟩⟩
    have e0 : Env0 P w K mg (hidT s₁.heap H) callerA [] s₁ H := ⟨rfl, md, (fun b o e => of_hidT e), Nat.le_of_eq (hidT_size _ _), trivial, (fun b hb => nomatch hb), hok, .of_eq hg⟩
    refine codeAny_mono ((F _ kb (names hns)).run callerA [] s₁ H ⟨[.ref a], []⟩ [.ref a] [.ref a] _ _ hr rfl e0 (hbind s₁ (.ref a)) (.cons rfl .nil) (hsp H hO hS)) (fun y s' h => ?_)
    match y, h with
    | .error e, h =>
      obtain ⟨_, _, _, _, _, _, _, _, _, _, _, _, z⟩ := (show L2.CX P w [] H s₁ (fun _ _ _ => False) e s' from h)
      exact z.elim
    | .ok .next, h => exact h.elim
    | .ok .brk, h => exact h.elim
    | .ok .cont, h => exact h.elim
    | .ok (.ret u), h =>
      obtain ⟨v, H', os, bare, un, hok', r', q⟩ := h
      subst q
      obtain rfl : u = Value.bool true := r'
      refine ⟨rfl, OldK.of_keep (fun b o e => ?_), os, bare⟩
      cases q : H b with
      | none => exact un.keep b o e q (fun z => nomatch z) (fun z => nomatch z)
      | some u =>
        rcases hO b with z | ⟨ob, xs, z⟩
        · rw [q] at z; cases z
        · have z2 := un.frzs b ob _ z
          have e1 := (hok b _ z).1
          rw [e] at e1; cases e1
          exact (hok' b _ z2).1
  by_cases hk : ∃ o, K.lookup a = some o
  · obtain ⟨o, hk⟩ := hk
    have e := KX a o hk
    rw [ha] at e
    cases e
    exact core (fun _ => none) (fun _ => .inl rfl) (.inr ⟨_, vs.toArray, _, hk, rfl, rfl, rfl, by rw [List.size_toArray, lenV]; exact hl, by simpa using rv⟩) (fun b u z => nomatch z) (fun b z => absurd rfl z) (fun z => absurd rfl z)
  · have hk' : K.lookup a = none := by
      cases q : K.lookup a with
      | none => rfl
      | some o => exact absurd ⟨o, q⟩ hk
    have hH : ∀ b, (fun b => if b = a then some (HO.frz { cls := .type "list", data := .seq vs.toArray } (.lst (ns.map V.int))) else none) b ≠ none → b = a := fun b z => Classical.byContradiction fun q => z (if_neg q)
    refine core _ (fun b => ?_) (.inl (.inr ⟨{ cls := .type "list", data := .seq vs.toArray }, if_pos rfl⟩)) (fun b u z => ?_) hH (fun _ => hk')
    · by_cases q : b = a
      · exact .inr ⟨_, _, if_pos q⟩
      · exact .inl (if_neg q)
    · cases hH b (fun y => by have y2 := z.symm.trans y; cases y2)
      rw [if_pos rfl] at z
      cases z
      exact ⟨ha, by rw [List.length_map]; exact hl, vs, _, rv, ha⟩
/-- the promise of a law: a list of at most n ints, each of at most 2 ^ 20 bits, is handed in, True comes back -/
def lawSp (n : Nat) : DSp := fun ds G Q _ => ∃ ns : List Int, ds = [.lsk (ns.map D.int)] ∧ ns.length ≤ n ∧ (∀ z ∈ ns, Builtin.Int.intBits z ≤ 1048576) ∧ ∀ G', Q (.bl true) G'
theorem rpL_ints {K : PySem.W.Frag} {mg : Str → Option Value} {H : Hp} {G : DH} : ∀ ns : List Int, RpL K mg H G (ns.map D.int) (ns.map V.int)
  | [] => .nil
  | n :: ns => .cons (.int n) (rpL_ints ns)
theorem rp_script {K : PySem.W.Frag} {mg : Str → Option Value} {H : Hp} {a : Addr} {ns : List Int} (hO : Only H) (h : SqL K H a (ns.map V.int)) : Rp K mg H (fun _ => none) (.lsk (ns.map D.int)) (.ref a) := by
  refine .lsk ?_ (rpL_ints ns)
  rcases h with (h | ⟨o, h⟩) | ⟨o, its, n, h⟩
  · rcases hO a with z | ⟨o, xs, z⟩
    · rw [z] at h; cases h
    · rw [z] at h; cases h
  · exact .inl ⟨rfl, o, h⟩
  · exact .inr ⟨o, its, n, h⟩
theorem walk_ofG {l : PySem.W.OpenLaw} {n k : Nat} {q : Program} {loose : List Str} {XP : (Str → Option Value) → Heap → Prop} {YP : World → Heap → Prop} {d : DefRec} {K : Params → PySem.W.Frag} {x : Str}
    (hn : l.most = some n) (hn2 : n ≤ sizeLine) (hdf : d.params.defaults = []) (hr : Room k callerA) (hY : ∀ (w : World) (h : Heap), YP w h → (K w.params).In h)
    (F : ∀ (w : World) (mg : Str → Option Value) (fa : Addr) (h : Heap), (K w.params).In h → h.Ns mainGlobals mg → mg d.name = some (.ref fa) →
      ∃ fd : FuncData, (∀ (s : Shared) (u : Value), BindsTo s fd ⟨[u], []⟩ [(x, u)]) ∧
        ∀ base : Heap, (K w.params).In base → base.Ns mainGlobals mg → FnG l.prog w (K w.params) mg base k fa fd [x] (upSp (K w.params) mg (lawSp n))) :
    PySem.W.WalkO q loose XP YP l.row.toRowW d [] (fun f vs => PySem.call f vs) := by
  refine Att.attach_callB hn hdf (fun w s₀ s₁ mg mb fa o pm cd doc a vs ns G Y ho hd hcd hmg hobj hints hlen hbits hg => ?_)
  have KX := hY w _ Y
  obtain ⟨fd, hb, hF⟩ := F w mg fa _ KX G.T.g hmg
  refine law_callG KX G.T.g G.T.b G.T.builtins G.T.nolimit hg hobj hints (Nat.le_trans hlen hn2) hr hF hb (fun H hO hS => ?_)
  refine ⟨_, fun _ => none, fun d _ => d = .bl true, fun _ _ => False, .cons (rp_script hO hS) .nil, (fun _ _ z => nomatch z), ⟨ns, rfl, hlen, hbits, fun _ => rfl⟩, fun d G' H' v e _ _ r => ?_, fun _ _ _ _ _ z => z.elim⟩
  subst e
  cases r
  rfl
end DL

namespace DL
open L2 PyProof.Rows PySem PySem.Spec

/-! ### 13. repr -/
def keyS : Key → Bool
  | .inl i => decide (i.natAbs.log2 < 1920)
  | .inr _ => true
mutual
/-- can be shown: nested at most n deep -/
def okS : Nat → D → Bool
  | _, .non => true
  | _, .bl _ => true
  | _, .int i => decide (i.natAbs.log2 < 1920)
  | _, .str _ => true
  | n, .tup xs => decide (1 ≤ n) && okSL (n - 1) xs
  | n, .lst xs => decide (1 ≤ n) && okSL (n - 1) xs
  | n, .lsk xs => decide (1 ≤ n) && okSL (n - 1) xs
  | n, .dct kvs => decide (1 ≤ n) && okSK (n - 1) kvs
  | _, _ => false
def okSL : Nat → List D → Bool
  | _, [] => true
  | n, x :: xs => okS n x && okSL n xs
def okSK : Nat → List (Key × D) → Bool
  | _, [] => true
  | n, (k, x) :: xs => keyS k && okS n x && okSK n xs
end
theorem okSL_iff {n : Nat} : ∀ {xs : List D}, okSL n xs = true ↔ ∀ x ∈ xs, okS n x = true
  | [] => by simp [okSL]
  | x :: xs => by simp [okSL, okSL_iff (xs := xs)]
mutual
theorem okS_depth : ∀ {n : Nat} {d : D}, okS n d = true → (py d).depth ≤ n
  | _, .non, _ => by simp [py, PyData.depth]
  | _, .bl b, _ => by simp [py, PyData.depth]
  | _, .int i, _ => by simp [py, PyData.depth]
  | _, .str s, h => by simp [py, PyData.depth]
  | n, .tup xs, h => by
    simp only [okS, Bool.and_eq_true, decide_eq_true_eq] at h
    have := okSL_depth h.2
    simp only [py, PyData.depth]
    omega
  | n, .lst xs, h => by
    simp only [okS, Bool.and_eq_true, decide_eq_true_eq] at h
    have := okSL_depth h.2
    simp only [py, PyData.depth]
    omega
  | n, .lsk xs, h => by
    simp only [okS, Bool.and_eq_true, decide_eq_true_eq] at h
    have := okSL_depth h.2
    simp only [py, PyData.depth]
    omega
  | n, .dct xs, h => by
    simp only [okS, Bool.and_eq_true, decide_eq_true_eq] at h
    have := okSK_depth h.2
    simp only [py, PyData.depth]
    omega
  | _, .ty _, h => by simp [okS] at h
  | _, .ins _ _, h => by simp [okS] at h
  | _, .cls _, h => by simp [okS] at h
  | _, .ref _, h => by simp [okS] at h
theorem okSL_depth : ∀ {n : Nat} {xs : List D}, okSL n xs = true → PyData.depthAll (pyL xs) ≤ n
  | _, [], _ => by simp [pyL, PyData.depthAll]
  | n, x :: xs, h => by
    simp only [okSL, Bool.and_eq_true] at h
    have h1 := okS_depth h.1
    have h2 := okSL_depth h.2
    simp only [pyL, PyData.depthAll]
    omega
theorem okSK_depth : ∀ {n : Nat} {xs : List (Key × D)}, okSK n xs = true → PyData.depthKv (pyK xs) ≤ n
  | _, [], _ => by simp [pyK, PyData.depthKv]
  | n, (.inl k, x) :: xs, h => by
    simp only [okSK, Bool.and_eq_true] at h
    have h1 := okS_depth h.1.2
    have h2 := okSK_depth h.2
    simp only [pyK, PyData.depthKv, PyData.depth]
    omega
  | n, (.inr k, x) :: xs, h => by
    simp only [okSK, Bool.and_eq_true] at h
    have h1 := okS_depth h.1.2
    have h2 := okSK_depth h.2
    simp only [pyK, PyData.depthKv, PyData.depth]
    omega
end
def pyKey : Key → PyData
  | .inl i => .int i
  | .inr s => .str s
theorem pyK_map : ∀ kvs : List (Key × D), pyK kvs = kvs.map fun kv => (pyKey kv.1, py kv.2)
  | [] => by simp only [pyK, List.map_nil]
  | (.inl k, x) :: xs => by simp only [pyK, List.map_cons, pyK_map xs, pyKey]
  | (.inr k, x) :: xs => by simp only [pyK, List.map_cons, pyK_map xs, pyKey]
section
variable {X : Cx} {pins : List (Addr × Obj)} {σ : L2.St} {H : Hp} {G : DH} {s : Shared}
/-- the text of a value: it can be read off, and shown -/
def Shw (X : Cx) (s : Shared) (p : PyData) (u : Value) : Prop := (∃ as, Reads s.heap u p as) ∧ (∃ bs, ReadAtMost s.heap p.depth bs ∧ ReprK X.prog X.w bs s.heap p.depth u p.shown) ∧
  ∀ a, u = .ref a → ∃ T idr, ShowsBy X.prog X.w s.heap a p T idr
def ShwL (X : Cx) (s : Shared) (p : List PyData) (us : List Value) : Prop := (∃ as, ReadsAll s.heap us p as) ∧ ∃ bs, ReadAtMost s.heap (PyData.depthAll p) bs ∧ ReprAllK X.prog X.w bs s.heap (PyData.depthAll p) us (PyData.shownAll p)
theorem Shw.non : Shw X s .none .none := ⟨⟨_, .none⟩, ⟨[], (fun _ h => nomatch h), by simp only [PyData.shown]; exact .of_is ReprIs.none _ _ _⟩, fun _ e => nomatch e⟩
theorem Shw.bl (b : Bool) : Shw X s (.bool b) (.bool b) := ⟨⟨_, .bool b⟩, ⟨[], (fun _ h => nomatch h), by simp only [PyData.shown]; exact .of_is (ReprIs.bool b) _ _ _⟩, fun _ e => nomatch e⟩
theorem Shw.int {i : Int} {t : Tok} (h : i.natAbs.log2 < 1920) : Shw X s (.int i) (.int i t) := ⟨⟨_, .int i t⟩, ⟨[], (fun _ h => nomatch h), by simp only [PyData.shown]; exact .of_is (ReprIs.int t h) _ _ _⟩, fun _ e => nomatch e⟩
theorem Shw.str {x : Str} {t : Tok} (h : (PyData.str x).shown.length ≤ sizeLine) : Shw X s (.str x) (.str x t) := ⟨⟨_, .str x t⟩, ⟨[], (fun _ h => nomatch h), by simp only [PyData.shown]; exact .of_is (ReprIs.str x t (by simpa only [PyData.shown] using h)) _ _ _⟩, fun _ e => nomatch e⟩
theorem Shw.key {k : Key} {v : Value} (h : keyIs k v = true) (hi : keyS k = true) (hz : (pyKey k).shown.length ≤ sizeLine) : Shw X s (pyKey k) v := by
  rcases keyIs_shape h with ⟨i, t, rfl, rfl⟩ | ⟨x, t, rfl, rfl⟩
  · exact .int (of_decide_eq_true hi)
  · exact .str hz
theorem ShwL.nil : ShwL X s [] [] := ⟨⟨_, .nil⟩, [], (fun _ h => nomatch h), by simp only [PyData.shownAll]; exact .nil⟩
theorem ShwL.cons {d : PyData} {u : Value} {ds : List PyData} {us : List Value} : Shw X s d u → ShwL X s ds us → ShwL X s (d :: ds) (u :: us) := fun ⟨⟨_, r⟩, ⟨b1, hb1, k1⟩, _⟩ ⟨⟨_, rs⟩, b2, hb2, k2⟩ => by
  refine ⟨⟨_, .cons r rs⟩, b1 ++ b2, ?_, ?_⟩
  · intro b hm
    simp only [PyData.depthAll]
    rcases List.mem_append.mp hm with hm | hm
    · obtain ⟨p, q, r1, r2⟩ := hb1 b hm
      exact ⟨p, q, r1, Nat.le_trans r2 (Nat.le_max_left _ _)⟩
    · obtain ⟨p, q, r1, r2⟩ := hb2 b hm
      exact ⟨p, q, r1, Nat.le_trans r2 (Nat.le_max_right _ _)⟩
  · simp only [PyData.depthAll, PyData.shownAll]
    exact .cons ((k1.more fun b hb => List.mem_append_left _ hb).level_le (Nat.le_max_left _ _)) (k2.more_le (fun b hb => List.mem_append_right _ hb) (Nat.le_max_right _ _))
theorem Shw.list {a : Addr} {o : Obj} {us : List Value} {n : Nat} {xs : List PyData} (h1 : s.heap.get? a = some o) (h2 : o.cls = .type "list") (h3 : o.data = .seq us.toArray n) (hl : ShwL X s xs us) (hz : (PyData.list xs).shown.length ≤ sizeLine) : Shw X s (.list xs) (.ref a) := by
  obtain ⟨⟨as, ra⟩, bs, hb, hk⟩ := hl
  have r : Reads s.heap (.ref a) (.list xs) _ := .list h1 h2 h3 ra
  have hna : a ∉ bs := not_mem_of_deeper r (by simp only [PyData.depth]; omega) hb
  have hz2 : (listText (PyData.shownAll xs)).length ≤ sizeLine := by simpa only [PyData.shown] using hz
  refine ⟨⟨_, r⟩, ⟨a :: bs, ReadAtMost.cons r (by simp only [PyData.depth]; omega) hb, ?_⟩, fun b e => ?_⟩
  · simp only [PyData.depth, PyData.shown]
    cases us with
    | nil =>
      cases ra
      simp only [PyData.shownAll, listText_nil]
      exact ReprK.listEmpty h1 h2 h3
    | cons x l => exact ReprK.list h1 h2 h3 hna (by simpa using hk.length_eq) (fun i y e => hk.item i y (by simpa using e))
  · cases e
    refine ⟨"list", "list.__repr__", F.slot_list_repr.toG, F.slot_list_str, F.slot_list_format, fun s2 hk0 => ⟨o, hk0 _ _ h1, h2⟩, fun A E s2 Q hg hu hk0 hQ => ?_⟩
    simp only [PyData.depth] at hu
    simp only [PyData.shown] at hQ
    cases us with
    | nil =>
      cases ra
      simp only [PyData.shownAll, listText_nil] at hQ
      exact call_list_repr_empty ⟨o, hk0 _ _ h1, h2⟩ (hk0 _ _ h1) h3 (hQ s2.heap _ _ fun _ _ e => e)
    | cons x l => exact call_list_reprK h1 h2 h3 hna (by simpa using hk.length_eq) (fun i y e => hk.item i y (by simpa using e)) hg (fun b _ => Clear.nil b) hu hk0 hQ hz2
theorem Shw.tuple {a : Addr} {o : Obj} {us : List Value} {n : Nat} {xs : List PyData} (h1 : s.heap.get? a = some o) (h2 : o.cls = .type "tuple") (h3 : o.data = .seq us.toArray n) (hl : ShwL X s xs us) (hz : (PyData.tuple xs).shown.length ≤ sizeLine) : Shw X s (.tuple xs) (.ref a) := by
  obtain ⟨⟨as, ra⟩, bs, hb, hk⟩ := hl
  have r : Reads s.heap (.ref a) (.tuple xs) _ := .tuple h1 h2 h3 ra
  have hna : a ∉ bs := not_mem_of_deeper r (by simp only [PyData.depth]; omega) hb
  have hz2 : (tupleText (PyData.shownAll xs)).length ≤ sizeLine := by simpa only [PyData.shown] using hz
  refine ⟨⟨_, r⟩, ⟨a :: bs, ReadAtMost.cons r (by simp only [PyData.depth]; omega) hb, ?_⟩, fun b e => ?_⟩
  · simp only [PyData.depth, PyData.shown]
    exact ReprK.tuple h1 h2 h3 hna hk
  · cases e
    refine ⟨"tuple", "tuple.__repr__", F.slot_tuple_repr, F.slot_tuple_str, F.slot_tuple_format, fun s2 hk0 => ⟨o, hk0 _ _ h1, h2⟩, fun A E s2 Q hg hu hk0 hQ => ?_⟩
    simp only [PyData.depth] at hu
    simp only [PyData.shown] at hQ
    exact call_tuple_reprK h1 h2 h3 hna hk hg (fun b _ => Clear.nil b) hu hk0 hQ hz2
theorem Shw.dict {a : Addr} {o : Obj} {es : Array DictEntry} {n : Nat} {kvs : List (PyData × PyData)} (hs : (a == sysModules) = false) (h1 : s.heap.get? a = some o) (h2 : o.cls = .type "dict") (h3 : o.data = .dict es n)
    (hk1 : ShwL X s (kvs.map (·.1)) (es.toList.map (·.key))) (hv1 : ShwL X s (kvs.map (·.2)) (es.toList.map (·.val))) (hz : (PyData.dict kvs).shown.length ≤ sizeLine) : Shw X s (.dict kvs) (.ref a) := by
  obtain ⟨⟨as, ra⟩, b1, hb1, k1⟩ := hk1
  obtain ⟨⟨cs, rc⟩, b2, hb2, k2⟩ := hv1
  have r : Reads s.heap (.ref a) (.dict kvs) _ := .dict h1 h2 h3 ra rc
  have hb : ReadAtMost s.heap (PyData.depthKv kvs) (b1 ++ b2) := (hb1.mono (PyData.depthAll_keys_le kvs)).append (hb2.mono (PyData.depthAll_vals_le kvs))
  have hna : a ∉ b1 ++ b2 := not_mem_of_deeper r (by simp only [PyData.depth]; omega) hb
  have hz2 : (dictText (PyData.shownKv kvs)).length ≤ sizeLine := by simpa only [PyData.shown] using hz
  have ke := ReprEntriesK.of_two es.toList _ _ (k1.more_le (fun b hb => List.mem_append_left _ hb) (PyData.depthAll_keys_le kvs)) (k2.more_le (fun b hb => List.mem_append_right _ hb) (PyData.depthAll_vals_le kvs))
  refine ⟨⟨_, r⟩, ⟨a :: (b1 ++ b2), ReadAtMost.cons r (by simp only [PyData.depth]; omega) hb, ?_⟩, fun b e => ?_⟩
  · simp only [PyData.depth, PyData.shown, PyData.shownKv_eq]
    exact ReprK.dict h1 h2 h3 hs hna ke
  · cases e
    refine ⟨"dict", "dict.__repr__", F.slot_dict_repr, F.slot_dict_str, F.slot_dict_format, fun s2 hk0 => ⟨o, hk0 _ _ h1, h2⟩, fun A E s2 Q hg hu hk0 hQ => ?_⟩
    simp only [PyData.depth] at hu
    simp only [PyData.shown, PyData.shownKv_eq] at hQ
    exact call_dict_reprK h1 h2 h3 hs hna ke hg (fun b _ => Clear.nil b) hu hk0 hQ (by rw [← PyData.shownKv_eq]; exact hz2)
theorem shownAll_mem : ∀ {xs : List PyData} {x : PyData}, x ∈ xs → x.shown ∈ PyData.shownAll xs
  | y :: ys, x, h => by
    simp only [PyData.shownAll, List.mem_cons]
    rcases List.mem_cons.mp h with rfl | h
    · exact .inl rfl
    · exact .inr (shownAll_mem h)
mutual
theorem Rp.shw (I : Inv X pins σ H s) : ∀ {n : Nat} {d : D} {v : V} {u : Value}, okS n d = true → Rp X.K X.mg H G d v → RelV v u → (py d).shown.length ≤ sizeLine → Shw X s (py d) u
  | _, .non, _, _, _, .non, r, _ => by cases r; rw [py]; exact .non
  | _, .bl b, _, _, _, .bl _, r, _ => by cases r; rw [py]; exact .bl b
  | _, .int i, _, _, h, .int _, r, _ => by
    obtain ⟨t, rfl⟩ := r
    rw [py]
    simp only [okS, decide_eq_true_eq] at h
    exact .int h
  | _, .str x, _, _, _, .str _, r, hz => by
    obtain ⟨t, rfl⟩ := r
    rw [py] at hz ⊢
    exact .str hz
  | n, .tup xs, _, _, h, .tup (a := a) t rl, r, hz => by
    cases r
    rw [py] at hz ⊢
    simp only [okS, Bool.and_eq_true] at h
    obtain ⟨its, rv, ⟨o, e1, e2, k, e3⟩, _⟩ := I.tuple t.sqT
    have hz2 : (tupleText (PyData.shownAll (pyL xs))).length ≤ sizeLine := by simpa only [PyData.shown] using hz
    exact .tuple e1 e2 e3 (RpL.shw I h.2 rl rv fun t ht => Nat.le_trans (tupleText_mem_le ht) hz2) hz
  | n, .lst xs, _, _, h, .lst (a := a) g t rl, r, hz => by
    cases r
    rw [py] at hz ⊢
    simp only [okS, Bool.and_eq_true] at h
    obtain ⟨its, rv, ⟨o, k, e1, e2, _, e3⟩, _⟩ := I.list (.inl (.inl t))
    have hz2 : (listText (PyData.shownAll (pyL xs))).length ≤ sizeLine := by simpa only [PyData.shown] using hz
    exact .list e1 e2 e3 (RpL.shw I h.2 rl rv fun t ht => Nat.le_trans (listText_mem_le ht) hz2) hz
  | n, .lsk xs, _, _, h, .lsk (a := a) t rl, r, hz => by
    cases r
    rw [py] at hz ⊢
    simp only [okS, Bool.and_eq_true] at h
    obtain ⟨its, rv, ⟨o, k, e1, e2, _, e3⟩, _⟩ := I.list t.sqL
    have hz2 : (listText (PyData.shownAll (pyL xs))).length ≤ sizeLine := by simpa only [PyData.shown] using hz
    exact .list e1 e2 e3 (RpL.shw I h.2 rl rv fun t ht => Nat.le_trans (listText_mem_le ht) hz2) hz
  | n, .dct kvs, _, _, h, .dct (a := a) g t rl, r, hz => by
    cases r
    rw [py] at hz ⊢
    simp only [okS, Bool.and_eq_true] at h
    obtain ⟨_, hs, vs, kv, o, es, ep, e1, e2, e3, _, pr, _⟩ := I.hok a _ t
    have hz2 : (dictText (PyData.shownKv (pyK kvs))).length ≤ sizeLine := by simpa only [PyData.shown] using hz
    obtain ⟨q1, q2⟩ := RpK.shw I h.2 rl kv pr (fun t ht => let ⟨p, hp, hl⟩ := PyData.shownKv_key_le _ t ht; Nat.le_trans hl (Nat.le_trans (dictText_mem_le hp) hz2)) (fun t ht => let ⟨p, hp, hl⟩ := PyData.shownKv_val_le _ t ht; Nat.le_trans hl (Nat.le_trans (dictText_mem_le hp) hz2))
    exact .dict hs e1 e2.1 e3 q1 q2 hz
  | _, .ty _, _, _, h, .ty _, _, _ => by simp [okS] at h
  | _, .ins _ _, _, _, h, .ins _ _ _ _ _, _, _ => by simp [okS] at h
  | _, .cls _, _, _, h, .cls _, _, _ => by simp [okS] at h
  | _, .ref _, _, _, h, .ref _, _, _ => by simp [okS] at h
theorem RpL.shw (I : Inv X pins σ H s) : ∀ {n : Nat} {ds : List D} {vs : List V} {us : List Value}, okSL n ds = true → RpL X.K X.mg H G ds vs → Vals vs us → (∀ t ∈ PyData.shownAll (pyL ds), t.length ≤ sizeLine) → ShwL X s (pyL ds) us
  | _, _, _, _, _, .nil, r, _ => by cases r; rw [pyL]; exact .nil
  | n, d :: ds, _, _, h, .cons r0 rl, r, hz => by
    cases r with
    | cons r1 r2 =>
      simp only [okSL, Bool.and_eq_true] at h
      rw [pyL] at hz ⊢
      exact .cons (Rp.shw I h.1 r0 r1 (hz _ (by simp only [PyData.shownAll]; exact List.mem_cons_self ..))) (RpL.shw I h.2 rl r2 fun t ht => hz t (by simp only [PyData.shownAll]; exact List.mem_cons_of_mem _ ht))
theorem RpK.shw (I : Inv X pins σ H s) : ∀ {n : Nat} {ds : List (Key × D)} {vs : List (Key × V)} {us : List (Key × Value)} {es : List DictEntry}, okSK n ds = true → RpK X.K X.mg H G ds vs → KV vs us → Pairs (mixKind X.prog X.w) es us →
    (∀ t ∈ PyData.shownAll ((pyK ds).map (·.1)), t.length ≤ sizeLine) → (∀ t ∈ PyData.shownAll ((pyK ds).map (·.2)), t.length ≤ sizeLine) → ShwL X s ((pyK ds).map (·.1)) (es.map (·.key)) ∧ ShwL X s ((pyK ds).map (·.2)) (es.map (·.val))
  | _, _, _, _, _, _, .nil, r, p, _, _ => by
    cases r; cases p
    rw [pyK]
    exact ⟨.nil, .nil⟩
  | n, (k, d) :: ds, _, _, _, h, .cons r0 rl, r, p, hz, hz2 => by
    cases r with
    | cons r1 r2 =>
      cases p with
      | cons p1 p2 p3 =>
        rename_i q qs e es
        simp only [okSK, Bool.and_eq_true] at h
        rw [pyK_map] at hz hz2 ⊢
        rw [List.map_cons] at hz hz2 ⊢
        rw [List.map_cons] at hz hz2
        simp only [PyData.shownAll] at hz hz2
        obtain ⟨g1, g2⟩ := RpK.shw I h.2 rl r2 p3 (fun t ht => hz t (List.mem_cons_of_mem _ (by rw [← pyK_map]; exact ht))) (fun t ht => hz2 t (List.mem_cons_of_mem _ (by rw [← pyK_map]; exact ht)))
        rw [pyK_map] at g1 g2
        rw [← r1.1] at p1
        rw [List.map_cons, List.map_cons, List.map_cons, List.map_cons]
        refine ⟨.cons (.key p1 h.1.1 (hz _ (List.mem_cons_self ..))) g1, .cons (Rp.shw I h.1.2 r0 (by rw [p2]; exact r1.2) (hz2 _ (List.mem_cons_self ..))) g2⟩
end
end
/-- repr(x) -/
def rRepr : RLD := fun ds G Q => match ds with
  | [d] => (okS 60 (rs G d) = true ∧ (py (rs G d)).shown.length ≤ sizeLine) ∧ Q (.str (py (rs G d)).shown) G
  | _ => False
section
variable {X : Cx} {lv : Nat} {cm : Bool}
theorem repr_shw {pins : List (Addr × Obj)} {σ : L2.St} {H : Hp} {s : Shared} {Q : VK} {p : PyData} {u : Value} {W : Value → Shared → Prop} (I : Inv X pins σ H s) (gd : Gd X lv cm) (h : Shw X s p u) (hp : p.depth ≤ 60) (hz : p.shown.length ≤ sizeLine) (hi : ∀ i t, u = .int i t → i.natAbs.log2 < 1920) (q : Q (.str p.shown) H) : wpAny (model X.prog X.w) X.A (call (.builtin "repr") [u]) (EP X pins σ Q) W s := by
  have un := gd.un
  obtain ⟨⟨as, r⟩, _, hT⟩ := h
  have href : ∀ a, u = .ref a → wpAny (model X.prog X.w) X.A (call (.builtin "repr") [u]) (EP X pins σ Q) W s := fun a e => by
    subst e
    obtain ⟨T, idr, S⟩ := hT a rfl
    exact call_repr_slot (by omega) (S.typeIs s fun _ _ e => e) S.slotRepr (S.call X.A.in1 W s _ gd.gu (by show X.A.units + 1 + p.depth < cLine; omega) (fun _ _ e => e) fun h' t tk hk => ⟨_, _, rfl, .str p.shown, H, I.kept hk, ⟨_, rfl⟩, q⟩)
  cases r with
  | none => exact PySem.P.repr_of_none ⟨.str _, H, I.tok _, ⟨_, rfl⟩, by simpa only [PyData.shown] using q⟩
  | bool b => exact PySem.P.repr_of_bool ⟨.str _, H, I.tok _, ⟨_, rfl⟩, by simpa only [PyData.shown] using q⟩
  | int i t => exact PySem.P.repr_of_int (hi i t rfl) ⟨.str _, H, I.tok _, ⟨_, rfl⟩, by simpa only [PyData.shown] using q⟩
  | str x t => exact PySem.P.repr_of_str ⟨.str _, H, I.tok _, ⟨_, rfl⟩, by simpa only [PyData.shown] using q⟩ (by simpa only [PyData.shown] using hz)
  | list _ _ _ _ => exact href _ rfl
  | tuple _ _ _ _ => exact href _ rfl
  | dict _ _ _ _ _ => exact href _ rfl
theorem cd_repr : CallD X lv cm (.builtin "repr") rRepr := by
  intro gd pins s σ H vs us Q I rv ⟨ds, G, R, hg, r0, h, l⟩
  unfold rRepr at h
  split at h
  · rename_i d
    obtain ⟨v, rfl, r⟩ := one_rp r0
    obtain ⟨u, rfl, ru⟩ := vals1 rv
    obtain ⟨⟨h1, h2⟩, h3⟩ := h
    have key : ∀ e : D, okS 60 e = true → (py e).shown.length ≤ sizeLine → (∀ i, e = .int i → i.natAbs.log2 < 1920) → Shw X s (py e) u → (∀ i t, u = .int i t → e = .int i) → R (.str (py e).shown) G → wpAny (model X.prog X.w) X.A (call (.builtin "repr") [u]) (EP X pins σ Q) X.xe s := fun e q1 q2 q3 q4 q5 q6 =>
      repr_shw I gd q4 (okS_depth q1) q2 (fun i t e => q3 i (q5 i t e)) (l _ G H _ q6 (Ext.refl _ _) hg (.str _))
    have fin : ∀ (G2 : DH) (e : D), okS 60 e = true → (py e).shown.length ≤ sizeLine → Rp X.K X.mg H G2 e v → R (.str (py e).shown) G → wpAny (model X.prog X.w) X.A (call (.builtin "repr") [u]) (EP X pins σ Q) X.xe s := fun G2 e q1 q2 q3 q4 => by
      refine key e q1 q2 (fun i e2 => ?_) (q3.shw I q1 ru q2) (fun i t e2 => ?_) q4
      · subst e2
        simpa [okS] using q1
      · subst e2
        cases q3 with
        | int j =>
          obtain ⟨t', e3⟩ := ru
          cases e3; rfl
        | non => cases ru
        | bl b => cases ru
        | str x => obtain ⟨t', e3⟩ := ru; cases e3
        | ty n => simp [okS] at q1
        | cls _ => simp [okS] at q1
        | ins _ _ _ _ _ => simp [okS] at q1
        | ref _ => simp [okS] at q1
        | tup _ _ => cases ru
        | lst _ _ _ => cases ru
        | lsk _ _ => cases ru
        | dct _ _ _ => cases ru
    cases r with
    | ref a =>
      unfold rs at h1 h2 h3
      simp only at h1 h2 h3
      cases ea : G a with
      | none => rw [ea] at h1; simp [okS] at h1
      | some o =>
        rw [ea] at h1 h2 h3
        have ob := hg a o ea
        cases (show u = Value.ref a from ru)
        cases ob with
        | lst e2 ra => exact fin (delG G a) _ h1 h2 (.lst delG_same e2 (ra.ext delG_sub.ext)) h3
        | dct e2 ra => exact fin (delG G a) _ h1 h2 (.dct delG_same e2 (ra.ext delG_sub.ext)) h3
        | ins _ _ _ _ => simp [okS] at h1
    | _ => exact fin G _ h1 h2 (by first | assumption | constructor <;> assumption) h3
  · exact h.elim
end
end DL

namespace DL
open L2 PyProof.Rows PySem PySem.Spec

/-! ### 14. dicts -/
def dDct0 : DE := fun _ _ G Q => Q (.dct []) G
def dDctM0 : DE := fun _ _ G Q => ∀ p, G p = none → Q (.ref p) (upG G p (.dct []))
section
variable {X : Cx} {lv : Nat} {cm : Bool} {pos : Pos}
theorem pd_dct0 : PD X lv cm (.Dict [] [] pos) dDct0 := fun gd Wx tk => pe_imp pe_dnewK fun σ H Q ⟨W, δ, G, R, hs, hg, ht, lQ, lW⟩ p hp =>
  lQ (.dct []) G (L2.upd H p (.dK [])) (.ref p) ht (Ext.newF hp) (hg.newF hp) (.dct (hg.free hp) upd_same .nil)
theorem pd_dctM0 : PD X lv cm (.Dict [] [] pos) dDctM0 := fun gd Wx tk => pe_imp pe_dnewK fun σ H Q ⟨W, δ, G, R, hs, hg, ht, lQ, lW⟩ p hp =>
  lQ (.ref p) _ (L2.upd H p (.dK [])) (.ref p) (ht p (hg.free hp)) (Ext.new hp) (hg.new hp (.dct upd_same .nil)) (.ref p)
end
end DL

namespace DL
open L2 PyProof.Rows PySem PySem.Spec

/-! ### 15. for the laws' side: what the readings come to -/
theorem be_rt {Q : DQ} {E : Exn → DH → Prop} {d : D} {G : DH} (h : Q d G) : (bodyEnds Q E).rt d G := ⟨d, G, Sub.refl _, .same d, h⟩
theorem be_nx {Q : DQ} {E : Exn → DH → Prop} {δ : Sl} {G : DH} (h : Q .non G) : (bodyEnds Q E).nx δ G := ⟨G, Sub.refl _, h⟩
theorem be_ex {Q : DQ} {E : Exn → DH → Prop} {x : Exn} {δ : Sl} {G : DH} (h : E x G) : (bodyEnds Q E).ex x δ G := ⟨G, Sub.refl _, h⟩
theorem sub_new {G : DH} {p : Addr} {o : DO} (h : G p = none) : Sub G (upG G p o) := fun a w e => by
  rw [upG_ne (some_ne e h)]; exact e
theorem delG_upG {G : DH} {p : Addr} {o : DO} (h : G p = none) : delG (upG G p o) p = G := by
  funext b
  by_cases e : b = p
  · rw [e, delG_same, h]
  · rw [delG_ne e, upG_ne e]
theorem lcK_fm {g : DG} {tt : DT} {te : DE} {vs : List Nat} {δ : Sl} {Q : DQ} {xs : List D} {S : DH → Prop} {G1 : DH} (c : D → Bool) (f : D → D) (hl : xs.length < sizeLine) (hS : ∀ G2, Sub G1 G2 → S G2)
    (h : ∀ x ∈ xs, ∀ (G2 : DH) (R : DQ) (R0 : DH → Prop), Sub G1 G2 → (c x = true → R (f x) G2) → (c x = false → R0 G2) → g x W0 (dWipe δ vs) G2 fun δ2 G3 => tt W0 δ2 G3 fun b G4 => if b = true then te W0 δ2 G4 R else R0 G4)
    (q : Q (.lst ((xs.filter c).map f)) G1) : lcK g tt te vs (fun p ys G Q => Q (.lst ys) (delG G p)) δ Q xs S G1 .mk := fun p hp => by
  refine ⟨fun i ys G => ys = ((xs.take i).filter c).map f ∧ G = upG G1 p (.lst ys), ⟨by simp, rfl⟩, fun i x ys G hx hg ⟨e, eG⟩ => ?_, fun ys G hg ⟨e, eG⟩ => ?_⟩
  · subst eG
    have hsub : Sub G1 (upG G1 p (.lst ys)) := sub_new hp
    have hi := (List.getElem?_eq_some_iff.mp hx).1
    have et : xs.take (i + 1) = xs.take i ++ [x] := by rw [List.take_add_one, hx]; rfl
    refine ⟨hS _ hsub, h x (List.mem_of_getElem? hx) _ _ _ hsub (fun hc => ⟨upG_same, ?_, ?_, ?_⟩) fun hc => ⟨upG_same, ?_, rfl⟩⟩
    · rw [e, List.length_map]
      refine Nat.lt_of_le_of_lt (Nat.le_trans (List.length_filter_le _ _) ?_) hl
      rw [List.length_take]; omega
    · rw [et, List.filter_append, List.map_append, ← e, List.filter_cons, if_pos hc]; rfl
    · rw [upG_upG]
    · rw [et, List.filter_append, List.map_append, ← e, List.filter_cons, if_neg (by rw [hc]; exact Bool.false_ne_true)]; simp
  · subst eG
    rw [List.take_length] at e
    refine ⟨hS _ (sub_new hp), ?_⟩
    show Q (.lst ys) (delG (upG G1 p (.lst ys)) p)
    rw [delG_upG hp, e]; exact q
theorem lcK_map {g : DG} {te : DE} {vs : List Nat} {δ : Sl} {Q : DQ} {xs : List D} {S : DH → Prop} {G1 : DH} (f : D → D) (hl : xs.length < sizeLine) (hS : ∀ G2, Sub G1 G2 → S G2)
    (h : ∀ x ∈ xs, ∀ (G2 : DH) (R : DQ), Sub G1 G2 → R (f x) G2 → g x W0 (dWipe δ vs) G2 fun δ2 G3 => te W0 δ2 G3 R)
    (q : Q (.lst (xs.map f)) G1) : lcK g dYes te vs (fun p ys G Q => Q (.lst ys) (delG G p)) δ Q xs S G1 .mk :=
  lcK_fm (fun _ => true) f hl hS (fun x hx G2 R R0 hs h1 _ => h x hx G2 R hs (h1 rfl)) (by rw [List.filter_eq_self.mpr fun _ _ => rfl]; exact q)
/-! sizes -/
def Bd (n : Nat) (i : Int) : Prop := i.natAbs < 2 ^ n
theorem Bd.mono {n m : Nat} {i : Int} (h : Bd n i) (hm : n ≤ m) : Bd m i := Nat.lt_of_lt_of_le h (Nat.pow_le_pow_right (by decide) hm)
theorem Bd.mul {n m : Nat} {i j : Int} (h : Bd n i) (k : Bd m j) : Bd (n + m) (i * j) := by
  unfold Bd at *
  rw [Int.natAbs_mul, Nat.pow_add]
  exact Nat.mul_lt_mul'' h k
theorem Bd.add {n : Nat} {i j : Int} (h : Bd n i) (k : Bd n j) : Bd (n + 1) (i + j) := by
  unfold Bd at *
  have := Int.natAbs_add_le i j
  rw [Nat.pow_succ]; omega
theorem Bd.neg {n : Nat} {i : Int} (h : Bd n i) : Bd n (-i) := by
  unfold Bd at *; rw [Int.natAbs_neg]; exact h
theorem Bd.sub {n : Nat} {i j : Int} (h : Bd n i) (k : Bd n j) : Bd (n + 1) (i - j) := by
  rw [Int.sub_eq_add_neg]; exact h.add k.neg
theorem Bd.log2 {n : Nat} {i : Int} (h : Bd n i) (hn : 0 < n) : i.natAbs.log2 < n := by
  by_cases e : i.natAbs = 0
  · rw [e]; exact hn
  · exact (Nat.log2_lt e).mpr h
theorem Bd.mulOk {n m : Nat} {i j : Int} (h : Bd n i) (k : Bd m j) (hn : 0 < n ∧ 0 < m ∧ n + m ≤ 1000000) : MulOk i j := by
  have h1 := h.log2 hn.1
  have h2 := k.log2 hn.2.1
  unfold MulOk
  omega
theorem Bd.of_le {n : Nat} {i j : Int} (h : Bd n j) (e : i.natAbs ≤ j.natAbs) : Bd n i := Nat.lt_of_le_of_lt e h
theorem Bd.lit {n : Nat} {i : Int} (h : i.natAbs < 2 ^ n := by decide) : Bd n i := h
theorem Bd.range {n : Nat} {i : Int} (h : 0 ≤ i) (k : i < 2 ^ n) : Bd n i := by
  unfold Bd
  have : ((2 ^ n : Nat) : Int) = (2 : Int) ^ n := by push_cast; rfl
  omega
/-! what is plain -/
theorem rs_okS {n : Nat} {d : D} {G : DH} (h : okS n d = true) : rs G d = d := by
  cases d with
  | ref a => simp [okS] at h
  | _ => rfl
theorem okS_ty {n : Nat} {d : D} (h : okS n d = true) : ∃ T, tyD d = some T := by
  cases d with
  | ref a => simp [okS] at h
  | ty a => simp [okS] at h
  | ins a b => simp [okS] at h
  | cls a => simp [okS] at h
  | _ => exact ⟨_, rfl⟩
/-! small facts for the readings -/
section
variable {G : DH}
theorem rs_non : rs G .non = .non := rfl
theorem rs_bl {b : Bool} : rs G (.bl b) = .bl b := rfl
theorem rs_i {i : Int} : rs G (.int i) = .int i := rfl
theorem rs_s {x : Str} : rs G (.str x) = .str x := rfl
theorem rs_ty {x : String} : rs G (.ty x) = .ty x := rfl
theorem rs_t {xs : List D} : rs G (.tup xs) = .tup xs := rfl
theorem rs_l {xs : List D} : rs G (.lst xs) = .lst xs := rfl
theorem rs_k {xs : List D} : rs G (.lsk xs) = .lsk xs := rfl
theorem rs_d {xs : List (Key × D)} : rs G (.dct xs) = .dct xs := rfl
theorem rs_in {c : CI} {xs : List D} : rs G (.ins c xs) = .ins c xs := rfl
theorem rs_c {c : CI} : rs G (.cls c) = .cls c := rfl
theorem rs_rl {a : Addr} {xs : List D} (h : G a = some (.lst xs)) : rs G (.ref a) = .lst xs := by unfold rs; simp only [h]
theorem rs_rd {a : Addr} {xs : List (Key × D)} (h : G a = some (.dct xs)) : rs G (.ref a) = .dct xs := by unfold rs; simp only [h]
theorem rs_ri {a : Addr} {c : CI} {xs : List D} (h : G a = some (.ins c xs)) : rs G (.ref a) = .ins c xs := by unfold rs; simp only [h]
theorem rs_upl {a : Addr} {xs : List D} : rs (upG G a (.lst xs)) (.ref a) = .lst xs := rs_rl upG_same
theorem rs_upd {a : Addr} {xs : List (Key × D)} : rs (upG G a (.dct xs)) (.ref a) = .dct xs := rs_rd upG_same
theorem rs_upi {a : Addr} {c : CI} {xs : List D} : rs (upG G a (.ins c xs)) (.ref a) = .ins c xs := rs_ri upG_same
theorem okN_int {n : Nat} {i : Int} : okN n (.int i) = true := by simp [okN]
theorem okN_bl {n : Nat} {i : Bool} : okN n (.bl i) = true := by simp [okN]
theorem okN_non {n : Nat} : okN n .non = true := by simp [okN]
theorem okN_str {n : Nat} {x : Str} : okN n (.str x) = PyData.strOk x := by simp [okN]
theorem deq_int {i j : Int} : deq (.int i) (.int j) = decide (i = j) := by simp only [deq, py, PyData.eqv]; rfl
theorem deq_bl {i j : Bool} : deq (.bl i) (.bl j) = decide (i = j) := by cases i <;> cases j <;> simp [deq, py, PyData.eqv]
theorem deq_str {i j : Str} : deq (.str i) (.str j) = decide (i = j) := by
  simp only [deq, py, PyData.eqv]
  by_cases h : i = j
  · subst h; simp
  · rw [decide_eq_false h]; exact beq_eq_false_iff_ne.mpr h
theorem isT_NoneType_bool : isT "NoneType" "bool" = false := by decide
theorem isT_NoneType_int : isT "NoneType" "int" = false := by decide
theorem isT_NoneType_str : isT "NoneType" "str" = false := by decide
theorem isT_NoneType_tuple : isT "NoneType" "tuple" = false := by decide
theorem isT_NoneType_list : isT "NoneType" "list" = false := by decide
theorem isT_NoneType_dict : isT "NoneType" "dict" = false := by decide
theorem isT_bool_bool : isT "bool" "bool" = true := by decide
theorem isT_bool_int : isT "bool" "int" = true := by decide
theorem isT_bool_str : isT "bool" "str" = false := by decide
theorem isT_bool_tuple : isT "bool" "tuple" = false := by decide
theorem isT_bool_list : isT "bool" "list" = false := by decide
theorem isT_bool_dict : isT "bool" "dict" = false := by decide
theorem isT_int_bool : isT "int" "bool" = false := by decide
theorem isT_int_int : isT "int" "int" = true := by decide
theorem isT_int_str : isT "int" "str" = false := by decide
theorem isT_int_tuple : isT "int" "tuple" = false := by decide
theorem isT_int_list : isT "int" "list" = false := by decide
theorem isT_int_dict : isT "int" "dict" = false := by decide
theorem isT_str_bool : isT "str" "bool" = false := by decide
theorem isT_str_int : isT "str" "int" = false := by decide
theorem isT_str_str : isT "str" "str" = true := by decide
theorem isT_str_tuple : isT "str" "tuple" = false := by decide
theorem isT_str_list : isT "str" "list" = false := by decide
theorem isT_str_dict : isT "str" "dict" = false := by decide
theorem isT_tuple_bool : isT "tuple" "bool" = false := by decide
theorem isT_tuple_int : isT "tuple" "int" = false := by decide
theorem isT_tuple_str : isT "tuple" "str" = false := by decide
theorem isT_tuple_tuple : isT "tuple" "tuple" = true := by decide
theorem isT_tuple_list : isT "tuple" "list" = false := by decide
theorem isT_tuple_dict : isT "tuple" "dict" = false := by decide
theorem isT_list_bool : isT "list" "bool" = false := by decide
theorem isT_list_int : isT "list" "int" = false := by decide
theorem isT_list_str : isT "list" "str" = false := by decide
theorem isT_list_tuple : isT "list" "tuple" = false := by decide
theorem isT_list_list : isT "list" "list" = true := by decide
theorem isT_list_dict : isT "list" "dict" = false := by decide
theorem isT_dict_bool : isT "dict" "bool" = false := by decide
theorem isT_dict_int : isT "dict" "int" = false := by decide
theorem isT_dict_str : isT "dict" "str" = false := by decide
theorem isT_dict_tuple : isT "dict" "tuple" = false := by decide
theorem isT_dict_list : isT "dict" "list" = false := by decide
theorem isT_dict_dict : isT "dict" "dict" = true := by decide
theorem deq_ii {a b c d : Int} : deq (.tup [.int a, .int b]) (.tup [.int c, .int d]) = (decide (a = c) && decide (b = d)) := by
  simp only [deq, py, pyL, PyData.eqv, PyData.eqvAll, Bool.and_true]; rfl
theorem okN_ii {a b : Int} : okN 60 (.tup [.int a, .int b]) = true := by simp [okN, okNL]
theorem tysB_bool : tysB.contains "bool" = true := by decide
theorem tysB_int : tysB.contains "int" = true := by decide
theorem tysB_str : tysB.contains "str" = true := by decide
theorem tysB_tuple : tysB.contains "tuple" = true := by decide
theorem tysB_list : tysB.contains "list" = true := by decide
theorem tysB_dict : tysB.contains "dict" = true := by decide
end
/-! places -/
section
variable {α : Type} {a b c d : α} {xs : List α}
theorem ixN_nat (n i : Nat) : ixN n (i : Int) = if i < n then some i else none := by
  unfold ixN
  rw [if_pos (by omega)]
  by_cases h : i < n
  · rw [if_pos h, if_pos (by omega)]; simp
  · rw [if_neg h, if_neg (by omega)]
theorem atI_nat (i : Nat) : atI xs (i : Int) = xs[i]? := by
  unfold atI
  rw [ixN_nat]
  by_cases h : i < xs.length
  · rw [if_pos h]; rfl
  · rw [if_neg h, List.getElem?_eq_none (by omega)]; rfl
theorem atI_0 : atI (a :: xs) 0 = some a := atI_nat 0
theorem atI_1 : atI (a :: b :: xs) 1 = some b := atI_nat 1
theorem atI_2 : atI (a :: b :: c :: xs) 2 = some c := atI_nat 2
theorem atI_3 : atI (a :: b :: c :: d :: xs) 3 = some d := atI_nat 3
theorem atI_4 {a0 a1 a2 a3 a4 : α} : atI (a0 :: a1 :: a2 :: a3 :: a4 :: xs) 4 = some a4 := atI_nat 4
theorem atI_5 {a0 a1 a2 a3 a4 a5 : α} : atI (a0 :: a1 :: a2 :: a3 :: a4 :: a5 :: xs) 5 = some a5 := atI_nat 5
theorem atI_6 {a0 a1 a2 a3 a4 a5 a6 : α} : atI (a0 :: a1 :: a2 :: a3 :: a4 :: a5 :: a6 :: xs) 6 = some a6 := atI_nat 6
theorem atI_7 {a0 a1 a2 a3 a4 a5 a6 a7 : α} : atI (a0 :: a1 :: a2 :: a3 :: a4 :: a5 :: a6 :: a7 :: xs) 7 = some a7 := atI_nat 7
theorem atI_8 {a0 a1 a2 a3 a4 a5 a6 a7 a8 : α} : atI (a0 :: a1 :: a2 :: a3 :: a4 :: a5 :: a6 :: a7 :: a8 :: xs) 8 = some a8 := atI_nat 8
theorem atI_9 {a0 a1 a2 a3 a4 a5 a6 a7 a8 a9 : α} : atI (a0 :: a1 :: a2 :: a3 :: a4 :: a5 :: a6 :: a7 :: a8 :: a9 :: xs) 9 = some a9 := atI_nat 9
theorem atI_10 {a0 a1 a2 a3 a4 a5 a6 a7 a8 a9 a10 : α} : atI (a0 :: a1 :: a2 :: a3 :: a4 :: a5 :: a6 :: a7 :: a8 :: a9 :: a10 :: xs) 10 = some a10 := atI_nat 10
theorem atI_11 {a0 a1 a2 a3 a4 a5 a6 a7 a8 a9 a10 a11 : α} : atI (a0 :: a1 :: a2 :: a3 :: a4 :: a5 :: a6 :: a7 :: a8 :: a9 :: a10 :: a11 :: xs) 11 = some a11 := atI_nat 11
theorem atI_12 {a0 a1 a2 a3 a4 a5 a6 a7 a8 a9 a10 a11 a12 : α} : atI (a0 :: a1 :: a2 :: a3 :: a4 :: a5 :: a6 :: a7 :: a8 :: a9 :: a10 :: a11 :: a12 :: xs) 12 = some a12 := atI_nat 12
theorem atI_m1 : atI (xs ++ [a]) (-1) = some a := by
  unfold atI ixN
  rw [if_neg (by decide), if_pos (by rw [List.length_append]; simp; omega)]
  have e : (-1 + (((xs ++ [a]).length : Nat) : Int)).toNat = xs.length := by rw [List.length_append, List.length_singleton]; omega
  show (xs ++ [a])[(-1 + (((xs ++ [a]).length : Nat) : Int)).toNat]? = some a
  rw [e, List.getElem?_append_right (Nat.le_refl _)]
  simp
theorem atI_of {i : Int} (h : 0 ≤ i) (k : i < xs.length) : ∃ x ∈ xs, atI xs i = some x := by
  obtain ⟨n, rfl⟩ := Int.eq_ofNat_of_zero_le h
  have hn : n < xs.length := by omega
  exact ⟨xs[n], List.getElem_mem hn, by rw [atI_nat]; exact List.getElem?_eq_getElem hn⟩
theorem at_ints {ns : List Int} {i : Int} (h : 0 ≤ i) (k : i < ns.length) : ∃ z ∈ ns, atI (ns.map D.int) i = some (.int z) := by
  obtain ⟨n, rfl⟩ := Int.eq_ofNat_of_zero_le h
  have hn : n < ns.length := by omega
  exact ⟨ns[n], List.getElem_mem hn, by rw [atI_nat, List.getElem?_map, List.getElem?_eq_getElem hn]; rfl⟩
theorem ixN_0 {n : Nat} : ixN (n + 1) 0 = some 0 := by
  rw [show (0 : Int) = ((0 : Nat) : Int) from rfl, ixN_nat, if_pos (by omega)]
theorem ixN_1 {n : Nat} : ixN (n + 2) 1 = some 1 := by
  rw [show (1 : Int) = ((1 : Nat) : Int) from rfl, ixN_nat, if_pos (by omega)]
end
end DL

namespace K71
open DL L2 PyProof.Rows PySem PySem.Spec
/-! ### readings and walks of the text's defs (printed by gen.py) -/
def top (i : Nat) : Stmt := PySem.Challenge.pw_crywalks_k71_fractions.main.body.getD i (.Pass ⟨0, 0, 0, 0⟩)
structure Tx (mg : Str → Option Value) : Prop where
  z_abs : mg "abs" = none
  z_all : mg "all" = none
  z_bool : mg "bool" = none
  z_divmod : mg "divmod" = none
  z_int : mg "int" = none
  z_isinstance : mg "isinstance" = none
  z_len : mg "len" = none
  z_list : mg "list" = none
  z_max : mg "max" = none
  z_min : mg "min" = none
  z_range : mg "range" = none
  z_repr : mg "repr" = none
  z_tuple : mg "tuple" = none
abbrev N_common_part : List Str := ["one", "other", "here", "there"]
abbrev ps_common_part : List Str := ["one", "other"]
theorem sc_common_part : FnScope N_common_part ps_common_part (defScope (top 1)) := ⟨rfl, rfl, rfl, by decide +kernel, rfl, by decide +kernel, by decide +kernel⟩
theorem sl_common_part {a0 a1 : D} : slots N_common_part [a0, a1] = [some a0, some a1, none, none] := rfl
def rd_common_part : DS :=
  (dSeq (dPar 2 3 ((dCons ((dCB rAbs ((dCons (dVar 0) (dNil))))) ((dCons ((dCB rAbs ((dCons (dVar 1) (dNil))))) (dNil))))))
    ((dSeq (dWhile (dTest (dBin rGt (dVar 3) (dC (.int 0)))) (dPar 2 3 ((dCons (dVar 3) ((dCons ((dBin rModP (dVar 2) (dVar 3))) (dNil)))))))
    (dRet (dVar 2)))))
theorem bd_common_part {P : Program} {w : World} {K : PySem.W.Frag} {mg : Str → Option Value} {base : Heap} (M : Tx mg) (f : Addr) (cdv : Value) (A : Around) (outer : List Env) (s : Shared) (H : Hp) (E : XK) :
    PDSs (cxOf (L2.CX P w) P w K mg base N_common_part "common_part" (defScope (top 1)) f cdv A outer s H E) 0 true (defBody (top 1)) (rd_common_part) := by
  have S := sc_common_part
  exact (pdss_cons (pds_par (i := 2) (j := 3) S.nd rfl rfl (by decide) rfl rfl (pda_cons (pd_callB cd_abs boot_abs M.z_abs (pda_cons (pd_var (i := 0) rfl (by first | exact .inl rfl | exact .inr (.inl rfl) | exact .inr (.inr rfl))) pda_nil)) (pda_cons (pd_callB cd_abs boot_abs M.z_abs (pda_cons (pd_var (i := 1) rfl (by first | exact .inl rfl | exact .inr (.inl rfl) | exact .inr (.inr rfl))) pda_nil)) pda_nil)))
    (pdss_cons (pds_while (pdt_cmp od_gt (pd_var (i := 3) rfl (by first | exact .inl rfl | exact .inr (.inl rfl) | exact .inr (.inr rfl))) pd_int) (pdss_one (pds_par (i := 2) (j := 3) S.nd rfl rfl (by decide) rfl rfl (pda_cons (pd_var (i := 3) rfl (by first | exact .inl rfl | exact .inr (.inl rfl) | exact .inr (.inr rfl))) (pda_cons (pd_bin od_modP (pd_var (i := 2) rfl (by first | exact .inl rfl | exact .inr (.inl rfl) | exact .inr (.inr rfl))) (pd_var (i := 3) rfl (by first | exact .inl rfl | exact .inr (.inl rfl) | exact .inr (.inr rfl)))) pda_nil)))))
    (pdss_one (pds_ret (pd_var (i := 2) rfl (by first | exact .inl rfl | exact .inr (.inl rfl) | exact .inr (.inr rfl)))))))
abbrev N_fraction : List Str := ["upper", "lower", "share"]
abbrev ps_fraction : List Str := ["upper", "lower"]
theorem sc_fraction : FnScope N_fraction ps_fraction (defScope (top 2)) := ⟨rfl, rfl, rfl, by decide +kernel, rfl, by decide +kernel, by decide +kernel⟩
theorem sl_fraction {a0 a1 : D} : slots N_fraction [a0, a1] = [some a0, some a1, none] := rfl
def rd_fraction (sp_common_part : DSp) : DS :=
  (dSeq (dAsg ((dBin rMul ((dCall sp_common_part ((dCons (dVar 0) ((dCons (dVar 1) (dNil))))))) ((dIf (dTest (dBin rGt (dVar 1) (dC (.int 0)))) (dC (.int 1)) ((dUn rNeg (dC (.int 1)))))))) (gdName 2))
    (dRet ((dTup ((dCons ((dBin rDiv (dVar 0) (dVar 2))) ((dCons ((dBin rDiv (dVar 1) (dVar 2))) (dNil)))))))))
theorem bd_fraction {P : Program} {w : World} {K : PySem.W.Frag} {mg : Str → Option Value} {base : Heap} {sp_common_part : DSp} (M : Tx mg) (h_common_part : HasF P w K mg base "common_part" 1 ps_common_part sp_common_part) (f : Addr) (cdv : Value) (A : Around) (outer : List Env) (s : Shared) (H : Hp) (E : XK) :
    PDSs (cxOf (L2.CX P w) P w K mg base N_fraction "fraction" (defScope (top 2)) f cdv A outer s H E) 1 true (defBody (top 2)) (rd_fraction sp_common_part) := by
  have S := sc_fraction
  exact (pdss_cons (pds_set (i := 2) S.nd rfl (by first | exact .inl rfl | exact .inr rfl) (pd_bin od_mul (pd_call h_common_part (by decide) (pda_cons (pd_var (i := 0) rfl (by first | exact .inl rfl | exact .inr (.inl rfl) | exact .inr (.inr rfl))) (pda_cons (pd_var (i := 1) rfl (by first | exact .inl rfl | exact .inr (.inl rfl) | exact .inr (.inr rfl))) pda_nil))) (pd_ifExp (pdt_cmp od_gt (pd_var (i := 1) rfl (by first | exact .inl rfl | exact .inr (.inl rfl) | exact .inr (.inr rfl))) pd_int) pd_int (pd_un od_neg pd_int))))
    (pdss_one (pds_ret (pd_tup (pda_cons (pd_bin od_div (pd_var (i := 0) rfl (by first | exact .inl rfl | exact .inr (.inl rfl) | exact .inr (.inr rfl))) (pd_var (i := 2) rfl (by first | exact .inl rfl | exact .inr (.inl rfl) | exact .inr (.inr rfl)))) (pda_cons (pd_bin od_div (pd_var (i := 1) rfl (by first | exact .inl rfl | exact .inr (.inl rfl) | exact .inr (.inr rfl))) (pd_var (i := 2) rfl (by first | exact .inl rfl | exact .inr (.inl rfl) | exact .inr (.inr rfl)))) pda_nil))))))
abbrev N_is_whole : List Str := ["thing"]
abbrev ps_is_whole : List Str := ["thing"]
theorem sc_is_whole : FnScope N_is_whole ps_is_whole (defScope (top 3)) := ⟨rfl, rfl, rfl, by decide +kernel, rfl, by decide +kernel, by decide +kernel⟩
theorem sl_is_whole {a0 : D} : slots N_is_whole [a0] = [some a0] := rfl
def rd_is_whole : DS :=
  dRet ((dAndV ((dCB rIsi ((dCons (dVar 0) ((dCons (dC (.ty "int")) (dNil))))))) ((dNotV ((dCB rIsi ((dCons (dVar 0) ((dCons (dC (.ty "bool")) (dNil)))))))))))
theorem bd_is_whole {P : Program} {w : World} {K : PySem.W.Frag} {mg : Str → Option Value} {base : Heap} (M : Tx mg) (f : Addr) (cdv : Value) (A : Around) (outer : List Env) (s : Shared) (H : Hp) (E : XK) :
    PDSs (cxOf (L2.CX P w) P w K mg base N_is_whole "is_whole" (defScope (top 3)) f cdv A outer s H E) 0 true (defBody (top 3)) (rd_is_whole) := by
  have S := sc_is_whole
  exact (pdss_one (pds_ret (pd_and (pd_callB cd_isi boot_isinstance M.z_isinstance (pda_cons (pd_var (i := 0) rfl (by first | exact .inl rfl | exact .inr (.inl rfl) | exact .inr (.inr rfl))) (pda_cons (pd_ty boot_int M.z_int) pda_nil))) (pd_one (pd_not (pd_callB cd_isi boot_isinstance M.z_isinstance (pda_cons (pd_var (i := 0) rfl (by first | exact .inl rfl | exact .inr (.inl rfl) | exact .inr (.inr rfl))) (pda_cons (pd_ty boot_bool M.z_bool) pda_nil))))))))
abbrev N_is_fraction : List Str := ["thing", "part"]
abbrev ps_is_fraction : List Str := ["thing"]
theorem sc_is_fraction : FnScope N_is_fraction ps_is_fraction (defScope (top 4)) := ⟨rfl, rfl, rfl, by decide +kernel, rfl, by decide +kernel, by decide +kernel⟩
theorem sl_is_fraction {a0 : D} : slots N_is_fraction [a0] = [some a0, none] := rfl
def rd_is_fraction (sp_is_whole sp_common_part : DSp) : DS :=
  (dSeq (dIfS ((dOr ((dNot (dTest ((dCB rIsi ((dCons (dVar 0) ((dCons (dC (.ty "tuple")) (dNil)))))))))) ((dOr (dTest (dBin rNe ((dCB rLen ((dCons (dVar 0) (dNil))))) (dC (.int 2)))) ((dNot (dTest ((dCB rAll ((dCons ((dLc (diVal (dVar 0)) (gdName 1) (dYes) ((dCall sp_is_whole ((dCons (dVar 1) (dNil))))) [1])) (dNil)))))))))))) (dRet (dC (.bl false))) (dNext))
    (dRet ((dAndV ((dBin rGt ((dBin rIx (dVar 0) (dC (.int 1)))) (dC (.int 0)))) ((dBin rEq ((dCall sp_common_part ((dCons ((dBin rIx (dVar 0) (dC (.int 0)))) ((dCons ((dBin rIx (dVar 0) (dC (.int 1)))) (dNil))))))) (dC (.int 1))))))))
theorem bd_is_fraction {P : Program} {w : World} {K : PySem.W.Frag} {mg : Str → Option Value} {base : Heap} {sp_is_whole sp_common_part : DSp} (M : Tx mg) (h_is_whole : HasF P w K mg base "is_whole" 1 ps_is_whole sp_is_whole) (h_common_part : HasF P w K mg base "common_part" 1 ps_common_part sp_common_part) (f : Addr) (cdv : Value) (A : Around) (outer : List Env) (s : Shared) (H : Hp) (E : XK) :
    PDSs (cxOf (L2.CX P w) P w K mg base N_is_fraction "is_fraction" (defScope (top 4)) f cdv A outer s H E) 1 true (defBody (top 4)) (rd_is_fraction sp_is_whole sp_common_part) := by
  have S := sc_is_fraction
  exact (pdss_cons (pds_if (pdw_or (pdt_not (pdt_val (pd_callB cd_isi boot_isinstance M.z_isinstance (pda_cons (pd_var (i := 0) rfl (by first | exact .inl rfl | exact .inr (.inl rfl) | exact .inr (.inr rfl))) (pda_cons (pd_ty boot_tuple M.z_tuple) pda_nil))))) (pdw_or (pdt_cmp od_ne (pd_callB cd_len boot_len M.z_len (pda_cons (pd_var (i := 0) rfl (by first | exact .inl rfl | exact .inr (.inl rfl) | exact .inr (.inr rfl))) pda_nil)) pd_int) (pdw_or1 (pdt_not (pdt_val (pd_callB cd_all boot_all M.z_all (pda_cons (pd_lcG (own := [("part", 1)]) S.nd (pdi_val (pd_var (i := 0) rfl (by first | exact .inl rfl | exact .inr (.inl rfl) | exact .inr (.inr rfl)))) (show BlkOk N_is_fraction (defScope (top 4)) _ [("part", 1)] from ⟨rfl, by decide +kernel, by decide +kernel, by decide +kernel, by decide +kernel⟩) (lct_name (i := 1) S.nd rfl (by decide) (fun _ _ => (by first | exact .inl rfl | exact .inr rfl)) (fun _ _ => (by first | exact .inl rfl | exact .inr rfl))) (fun _ _ _ _ _ => pdts_nil) (fun _ _ _ _ _ => (pd_call h_is_whole (by decide) (pda_cons (pd_var (i := 1) rfl (by first | exact .inl rfl | exact .inr (.inl rfl) | exact .inr (.inr rfl))) pda_nil))) finF) pda_nil))))))).pt (pdss_one (pds_ret pd_bl)) pdss_nil)
    (pdss_one (pds_ret (pd_and (pd_cmp od_gt (pd_ix (pd_var (i := 0) rfl (by first | exact .inl rfl | exact .inr (.inl rfl) | exact .inr (.inr rfl))) pd_int) pd_int) (pd_one (pd_cmp od_eq (pd_call h_common_part (by decide) (pda_cons (pd_ix (pd_var (i := 0) rfl (by first | exact .inl rfl | exact .inr (.inl rfl) | exact .inr (.inr rfl))) pd_int) (pda_cons (pd_ix (pd_var (i := 0) rfl (by first | exact .inl rfl | exact .inr (.inl rfl) | exact .inr (.inr rfl))) pd_int) pda_nil))) pd_int))))))
abbrev N_plus : List Str := ["one", "other"]
abbrev ps_plus : List Str := ["one", "other"]
theorem sc_plus : FnScope N_plus ps_plus (defScope (top 5)) := ⟨rfl, rfl, rfl, by decide +kernel, rfl, by decide +kernel, by decide +kernel⟩
theorem sl_plus {a0 a1 : D} : slots N_plus [a0, a1] = [some a0, some a1] := rfl
def rd_plus (sp_fraction : DSp) : DS :=
  dRet ((dCall sp_fraction ((dCons ((dBin rAdd ((dBin rMul ((dBin rIx (dVar 0) (dC (.int 0)))) ((dBin rIx (dVar 1) (dC (.int 1)))))) ((dBin rMul ((dBin rIx (dVar 1) (dC (.int 0)))) ((dBin rIx (dVar 0) (dC (.int 1)))))))) ((dCons ((dBin rMul ((dBin rIx (dVar 0) (dC (.int 1)))) ((dBin rIx (dVar 1) (dC (.int 1)))))) (dNil)))))))
theorem bd_plus {P : Program} {w : World} {K : PySem.W.Frag} {mg : Str → Option Value} {base : Heap} {sp_fraction : DSp} (M : Tx mg) (h_fraction : HasF P w K mg base "fraction" 2 ps_fraction sp_fraction) (f : Addr) (cdv : Value) (A : Around) (outer : List Env) (s : Shared) (H : Hp) (E : XK) :
    PDSs (cxOf (L2.CX P w) P w K mg base N_plus "plus" (defScope (top 5)) f cdv A outer s H E) 2 true (defBody (top 5)) (rd_plus sp_fraction) := by
  have S := sc_plus
  exact (pdss_one (pds_ret (pd_call h_fraction (by decide) (pda_cons (pd_bin od_add (pd_bin od_mul (pd_ix (pd_var (i := 0) rfl (by first | exact .inl rfl | exact .inr (.inl rfl) | exact .inr (.inr rfl))) pd_int) (pd_ix (pd_var (i := 1) rfl (by first | exact .inl rfl | exact .inr (.inl rfl) | exact .inr (.inr rfl))) pd_int)) (pd_bin od_mul (pd_ix (pd_var (i := 1) rfl (by first | exact .inl rfl | exact .inr (.inl rfl) | exact .inr (.inr rfl))) pd_int) (pd_ix (pd_var (i := 0) rfl (by first | exact .inl rfl | exact .inr (.inl rfl) | exact .inr (.inr rfl))) pd_int))) (pda_cons (pd_bin od_mul (pd_ix (pd_var (i := 0) rfl (by first | exact .inl rfl | exact .inr (.inl rfl) | exact .inr (.inr rfl))) pd_int) (pd_ix (pd_var (i := 1) rfl (by first | exact .inl rfl | exact .inr (.inl rfl) | exact .inr (.inr rfl))) pd_int)) pda_nil)))))
abbrev N_minus : List Str := ["one", "other"]
abbrev ps_minus : List Str := ["one", "other"]
theorem sc_minus : FnScope N_minus ps_minus (defScope (top 6)) := ⟨rfl, rfl, rfl, by decide +kernel, rfl, by decide +kernel, by decide +kernel⟩
theorem sl_minus {a0 a1 : D} : slots N_minus [a0, a1] = [some a0, some a1] := rfl
def rd_minus (sp_fraction : DSp) : DS :=
  dRet ((dCall sp_fraction ((dCons ((dBin rSub ((dBin rMul ((dBin rIx (dVar 0) (dC (.int 0)))) ((dBin rIx (dVar 1) (dC (.int 1)))))) ((dBin rMul ((dBin rIx (dVar 1) (dC (.int 0)))) ((dBin rIx (dVar 0) (dC (.int 1)))))))) ((dCons ((dBin rMul ((dBin rIx (dVar 0) (dC (.int 1)))) ((dBin rIx (dVar 1) (dC (.int 1)))))) (dNil)))))))
theorem bd_minus {P : Program} {w : World} {K : PySem.W.Frag} {mg : Str → Option Value} {base : Heap} {sp_fraction : DSp} (M : Tx mg) (h_fraction : HasF P w K mg base "fraction" 2 ps_fraction sp_fraction) (f : Addr) (cdv : Value) (A : Around) (outer : List Env) (s : Shared) (H : Hp) (E : XK) :
    PDSs (cxOf (L2.CX P w) P w K mg base N_minus "minus" (defScope (top 6)) f cdv A outer s H E) 2 true (defBody (top 6)) (rd_minus sp_fraction) := by
  have S := sc_minus
  exact (pdss_one (pds_ret (pd_call h_fraction (by decide) (pda_cons (pd_bin od_sub (pd_bin od_mul (pd_ix (pd_var (i := 0) rfl (by first | exact .inl rfl | exact .inr (.inl rfl) | exact .inr (.inr rfl))) pd_int) (pd_ix (pd_var (i := 1) rfl (by first | exact .inl rfl | exact .inr (.inl rfl) | exact .inr (.inr rfl))) pd_int)) (pd_bin od_mul (pd_ix (pd_var (i := 1) rfl (by first | exact .inl rfl | exact .inr (.inl rfl) | exact .inr (.inr rfl))) pd_int) (pd_ix (pd_var (i := 0) rfl (by first | exact .inl rfl | exact .inr (.inl rfl) | exact .inr (.inr rfl))) pd_int))) (pda_cons (pd_bin od_mul (pd_ix (pd_var (i := 0) rfl (by first | exact .inl rfl | exact .inr (.inl rfl) | exact .inr (.inr rfl))) pd_int) (pd_ix (pd_var (i := 1) rfl (by first | exact .inl rfl | exact .inr (.inl rfl) | exact .inr (.inr rfl))) pd_int)) pda_nil)))))
abbrev N_times : List Str := ["one", "other"]
abbrev ps_times : List Str := ["one", "other"]
theorem sc_times : FnScope N_times ps_times (defScope (top 7)) := ⟨rfl, rfl, rfl, by decide +kernel, rfl, by decide +kernel, by decide +kernel⟩
theorem sl_times {a0 a1 : D} : slots N_times [a0, a1] = [some a0, some a1] := rfl
def rd_times (sp_fraction : DSp) : DS :=
  dRet ((dCall sp_fraction ((dCons ((dBin rMul ((dBin rIx (dVar 0) (dC (.int 0)))) ((dBin rIx (dVar 1) (dC (.int 0)))))) ((dCons ((dBin rMul ((dBin rIx (dVar 0) (dC (.int 1)))) ((dBin rIx (dVar 1) (dC (.int 1)))))) (dNil)))))))
theorem bd_times {P : Program} {w : World} {K : PySem.W.Frag} {mg : Str → Option Value} {base : Heap} {sp_fraction : DSp} (M : Tx mg) (h_fraction : HasF P w K mg base "fraction" 2 ps_fraction sp_fraction) (f : Addr) (cdv : Value) (A : Around) (outer : List Env) (s : Shared) (H : Hp) (E : XK) :
    PDSs (cxOf (L2.CX P w) P w K mg base N_times "times" (defScope (top 7)) f cdv A outer s H E) 2 true (defBody (top 7)) (rd_times sp_fraction) := by
  have S := sc_times
  exact (pdss_one (pds_ret (pd_call h_fraction (by decide) (pda_cons (pd_bin od_mul (pd_ix (pd_var (i := 0) rfl (by first | exact .inl rfl | exact .inr (.inl rfl) | exact .inr (.inr rfl))) pd_int) (pd_ix (pd_var (i := 1) rfl (by first | exact .inl rfl | exact .inr (.inl rfl) | exact .inr (.inr rfl))) pd_int)) (pda_cons (pd_bin od_mul (pd_ix (pd_var (i := 0) rfl (by first | exact .inl rfl | exact .inr (.inl rfl) | exact .inr (.inr rfl))) pd_int) (pd_ix (pd_var (i := 1) rfl (by first | exact .inl rfl | exact .inr (.inl rfl) | exact .inr (.inr rfl))) pd_int)) pda_nil)))))
abbrev N_is_less : List Str := ["one", "other"]
abbrev ps_is_less : List Str := ["one", "other"]
theorem sc_is_less : FnScope N_is_less ps_is_less (defScope (top 8)) := ⟨rfl, rfl, rfl, by decide +kernel, rfl, by decide +kernel, by decide +kernel⟩
theorem sl_is_less {a0 a1 : D} : slots N_is_less [a0, a1] = [some a0, some a1] := rfl
def rd_is_less : DS :=
  dRet ((dBin rLt ((dBin rMul ((dBin rIx (dVar 0) (dC (.int 0)))) ((dBin rIx (dVar 1) (dC (.int 1)))))) ((dBin rMul ((dBin rIx (dVar 1) (dC (.int 0)))) ((dBin rIx (dVar 0) (dC (.int 1))))))))
theorem bd_is_less {P : Program} {w : World} {K : PySem.W.Frag} {mg : Str → Option Value} {base : Heap} (M : Tx mg) (f : Addr) (cdv : Value) (A : Around) (outer : List Env) (s : Shared) (H : Hp) (E : XK) :
    PDSs (cxOf (L2.CX P w) P w K mg base N_is_less "is_less" (defScope (top 8)) f cdv A outer s H E) 0 true (defBody (top 8)) (rd_is_less) := by
  have S := sc_is_less
  exact (pdss_one (pds_ret (pd_cmp od_lt (pd_bin od_mul (pd_ix (pd_var (i := 0) rfl (by first | exact .inl rfl | exact .inr (.inl rfl) | exact .inr (.inr rfl))) pd_int) (pd_ix (pd_var (i := 1) rfl (by first | exact .inl rfl | exact .inr (.inl rfl) | exact .inr (.inr rfl))) pd_int)) (pd_bin od_mul (pd_ix (pd_var (i := 1) rfl (by first | exact .inl rfl | exact .inr (.inl rfl) | exact .inr (.inr rfl))) pd_int) (pd_ix (pd_var (i := 0) rfl (by first | exact .inl rfl | exact .inr (.inl rfl) | exact .inr (.inr rfl))) pd_int)))))
abbrev N__law_pot : List Str := ["_law_script", "_law_k", "_law_cell"]
abbrev ps__law_pot : List Str := ["_law_script", "_law_k"]
theorem sc__law_pot : FnScope N__law_pot ps__law_pot (defScope (top 10)) := ⟨rfl, rfl, rfl, by decide +kernel, rfl, by decide +kernel, by decide +kernel⟩
theorem sl__law_pot {a0 a1 : D} : slots N__law_pot [a0, a1] = [some a0, some a1, none] := rfl
def rd__law_pot : DS :=
  (dSeq (dAsg (dC (.int 0)) (gdName 2))
    ((dSeq (dIfS (dTest (dBin rLt (dVar 1) ((dCB rLen ((dCons (dVar 0) (dNil))))))) (dAsg ((dCB rAbs ((dCons ((dBin rIx (dVar 0) (dVar 1))) (dNil))))) (gdName 2)) (dNext))
    (dRet ((dLstM ((dCons ((dCB rMax2 ((dCons (dC (.int 0)) ((dCons ((dBin rSub (dVar 2) ((dBin rPow (dC (.int 10)) (dC (.int 18)))))) (dNil))))))) ((dCons ((dBin rAdd ((dBin rModP ((dBin rPow ((dBin rAdd ((dBin rAdd ((dBin rModP (dVar 2) (dC (.int 2147483543)))) ((dBin rMul (dC (.int 101)) (dVar 1))))) (dC (.int 5)))) (dC (.int 2)))) (dC (.int 2147483497)))) (dC (.int 1)))) (dNil)))))))))))
theorem bd__law_pot {P : Program} {w : World} {K : PySem.W.Frag} {mg : Str → Option Value} {base : Heap} (M : Tx mg) (f : Addr) (cdv : Value) (A : Around) (outer : List Env) (s : Shared) (H : Hp) (E : XK) :
    PDSs (cxOf (L2.CX P w) P w K mg base N__law_pot "_law_pot" (defScope (top 10)) f cdv A outer s H E) 0 true (defBody (top 10)) (rd__law_pot) := by
  have S := sc__law_pot
  exact (pdss_cons (pds_set (i := 2) S.nd rfl (by first | exact .inl rfl | exact .inr rfl) pd_int)
    (pdss_cons (pds_if (pdt_cmp od_lt (pd_var (i := 1) rfl (by first | exact .inl rfl | exact .inr (.inl rfl) | exact .inr (.inr rfl))) (pd_callB cd_len boot_len M.z_len (pda_cons (pd_var (i := 0) rfl (by first | exact .inl rfl | exact .inr (.inl rfl) | exact .inr (.inr rfl))) pda_nil))) (pdss_one (pds_set (i := 2) S.nd rfl (by first | exact .inl rfl | exact .inr rfl) (pd_callB cd_abs boot_abs M.z_abs (pda_cons (pd_ix (pd_var (i := 0) rfl (by first | exact .inl rfl | exact .inr (.inl rfl) | exact .inr (.inr rfl))) (pd_var (i := 1) rfl (by first | exact .inl rfl | exact .inr (.inl rfl) | exact .inr (.inr rfl)))) pda_nil)))) pdss_nil)
    (pdss_one (pds_ret (pd_lstM (pda_cons (pd_callB cd_max2 boot_max M.z_max (pda_cons pd_int (pda_cons (pd_bin od_sub (pd_var (i := 2) rfl (by first | exact .inl rfl | exact .inr (.inl rfl) | exact .inr (.inr rfl))) (pd_bin od_pow pd_int pd_int)) pda_nil))) (pda_cons (pd_bin od_add (pd_bin od_modP (pd_bin od_pow (pd_bin od_add (pd_bin od_add (pd_bin od_modP (pd_var (i := 2) rfl (by first | exact .inl rfl | exact .inr (.inl rfl) | exact .inr (.inr rfl))) pd_int) (pd_bin od_mul pd_int (pd_var (i := 1) rfl (by first | exact .inl rfl | exact .inr (.inl rfl) | exact .inr (.inr rfl))))) pd_int) pd_int) pd_int) pd_int) pda_nil)))))))
abbrev N__law_take : List Str := ["_law_pot_here", "_law_many", "_law_digit"]
abbrev ps__law_take : List Str := ["_law_pot_here", "_law_many"]
theorem sc__law_take : FnScope N__law_take ps__law_take (defScope (top 11)) := ⟨rfl, rfl, rfl, by decide +kernel, rfl, by decide +kernel, by decide +kernel⟩
theorem sl__law_take {a0 a1 : D} : slots N__law_take [a0, a1] = [some a0, some a1, none] := rfl
def rd__law_take : DS :=
  (dSeq (dIfS (dTest (dBin rGt ((dBin rIx (dVar 0) (dC (.int 0)))) (dC (.int 0)))) ((dSeq (dAsg ((dCB rDivmod ((dCons ((dBin rIx (dVar 0) (dC (.int 0)))) ((dCons (dVar 1) (dNil))))))) (gdTup 2 (gdCons (gdSub (dVar 0) (dC (.int 0))) (gdCons (gdName 2) (gdNil)))))
    (dRet (dVar 2)))) (dNext))
    ((dSeq (dAsg ((dBin rModP ((dBin rAdd ((dBin rMul ((dBin rIx (dVar 0) (dC (.int 1)))) (dC (.int 44029)))) (dC (.int 10133)))) (dC (.int 2147483587)))) (gdSub (dVar 0) (dC (.int 1))))
    (dRet ((dBin rModP ((dBin rDiv ((dBin rModP ((dBin rMul ((dBin rIx (dVar 0) (dC (.int 1)))) ((dBin rIx (dVar 0) (dC (.int 1)))))) (dC (.int 2147483549)))) (dC (.int 11)))) (dVar 1)))))))
theorem bd__law_take {P : Program} {w : World} {K : PySem.W.Frag} {mg : Str → Option Value} {base : Heap} (M : Tx mg) (f : Addr) (cdv : Value) (A : Around) (outer : List Env) (s : Shared) (H : Hp) (E : XK) :
    PDSs (cxOf (L2.CX P w) P w K mg base N__law_take "_law_take" (defScope (top 11)) f cdv A outer s H E) 0 true (defBody (top 11)) (rd__law_take) := by
  have S := sc__law_take
  exact (pdss_cons (pds_if (pdt_cmp od_gt (pd_ix (pd_var (i := 0) rfl (by first | exact .inl rfl | exact .inr (.inl rfl) | exact .inr (.inr rfl))) pd_int) pd_int) (pdss_cons (pds_asg (pd_callB cd_divmod boot_divmod M.z_divmod (pda_cons (pd_ix (pd_var (i := 0) rfl (by first | exact .inl rfl | exact .inr (.inl rfl) | exact .inr (.inr rfl))) pd_int) (pda_cons (pd_var (i := 1) rfl (by first | exact .inl rfl | exact .inr (.inl rfl) | exact .inr (.inr rfl))) pda_nil))) (pdg_tup (pdgs_cons (pdg_sub (pd_var (i := 0) rfl (by first | exact .inl rfl | exact .inr (.inl rfl) | exact .inr (.inr rfl))) pd_int) (pdgs_cons (pdg_name (i := 2) S.nd rfl (by first | exact .inl rfl | exact .inr rfl)) pdgs_nil))))
    (pdss_one (pds_ret (pd_var (i := 2) rfl (by first | exact .inl rfl | exact .inr (.inl rfl) | exact .inr (.inr rfl)))))) pdss_nil)
    (pdss_cons (pds_asg (pd_bin od_modP (pd_bin od_add (pd_bin od_mul (pd_ix (pd_var (i := 0) rfl (by first | exact .inl rfl | exact .inr (.inl rfl) | exact .inr (.inr rfl))) pd_int) pd_int) pd_int) pd_int) (pdg_sub (pd_var (i := 0) rfl (by first | exact .inl rfl | exact .inr (.inl rfl) | exact .inr (.inr rfl))) pd_int))
    (pdss_one (pds_ret (pd_bin od_modP (pd_bin od_div (pd_bin od_modP (pd_bin od_mul (pd_ix (pd_var (i := 0) rfl (by first | exact .inl rfl | exact .inr (.inl rfl) | exact .inr (.inr rfl))) pd_int) (pd_ix (pd_var (i := 0) rfl (by first | exact .inl rfl | exact .inr (.inl rfl) | exact .inr (.inr rfl))) pd_int)) pd_int) pd_int) (pd_var (i := 1) rfl (by first | exact .inl rfl | exact .inr (.inl rfl) | exact .inr (.inr rfl))))))))
abbrev N__law_among : List Str := ["_law_pot_here", "_law_some"]
abbrev ps__law_among : List Str := ["_law_pot_here", "_law_some"]
theorem sc__law_among : FnScope N__law_among ps__law_among (defScope (top 12)) := ⟨rfl, rfl, rfl, by decide +kernel, rfl, by decide +kernel, by decide +kernel⟩
theorem sl__law_among {a0 a1 : D} : slots N__law_among [a0, a1] = [some a0, some a1] := rfl
def rd__law_among (sp__law_take : DSp) : DS :=
  dRet ((dBin rIx (dVar 1) ((dCall sp__law_take ((dCons (dVar 0) ((dCons ((dCB rLen ((dCons (dVar 1) (dNil))))) (dNil)))))))))
theorem bd__law_among {P : Program} {w : World} {K : PySem.W.Frag} {mg : Str → Option Value} {base : Heap} {sp__law_take : DSp} (M : Tx mg) (h__law_take : HasF P w K mg base "_law_take" 1 ps__law_take sp__law_take) (f : Addr) (cdv : Value) (A : Around) (outer : List Env) (s : Shared) (H : Hp) (E : XK) :
    PDSs (cxOf (L2.CX P w) P w K mg base N__law_among "_law_among" (defScope (top 12)) f cdv A outer s H E) 1 true (defBody (top 12)) (rd__law_among sp__law_take) := by
  have S := sc__law_among
  exact (pdss_one (pds_ret (pd_ix (pd_var (i := 1) rfl (by first | exact .inl rfl | exact .inr (.inl rfl) | exact .inr (.inr rfl))) (pd_call h__law_take (by decide) (pda_cons (pd_var (i := 0) rfl (by first | exact .inl rfl | exact .inr (.inl rfl) | exact .inr (.inr rfl))) (pda_cons (pd_callB cd_len boot_len M.z_len (pda_cons (pd_var (i := 1) rfl (by first | exact .inl rfl | exact .inr (.inl rfl) | exact .inr (.inr rfl))) pda_nil)) pda_nil))))))
abbrev N__law_whole : List Str := ["_law_pot_here", "_law_some"]
abbrev ps__law_whole : List Str := ["_law_pot_here"]
theorem sc__law_whole : FnScope N__law_whole ps__law_whole (defScope (top 13)) := ⟨rfl, rfl, rfl, by decide +kernel, rfl, by decide +kernel, by decide +kernel⟩
theorem sl__law_whole {a0 : D} : slots N__law_whole [a0] = [some a0, none] := rfl
def rd__law_whole (sp__law_take : DSp) : DS :=
  (dSeq (dAsg ((dLst ((dCons (dC (.int 0)) ((dCons (dC (.int 1)) ((dCons ((dUn rNeg (dC (.int 1)))) ((dCons ((dBin rSub ((dCall sp__law_take ((dCons (dVar 0) ((dCons (dC (.int 30)) (dNil))))))) (dC (.int 15)))) ((dCons ((dBin rSub ((dCall sp__law_take ((dCons (dVar 0) ((dCons (dC (.int 400)) (dNil))))))) (dC (.int 200)))) ((dCons ((dBin rSub ((dCall sp__law_take ((dCons (dVar 0) ((dCons ((dBin rMul (dC (.int 2)) ((dBin rPow (dC (.int 10)) (dC (.int 30)))))) (dNil))))))) ((dBin rPow (dC (.int 10)) (dC (.int 30)))))) (dNil))))))))))))))) (gdName 1))
    (dRet ((dBin rIx (dVar 1) ((dCall sp__law_take ((dCons (dVar 0) ((dCons (dC (.int 6)) (dNil)))))))))))
theorem bd__law_whole {P : Program} {w : World} {K : PySem.W.Frag} {mg : Str → Option Value} {base : Heap} {sp__law_take : DSp} (M : Tx mg) (h__law_take : HasF P w K mg base "_law_take" 1 ps__law_take sp__law_take) (f : Addr) (cdv : Value) (A : Around) (outer : List Env) (s : Shared) (H : Hp) (E : XK) :
    PDSs (cxOf (L2.CX P w) P w K mg base N__law_whole "_law_whole" (defScope (top 13)) f cdv A outer s H E) 1 true (defBody (top 13)) (rd__law_whole sp__law_take) := by
  have S := sc__law_whole
  exact (pdss_cons (pds_set (i := 1) S.nd rfl (by first | exact .inl rfl | exact .inr rfl) (pd_lst (pda_cons pd_int (pda_cons pd_int (pda_cons (pd_un od_neg pd_int) (pda_cons (pd_bin od_sub (pd_call h__law_take (by decide) (pda_cons (pd_var (i := 0) rfl (by first | exact .inl rfl | exact .inr (.inl rfl) | exact .inr (.inr rfl))) (pda_cons pd_int pda_nil))) pd_int) (pda_cons (pd_bin od_sub (pd_call h__law_take (by decide) (pda_cons (pd_var (i := 0) rfl (by first | exact .inl rfl | exact .inr (.inl rfl) | exact .inr (.inr rfl))) (pda_cons pd_int pda_nil))) pd_int) (pda_cons (pd_bin od_sub (pd_call h__law_take (by decide) (pda_cons (pd_var (i := 0) rfl (by first | exact .inl rfl | exact .inr (.inl rfl) | exact .inr (.inr rfl))) (pda_cons (pd_bin od_mul pd_int (pd_bin od_pow pd_int pd_int)) pda_nil))) (pd_bin od_pow pd_int pd_int)) pda_nil))))))))
    (pdss_one (pds_ret (pd_ix (pd_var (i := 1) rfl (by first | exact .inl rfl | exact .inr (.inl rfl) | exact .inr (.inr rfl))) (pd_call h__law_take (by decide) (pda_cons (pd_var (i := 0) rfl (by first | exact .inl rfl | exact .inr (.inl rfl) | exact .inr (.inr rfl))) (pda_cons pd_int pda_nil)))))))
abbrev N__law_lower : List Str := ["_law_pot_here", "_law_found"]
abbrev ps__law_lower : List Str := ["_law_pot_here"]
theorem sc__law_lower : FnScope N__law_lower ps__law_lower (defScope (top 14)) := ⟨rfl, rfl, rfl, by decide +kernel, rfl, by decide +kernel, by decide +kernel⟩
theorem sl__law_lower {a0 : D} : slots N__law_lower [a0] = [some a0, none] := rfl
def rd__law_lower (sp__law_whole sp__law_take : DSp) : DS :=
  (dSeq (dAsg ((dCall sp__law_whole ((dCons (dVar 0) (dNil))))) (gdName 1))
    (dRet ((dIf (dTest (dBin rNe (dVar 1) (dC (.int 0)))) (dVar 1) ((dBin rAdd (dC (.int 1)) ((dCall sp__law_take ((dCons (dVar 0) ((dCons (dC (.int 9)) (dNil)))))))))))))
theorem bd__law_lower {P : Program} {w : World} {K : PySem.W.Frag} {mg : Str → Option Value} {base : Heap} {sp__law_whole sp__law_take : DSp} (M : Tx mg) (h__law_whole : HasF P w K mg base "_law_whole" 2 ps__law_whole sp__law_whole) (h__law_take : HasF P w K mg base "_law_take" 1 ps__law_take sp__law_take) (f : Addr) (cdv : Value) (A : Around) (outer : List Env) (s : Shared) (H : Hp) (E : XK) :
    PDSs (cxOf (L2.CX P w) P w K mg base N__law_lower "_law_lower" (defScope (top 14)) f cdv A outer s H E) 2 true (defBody (top 14)) (rd__law_lower sp__law_whole sp__law_take) := by
  have S := sc__law_lower
  exact (pdss_cons (pds_set (i := 1) S.nd rfl (by first | exact .inl rfl | exact .inr rfl) (pd_call h__law_whole (by decide) (pda_cons (pd_var (i := 0) rfl (by first | exact .inl rfl | exact .inr (.inl rfl) | exact .inr (.inr rfl))) pda_nil)))
    (pdss_one (pds_ret (pd_ifExp (pdt_cmp od_ne (pd_var (i := 1) rfl (by first | exact .inl rfl | exact .inr (.inl rfl) | exact .inr (.inr rfl))) pd_int) (pd_var (i := 1) rfl (by first | exact .inl rfl | exact .inr (.inl rfl) | exact .inr (.inr rfl))) (pd_bin od_add pd_int (pd_call h__law_take (by decide) (pda_cons (pd_var (i := 0) rfl (by first | exact .inl rfl | exact .inr (.inl rfl) | exact .inr (.inr rfl))) (pda_cons pd_int pda_nil))))))))
abbrev N__law_share : List Str := ["_law_one", "_law_other", "_law_here", "_law_there"]
abbrev ps__law_share : List Str := ["_law_one", "_law_other"]
theorem sc__law_share : FnScope N__law_share ps__law_share (defScope (top 15)) := ⟨rfl, rfl, rfl, by decide +kernel, rfl, by decide +kernel, by decide +kernel⟩
theorem sl__law_share {a0 a1 : D} : slots N__law_share [a0, a1] = [some a0, some a1, none, none] := rfl
def rd__law_share : DS :=
  (dSeq (dPar 2 3 ((dCons ((dCB rAbs ((dCons (dVar 0) (dNil))))) ((dCons ((dCB rAbs ((dCons (dVar 1) (dNil))))) (dNil))))))
    ((dSeq (dWhile (dTest (dBin rGt (dVar 3) (dC (.int 0)))) (dPar 2 3 ((dCons (dVar 3) ((dCons ((dBin rModP (dVar 2) (dVar 3))) (dNil)))))))
    (dRet (dVar 2)))))
theorem bd__law_share {P : Program} {w : World} {K : PySem.W.Frag} {mg : Str → Option Value} {base : Heap} (M : Tx mg) (f : Addr) (cdv : Value) (A : Around) (outer : List Env) (s : Shared) (H : Hp) (E : XK) :
    PDSs (cxOf (L2.CX P w) P w K mg base N__law_share "_law_share" (defScope (top 15)) f cdv A outer s H E) 0 true (defBody (top 15)) (rd__law_share) := by
  have S := sc__law_share
  exact (pdss_cons (pds_par (i := 2) (j := 3) S.nd rfl rfl (by decide) rfl rfl (pda_cons (pd_callB cd_abs boot_abs M.z_abs (pda_cons (pd_var (i := 0) rfl (by first | exact .inl rfl | exact .inr (.inl rfl) | exact .inr (.inr rfl))) pda_nil)) (pda_cons (pd_callB cd_abs boot_abs M.z_abs (pda_cons (pd_var (i := 1) rfl (by first | exact .inl rfl | exact .inr (.inl rfl) | exact .inr (.inr rfl))) pda_nil)) pda_nil)))
    (pdss_cons (pds_while (pdt_cmp od_gt (pd_var (i := 3) rfl (by first | exact .inl rfl | exact .inr (.inl rfl) | exact .inr (.inr rfl))) pd_int) (pdss_one (pds_par (i := 2) (j := 3) S.nd rfl rfl (by decide) rfl rfl (pda_cons (pd_var (i := 3) rfl (by first | exact .inl rfl | exact .inr (.inl rfl) | exact .inr (.inr rfl))) (pda_cons (pd_bin od_modP (pd_var (i := 2) rfl (by first | exact .inl rfl | exact .inr (.inl rfl) | exact .inr (.inr rfl))) (pd_var (i := 3) rfl (by first | exact .inl rfl | exact .inr (.inl rfl) | exact .inr (.inr rfl)))) pda_nil)))))
    (pdss_one (pds_ret (pd_var (i := 2) rfl (by first | exact .inl rfl | exact .inr (.inl rfl) | exact .inr (.inr rfl)))))))
abbrev N__law_is_lowest : List Str := ["_law_thing", "_law_part"]
abbrev ps__law_is_lowest : List Str := ["_law_thing"]
theorem sc__law_is_lowest : FnScope N__law_is_lowest ps__law_is_lowest (defScope (top 16)) := ⟨rfl, rfl, rfl, by decide +kernel, rfl, by decide +kernel, by decide +kernel⟩
theorem sl__law_is_lowest {a0 : D} : slots N__law_is_lowest [a0] = [some a0, none] := rfl
def rd__law_is_lowest (sp__law_share : DSp) : DS :=
  (dSeq (dIfS ((dOr ((dNot (dTest ((dCB rIsi ((dCons (dVar 0) ((dCons (dC (.ty "tuple")) (dNil)))))))))) (dTest (dBin rNe ((dCB rLen ((dCons (dVar 0) (dNil))))) (dC (.int 2)))))) (dRet (dC (.bl false))) (dNext))
    ((dSeq (dIfS ((dNot (dTest ((dCB rAll ((dCons ((dLc (diVal (dVar 0)) (gdName 1) (dYes) ((dAndV ((dCB rIsi ((dCons (dVar 1) ((dCons (dC (.ty "int")) (dNil))))))) ((dNotV ((dCB rIsi ((dCons (dVar 1) ((dCons (dC (.ty "bool")) (dNil))))))))))) [1])) (dNil)))))))) (dRet (dC (.bl false))) (dNext))
    (dRet ((dAndV ((dBin rGt ((dBin rIx (dVar 0) (dC (.int 1)))) (dC (.int 0)))) ((dBin rEq ((dCall sp__law_share ((dCons ((dBin rIx (dVar 0) (dC (.int 0)))) ((dCons ((dBin rIx (dVar 0) (dC (.int 1)))) (dNil))))))) (dC (.int 1))))))))))
theorem bd__law_is_lowest {P : Program} {w : World} {K : PySem.W.Frag} {mg : Str → Option Value} {base : Heap} {sp__law_share : DSp} (M : Tx mg) (h__law_share : HasF P w K mg base "_law_share" 1 ps__law_share sp__law_share) (f : Addr) (cdv : Value) (A : Around) (outer : List Env) (s : Shared) (H : Hp) (E : XK) :
    PDSs (cxOf (L2.CX P w) P w K mg base N__law_is_lowest "_law_is_lowest" (defScope (top 16)) f cdv A outer s H E) 1 true (defBody (top 16)) (rd__law_is_lowest sp__law_share) := by
  have S := sc__law_is_lowest
  exact (pdss_cons (pds_if (pdw_or (pdt_not (pdt_val (pd_callB cd_isi boot_isinstance M.z_isinstance (pda_cons (pd_var (i := 0) rfl (by first | exact .inl rfl | exact .inr (.inl rfl) | exact .inr (.inr rfl))) (pda_cons (pd_ty boot_tuple M.z_tuple) pda_nil))))) (pdw_or1 (pdt_cmp od_ne (pd_callB cd_len boot_len M.z_len (pda_cons (pd_var (i := 0) rfl (by first | exact .inl rfl | exact .inr (.inl rfl) | exact .inr (.inr rfl))) pda_nil)) pd_int))).pt (pdss_one (pds_ret pd_bl)) pdss_nil)
    (pdss_cons (pds_if (pdt_not (pdt_val (pd_callB cd_all boot_all M.z_all (pda_cons (pd_lcG (own := [("_law_part", 1)]) S.nd (pdi_val (pd_var (i := 0) rfl (by first | exact .inl rfl | exact .inr (.inl rfl) | exact .inr (.inr rfl)))) (show BlkOk N__law_is_lowest (defScope (top 16)) _ [("_law_part", 1)] from ⟨rfl, by decide +kernel, by decide +kernel, by decide +kernel, by decide +kernel⟩) (lct_name (i := 1) S.nd rfl (by decide) (fun _ _ => (by first | exact .inl rfl | exact .inr rfl)) (fun _ _ => (by first | exact .inl rfl | exact .inr rfl))) (fun _ _ _ _ _ => pdts_nil) (fun _ _ _ _ _ => (pd_and (pd_callB cd_isi boot_isinstance M.z_isinstance (pda_cons (pd_var (i := 1) rfl (by first | exact .inl rfl | exact .inr (.inl rfl) | exact .inr (.inr rfl))) (pda_cons (pd_ty boot_int M.z_int) pda_nil))) (pd_one (pd_not (pd_callB cd_isi boot_isinstance M.z_isinstance (pda_cons (pd_var (i := 1) rfl (by first | exact .inl rfl | exact .inr (.inl rfl) | exact .inr (.inr rfl))) (pda_cons (pd_ty boot_bool M.z_bool) pda_nil))))))) finF) pda_nil)))) (pdss_one (pds_ret pd_bl)) pdss_nil)
    (pdss_one (pds_ret (pd_and (pd_cmp od_gt (pd_ix (pd_var (i := 0) rfl (by first | exact .inl rfl | exact .inr (.inl rfl) | exact .inr (.inr rfl))) pd_int) pd_int) (pd_one (pd_cmp od_eq (pd_call h__law_share (by decide) (pda_cons (pd_ix (pd_var (i := 0) rfl (by first | exact .inl rfl | exact .inr (.inl rfl) | exact .inr (.inr rfl))) pd_int) (pda_cons (pd_ix (pd_var (i := 0) rfl (by first | exact .inl rfl | exact .inr (.inl rfl) | exact .inr (.inr rfl))) pd_int) pda_nil))) pd_int)))))))
abbrev N__law_is : List Str := ["_law_told", "_law_upper", "_law_lower_here"]
abbrev ps__law_is : List Str := ["_law_told", "_law_upper", "_law_lower_here"]
theorem sc__law_is : FnScope N__law_is ps__law_is (defScope (top 17)) := ⟨rfl, rfl, rfl, by decide +kernel, rfl, by decide +kernel, by decide +kernel⟩
theorem sl__law_is {a0 a1 a2 : D} : slots N__law_is [a0, a1, a2] = [some a0, some a1, some a2] := rfl
def rd__law_is (sp__law_is_lowest : DSp) : DS :=
  dRet ((dAndV ((dCall sp__law_is_lowest ((dCons (dVar 0) (dNil))))) ((dBin rEq ((dBin rMul ((dBin rIx (dVar 0) (dC (.int 0)))) (dVar 2))) ((dBin rMul (dVar 1) ((dBin rIx (dVar 0) (dC (.int 1))))))))))
theorem bd__law_is {P : Program} {w : World} {K : PySem.W.Frag} {mg : Str → Option Value} {base : Heap} {sp__law_is_lowest : DSp} (M : Tx mg) (h__law_is_lowest : HasF P w K mg base "_law_is_lowest" 2 ps__law_is_lowest sp__law_is_lowest) (f : Addr) (cdv : Value) (A : Around) (outer : List Env) (s : Shared) (H : Hp) (E : XK) :
    PDSs (cxOf (L2.CX P w) P w K mg base N__law_is "_law_is" (defScope (top 17)) f cdv A outer s H E) 2 true (defBody (top 17)) (rd__law_is sp__law_is_lowest) := by
  have S := sc__law_is
  exact (pdss_one (pds_ret (pd_and (pd_call h__law_is_lowest (by decide) (pda_cons (pd_var (i := 0) rfl (by first | exact .inl rfl | exact .inr (.inl rfl) | exact .inr (.inr rfl))) pda_nil)) (pd_one (pd_cmp od_eq (pd_bin od_mul (pd_ix (pd_var (i := 0) rfl (by first | exact .inl rfl | exact .inr (.inl rfl) | exact .inr (.inr rfl))) pd_int) (pd_var (i := 2) rfl (by first | exact .inl rfl | exact .inr (.inl rfl) | exact .inr (.inr rfl)))) (pd_bin od_mul (pd_var (i := 1) rfl (by first | exact .inl rfl | exact .inr (.inl rfl) | exact .inr (.inr rfl))) (pd_ix (pd_var (i := 0) rfl (by first | exact .inl rfl | exact .inr (.inl rfl) | exact .inr (.inr rfl))) pd_int)))))))
abbrev N__law_odd : List Str := ["_law_pot_here", "_law_good", "_law_some"]
abbrev ps__law_odd : List Str := ["_law_pot_here"]
theorem sc__law_odd : FnScope N__law_odd ps__law_odd (defScope (top 18)) := ⟨rfl, rfl, rfl, by decide +kernel, rfl, by decide +kernel, by decide +kernel⟩
theorem sl__law_odd {a0 : D} : slots N__law_odd [a0] = [some a0, none, none] := rfl
def rd__law_odd (sp_fraction sp__law_lower sp__law_whole sp__law_among : DSp) : DS :=
  (dSeq (dAsg ((dCall sp_fraction ((dCons ((dCall sp__law_whole ((dCons (dVar 0) (dNil))))) ((dCons ((dCall sp__law_lower ((dCons (dVar 0) (dNil))))) (dNil))))))) (gdName 1))
    ((dSeq (dAsg ((dLst ((dCons (dC .non) ((dCons (dC (.int 0)) ((dCons (dC (.bl true)) ((dCons (dC (.int 1)) ((dCons (dC (.str "1/2")) ((dCons (dC (.str "")) ((dCons ((dTup (dNil))) ((dCons ((dTup ((dCons (dC (.int 1)) (dNil))))) ((dCons ((dTup ((dCons (dC (.int 1)) ((dCons (dC (.int 2)) ((dCons (dC (.int 1)) (dNil))))))))) ((dCons ((dLst ((dCons (dC (.int 1)) ((dCons (dC (.int 2)) (dNil))))))) ((dCons ((dTup ((dCons (dC (.int 0)) ((dCons (dC (.int 2)) (dNil))))))) ((dCons ((dTup ((dCons (dC (.int 2)) ((dCons (dC (.int 4)) (dNil))))))) ((dCons ((dTup ((dCons (dC (.int 1)) ((dCons (dC (.int 0)) (dNil))))))) ((dCons ((dTup ((dCons (dC (.int 0)) ((dCons (dC (.int 0)) (dNil))))))) ((dCons ((dTup ((dCons (dC (.int 1)) ((dCons ((dUn rNeg (dC (.int 2)))) (dNil))))))) ((dCons ((dTup ((dCons ((dUn rNeg (dC (.int 3)))) ((dCons ((dUn rNeg (dC (.int 1)))) (dNil))))))) (dNil))))))))))))))))))))))))))))))))))) (gdName 2))
    ((dSeq (dAsg ((dBin rAdd (dVar 2) ((dLst ((dCons ((dTup ((dCons (dC (.bl true)) ((dCons (dC (.int 2)) (dNil))))))) ((dCons ((dTup ((dCons (dC (.int 1)) ((dCons (dC (.bl true)) (dNil))))))) ((dCons ((dTup ((dCons (dC (.int 0)) ((dCons (dC (.bl true)) (dNil))))))) ((dCons ((dTup ((dCons (dC (.str "1")) ((dCons (dC (.int 2)) (dNil))))))) ((dCons ((dTup ((dCons (dC (.int 1)) ((dCons (dC .non) (dNil))))))) ((dCons (dDct0) ((dCons ((dTup ((dCons ((dTup ((dCons (dC (.int 1)) ((dCons (dC (.int 2)) (dNil))))))) ((dCons (dC (.int 1)) (dNil))))))) ((dCons ((dTup ((dCons (dC (.bl false)) ((dCons (dC (.int 1)) (dNil))))))) ((dCons ((dLst (dNil))) ((dCons ((dTup ((dCons (dC .non) ((dCons (dC .non) (dNil))))))) (dNil))))))))))))))))))))))))) (gdName 2))
    ((dSeq (dAsg ((dBin rAdd (dVar 2) ((dLst ((dCons ((dCB rListF ((dCons (dVar 1) (dNil))))) ((dCons ((dBin rAdd (dVar 1) (dVar 1))) ((dCons ((dTup ((dCons ((dBin rIx (dVar 1) (dC (.int 0)))) ((dCons ((dUn rNeg ((dBin rIx (dVar 1) (dC (.int 1)))))) (dNil))))))) ((dCons ((dTup ((dCons ((dBin rMul (dC (.int 2)) ((dBin rIx (dVar 1) (dC (.int 0)))))) ((dCons ((dBin rMul (dC (.int 2)) ((dBin rIx (dVar 1) (dC (.int 1)))))) (dNil))))))) ((dCons ((dTup ((dCons (dVar 1) (dNil))))) ((dCons ((dTup ((dCons (dC (.int 3)) ((dCons ((dBin rPow (dC (.int 10)) (dC (.int 30)))) (dNil))))))) (dNil))))))))))))))))) (gdName 2))
    (dRet ((dCall sp__law_among ((dCons (dVar 0) ((dCons ((dBin rAdd (dVar 2) ((dLst ((dCons (dVar 1) (dNil))))))) (dNil)))))))))))))))
theorem bd__law_odd {P : Program} {w : World} {K : PySem.W.Frag} {mg : Str → Option Value} {base : Heap} {sp_fraction sp__law_lower sp__law_whole sp__law_among : DSp} (M : Tx mg) (h_fraction : HasF P w K mg base "fraction" 2 ps_fraction sp_fraction) (h__law_lower : HasF P w K mg base "_law_lower" 3 ps__law_lower sp__law_lower) (h__law_whole : HasF P w K mg base "_law_whole" 2 ps__law_whole sp__law_whole) (h__law_among : HasF P w K mg base "_law_among" 2 ps__law_among sp__law_among) (f : Addr) (cdv : Value) (A : Around) (outer : List Env) (s : Shared) (H : Hp) (E : XK) :
    PDSs (cxOf (L2.CX P w) P w K mg base N__law_odd "_law_odd" (defScope (top 18)) f cdv A outer s H E) 3 true (defBody (top 18)) (rd__law_odd sp_fraction sp__law_lower sp__law_whole sp__law_among) := by
  have S := sc__law_odd
  exact (pdss_cons (pds_set (i := 1) S.nd rfl (by first | exact .inl rfl | exact .inr rfl) (pd_call h_fraction (by decide) (pda_cons (pd_call h__law_whole (by decide) (pda_cons (pd_var (i := 0) rfl (by first | exact .inl rfl | exact .inr (.inl rfl) | exact .inr (.inr rfl))) pda_nil)) (pda_cons (pd_call h__law_lower (by decide) (pda_cons (pd_var (i := 0) rfl (by first | exact .inl rfl | exact .inr (.inl rfl) | exact .inr (.inr rfl))) pda_nil)) pda_nil))))
    (pdss_cons (pds_set (i := 2) S.nd rfl (by first | exact .inl rfl | exact .inr rfl) (pd_lst (pda_cons pd_non (pda_cons pd_int (pda_cons pd_bl (pda_cons pd_int (pda_cons pd_str (pda_cons pd_str (pda_cons (pd_tup pda_nil) (pda_cons (pd_tup (pda_cons pd_int pda_nil)) (pda_cons (pd_tup (pda_cons pd_int (pda_cons pd_int (pda_cons pd_int pda_nil)))) (pda_cons (pd_lst (pda_cons pd_int (pda_cons pd_int pda_nil))) (pda_cons (pd_tup (pda_cons pd_int (pda_cons pd_int pda_nil))) (pda_cons (pd_tup (pda_cons pd_int (pda_cons pd_int pda_nil))) (pda_cons (pd_tup (pda_cons pd_int (pda_cons pd_int pda_nil))) (pda_cons (pd_tup (pda_cons pd_int (pda_cons pd_int pda_nil))) (pda_cons (pd_tup (pda_cons pd_int (pda_cons (pd_un od_neg pd_int) pda_nil))) (pda_cons (pd_tup (pda_cons (pd_un od_neg pd_int) (pda_cons (pd_un od_neg pd_int) pda_nil))) pda_nil))))))))))))))))))
    (pdss_cons (pds_set (i := 2) S.nd rfl (by first | exact .inl rfl | exact .inr rfl) (pd_bin od_add (pd_var (i := 2) rfl (by first | exact .inl rfl | exact .inr (.inl rfl) | exact .inr (.inr rfl))) (pd_lst (pda_cons (pd_tup (pda_cons pd_bl (pda_cons pd_int pda_nil))) (pda_cons (pd_tup (pda_cons pd_int (pda_cons pd_bl pda_nil))) (pda_cons (pd_tup (pda_cons pd_int (pda_cons pd_bl pda_nil))) (pda_cons (pd_tup (pda_cons pd_str (pda_cons pd_int pda_nil))) (pda_cons (pd_tup (pda_cons pd_int (pda_cons pd_non pda_nil))) (pda_cons (pd_dct0) (pda_cons (pd_tup (pda_cons (pd_tup (pda_cons pd_int (pda_cons pd_int pda_nil))) (pda_cons pd_int pda_nil))) (pda_cons (pd_tup (pda_cons pd_bl (pda_cons pd_int pda_nil))) (pda_cons (pd_lst pda_nil) (pda_cons (pd_tup (pda_cons pd_non (pda_cons pd_non pda_nil))) pda_nil)))))))))))))
    (pdss_cons (pds_set (i := 2) S.nd rfl (by first | exact .inl rfl | exact .inr rfl) (pd_bin od_add (pd_var (i := 2) rfl (by first | exact .inl rfl | exact .inr (.inl rfl) | exact .inr (.inr rfl))) (pd_lst (pda_cons (pd_callTy cd_listF boot_list M.z_list (pda_cons (pd_var (i := 1) rfl (by first | exact .inl rfl | exact .inr (.inl rfl) | exact .inr (.inr rfl))) pda_nil)) (pda_cons (pd_bin od_add (pd_var (i := 1) rfl (by first | exact .inl rfl | exact .inr (.inl rfl) | exact .inr (.inr rfl))) (pd_var (i := 1) rfl (by first | exact .inl rfl | exact .inr (.inl rfl) | exact .inr (.inr rfl)))) (pda_cons (pd_tup (pda_cons (pd_ix (pd_var (i := 1) rfl (by first | exact .inl rfl | exact .inr (.inl rfl) | exact .inr (.inr rfl))) pd_int) (pda_cons (pd_un od_neg (pd_ix (pd_var (i := 1) rfl (by first | exact .inl rfl | exact .inr (.inl rfl) | exact .inr (.inr rfl))) pd_int)) pda_nil))) (pda_cons (pd_tup (pda_cons (pd_bin od_mul pd_int (pd_ix (pd_var (i := 1) rfl (by first | exact .inl rfl | exact .inr (.inl rfl) | exact .inr (.inr rfl))) pd_int)) (pda_cons (pd_bin od_mul pd_int (pd_ix (pd_var (i := 1) rfl (by first | exact .inl rfl | exact .inr (.inl rfl) | exact .inr (.inr rfl))) pd_int)) pda_nil))) (pda_cons (pd_tup (pda_cons (pd_var (i := 1) rfl (by first | exact .inl rfl | exact .inr (.inl rfl) | exact .inr (.inr rfl))) pda_nil)) (pda_cons (pd_tup (pda_cons pd_int (pda_cons (pd_bin od_pow pd_int pd_int) pda_nil))) pda_nil)))))))))
    (pdss_one (pds_ret (pd_call h__law_among (by decide) (pda_cons (pd_var (i := 0) rfl (by first | exact .inl rfl | exact .inr (.inl rfl) | exact .inr (.inr rfl))) (pda_cons (pd_bin od_add (pd_var (i := 2) rfl (by first | exact .inl rfl | exact .inr (.inl rfl) | exact .inr (.inr rfl))) (pd_lst (pda_cons (pd_var (i := 1) rfl (by first | exact .inl rfl | exact .inr (.inl rfl) | exact .inr (.inr rfl))) pda_nil))) pda_nil)))))))))
abbrev N_law : List Str := ["_law_script", "_law_k", "_law_pot_here", "_law_turn", "_law_a", "_law_b", "_law_c", "_law_d", "_law_one", "_law_other", "_law_due", "_law_thing", "_law_shown"]
abbrev ps_law : List Str := ["_law_script"]
theorem sc_law : FnScope N_law ps_law (defScope (top 19)) := ⟨rfl, rfl, rfl, by decide +kernel, rfl, by decide +kernel, by decide +kernel⟩
theorem sl_law {a0 : D} : slots N_law [a0] = [some a0, none, none, none, none, none, none, none, none, none, none, none, none] := rfl
def rd_law (sp__law_pot sp__law_lower sp__law_whole sp_fraction sp__law_is sp_is_fraction sp_plus sp_times sp_minus sp_is_less sp__law_odd sp__law_is_lowest : DSp) : DS :=
  (dSeq (dFor (diRng1 ((dCons ((dCB rMax2 ((dCons (dC (.int 2)) ((dCons ((dCB rMin2 ((dCons ((dCB rLen ((dCons (dVar 0) (dNil))))) ((dCons (dC (.int 5)) (dNil))))))) (dNil))))))) (dNil)))) (gdName 1)
    ((dSeq (dAsg ((dCall sp__law_pot ((dCons (dVar 0) ((dCons (dVar 1) (dNil))))))) (gdName 2))
    (dFor (diRng1 ((dCons (dC (.int 6)) (dNil)))) (gdName 3)
    ((dSeq (dPar 4 5 ((dCons ((dCall sp__law_whole ((dCons (dVar 2) (dNil))))) ((dCons ((dCall sp__law_lower ((dCons (dVar 2) (dNil))))) (dNil))))))
    ((dSeq (dPar 6 7 ((dCons ((dCall sp__law_whole ((dCons (dVar 2) (dNil))))) ((dCons ((dCall sp__law_lower ((dCons (dVar 2) (dNil))))) (dNil))))))
    ((dSeq (dPar 8 9 ((dCons ((dCall sp_fraction ((dCons (dVar 4) ((dCons (dVar 5) (dNil))))))) ((dCons ((dCall sp_fraction ((dCons (dVar 6) ((dCons (dVar 7) (dNil))))))) (dNil))))))
    ((dSeq (dIfS ((dOr ((dNot (dTest ((dCall sp__law_is ((dCons (dVar 8) ((dCons (dVar 4) ((dCons (dVar 5) (dNil)))))))))))) ((dOr ((dNot (dTest ((dCall sp__law_is ((dCons (dVar 9) ((dCons (dVar 6) ((dCons (dVar 7) (dNil)))))))))))) ((dNot (dTest ((dCall sp_is_fraction ((dCons (dVar 8) (dNil)))))))))))) (dRet (dC (.bl false))) (dNext))
    ((dSeq (dIfS ((dNot (dTest ((dCall sp__law_is ((dCons ((dCall sp_plus ((dCons (dVar 8) ((dCons (dVar 9) (dNil))))))) ((dCons ((dBin rAdd ((dBin rMul (dVar 4) (dVar 7))) ((dBin rMul (dVar 6) (dVar 5))))) ((dCons ((dBin rMul (dVar 5) (dVar 7))) (dNil)))))))))))) (dRet (dC (.bl false))) (dNext))
    ((dSeq (dIfS ((dNot (dTest ((dCall sp__law_is ((dCons ((dCall sp_times ((dCons (dVar 8) ((dCons (dVar 9) (dNil))))))) ((dCons ((dBin rMul (dVar 4) (dVar 6))) ((dCons ((dBin rMul (dVar 5) (dVar 7))) (dNil)))))))))))) (dRet (dC (.bl false))) (dNext))
    ((dSeq (dIfS ((dOr ((dNot (dTest ((dCall sp__law_is ((dCons ((dCall sp_minus ((dCons (dVar 8) ((dCons (dVar 9) (dNil))))))) ((dCons ((dBin rSub ((dBin rMul (dVar 4) (dVar 7))) ((dBin rMul (dVar 6) (dVar 5))))) ((dCons ((dBin rMul (dVar 5) (dVar 7))) (dNil)))))))))))) (dTest (dBin rNe ((dCall sp_minus ((dCons (dVar 8) ((dCons (dVar 8) (dNil))))))) ((dTup ((dCons (dC (.int 0)) ((dCons (dC (.int 1)) (dNil))))))))))) (dRet (dC (.bl false))) (dNext))
    ((dSeq (dAsg ((dBin rLt ((dBin rMul ((dBin rIx (dVar 8) (dC (.int 0)))) ((dBin rIx (dVar 9) (dC (.int 1)))))) ((dBin rMul ((dBin rIx (dVar 9) (dC (.int 0)))) ((dBin rIx (dVar 8) (dC (.int 1)))))))) (gdName 10))
    ((dSeq (dIfS (dTest (dBin rNe ((dCB rRepr ((dCons ((dLst ((dCons ((dCall sp_is_less ((dCons (dVar 8) ((dCons (dVar 9) (dNil))))))) ((dCons ((dCall sp_is_less ((dCons (dVar 8) ((dCons (dVar 8) (dNil))))))) (dNil))))))) (dNil))))) ((dCB rRepr ((dCons ((dLst ((dCons (dVar 10) ((dCons (dC (.bl false)) (dNil))))))) (dNil))))))) (dRet (dC (.bl false))) (dNext))
    ((dSeq (dAsg ((dCall sp__law_odd ((dCons (dVar 2) (dNil))))) (gdName 11))
    ((dSeq (dAsg ((dCB rRepr ((dCons (dVar 11) (dNil))))) (gdName 12))
    (dIfS ((dOr (dTest (dBin rNe ((dCB rRepr ((dCons ((dCall sp_is_fraction ((dCons (dVar 11) (dNil))))) (dNil))))) ((dCB rRepr ((dCons ((dCall sp__law_is_lowest ((dCons (dVar 11) (dNil))))) (dNil))))))) (dTest (dBin rNe ((dCB rRepr ((dCons (dVar 11) (dNil))))) (dVar 12))))) (dRet (dC (.bl false))) (dNext))))))))))))))))))))))))))))
    (dRet (dC (.bl true))))
theorem bd_law {P : Program} {w : World} {K : PySem.W.Frag} {mg : Str → Option Value} {base : Heap} {sp__law_pot sp__law_lower sp__law_whole sp_fraction sp__law_is sp_is_fraction sp_plus sp_times sp_minus sp_is_less sp__law_odd sp__law_is_lowest : DSp} (M : Tx mg) (h__law_pot : HasF P w K mg base "_law_pot" 1 ps__law_pot sp__law_pot) (h__law_lower : HasF P w K mg base "_law_lower" 3 ps__law_lower sp__law_lower) (h__law_whole : HasF P w K mg base "_law_whole" 2 ps__law_whole sp__law_whole) (h_fraction : HasF P w K mg base "fraction" 2 ps_fraction sp_fraction) (h__law_is : HasF P w K mg base "_law_is" 3 ps__law_is sp__law_is) (h_is_fraction : HasF P w K mg base "is_fraction" 2 ps_is_fraction sp_is_fraction) (h_plus : HasF P w K mg base "plus" 3 ps_plus sp_plus) (h_times : HasF P w K mg base "times" 3 ps_times sp_times) (h_minus : HasF P w K mg base "minus" 3 ps_minus sp_minus) (h_is_less : HasF P w K mg base "is_less" 1 ps_is_less sp_is_less) (h__law_odd : HasF P w K mg base "_law_odd" 4 ps__law_odd sp__law_odd) (h__law_is_lowest : HasF P w K mg base "_law_is_lowest" 2 ps__law_is_lowest sp__law_is_lowest) (f : Addr) (cdv : Value) (A : Around) (outer : List Env) (s : Shared) (H : Hp) (E : XK) :
    PDSs (cxOf (L2.CX P w) P w K mg base N_law "law" (defScope (top 19)) f cdv A outer s H E) 4 true (defBody (top 19)) (rd_law sp__law_pot sp__law_lower sp__law_whole sp_fraction sp__law_is sp_is_fraction sp_plus sp_times sp_minus sp_is_less sp__law_odd sp__law_is_lowest) := by
  have S := sc_law
  exact (pdss_cons (pds_for (pdi_range1 M.z_range (pda_cons (pd_callB cd_max2 boot_max M.z_max (pda_cons pd_int (pda_cons (pd_callB cd_min2 boot_min M.z_min (pda_cons (pd_callB cd_len boot_len M.z_len (pda_cons (pd_var (i := 0) rfl (by first | exact .inl rfl | exact .inr (.inl rfl) | exact .inr (.inr rfl))) pda_nil)) (pda_cons pd_int pda_nil))) pda_nil))) pda_nil)) (pdg_name (i := 1) S.nd rfl (by first | exact .inl rfl | exact .inr rfl))
    (pdss_cons (pds_set (i := 2) S.nd rfl (by first | exact .inl rfl | exact .inr rfl) (pd_call h__law_pot (by decide) (pda_cons (pd_var (i := 0) rfl (by first | exact .inl rfl | exact .inr (.inl rfl) | exact .inr (.inr rfl))) (pda_cons (pd_var (i := 1) rfl (by first | exact .inl rfl | exact .inr (.inl rfl) | exact .inr (.inr rfl))) pda_nil))))
    (pdss_one (pds_for (pdi_range1 M.z_range (pda_cons pd_int pda_nil)) (pdg_name (i := 3) S.nd rfl (by first | exact .inl rfl | exact .inr rfl))
    (pdss_cons (pds_par (i := 4) (j := 5) S.nd rfl rfl (by decide) rfl rfl (pda_cons (pd_call h__law_whole (by decide) (pda_cons (pd_var (i := 2) rfl (by first | exact .inl rfl | exact .inr (.inl rfl) | exact .inr (.inr rfl))) pda_nil)) (pda_cons (pd_call h__law_lower (by decide) (pda_cons (pd_var (i := 2) rfl (by first | exact .inl rfl | exact .inr (.inl rfl) | exact .inr (.inr rfl))) pda_nil)) pda_nil)))
    (pdss_cons (pds_par (i := 6) (j := 7) S.nd rfl rfl (by decide) rfl rfl (pda_cons (pd_call h__law_whole (by decide) (pda_cons (pd_var (i := 2) rfl (by first | exact .inl rfl | exact .inr (.inl rfl) | exact .inr (.inr rfl))) pda_nil)) (pda_cons (pd_call h__law_lower (by decide) (pda_cons (pd_var (i := 2) rfl (by first | exact .inl rfl | exact .inr (.inl rfl) | exact .inr (.inr rfl))) pda_nil)) pda_nil)))
    (pdss_cons (pds_par (i := 8) (j := 9) S.nd rfl rfl (by decide) rfl rfl (pda_cons (pd_call h_fraction (by decide) (pda_cons (pd_var (i := 4) rfl (by first | exact .inl rfl | exact .inr (.inl rfl) | exact .inr (.inr rfl))) (pda_cons (pd_var (i := 5) rfl (by first | exact .inl rfl | exact .inr (.inl rfl) | exact .inr (.inr rfl))) pda_nil))) (pda_cons (pd_call h_fraction (by decide) (pda_cons (pd_var (i := 6) rfl (by first | exact .inl rfl | exact .inr (.inl rfl) | exact .inr (.inr rfl))) (pda_cons (pd_var (i := 7) rfl (by first | exact .inl rfl | exact .inr (.inl rfl) | exact .inr (.inr rfl))) pda_nil))) pda_nil)))
    (pdss_cons (pds_if (pdw_or (pdt_not (pdt_val (pd_call h__law_is (by decide) (pda_cons (pd_var (i := 8) rfl (by first | exact .inl rfl | exact .inr (.inl rfl) | exact .inr (.inr rfl))) (pda_cons (pd_var (i := 4) rfl (by first | exact .inl rfl | exact .inr (.inl rfl) | exact .inr (.inr rfl))) (pda_cons (pd_var (i := 5) rfl (by first | exact .inl rfl | exact .inr (.inl rfl) | exact .inr (.inr rfl))) pda_nil)))))) (pdw_or (pdt_not (pdt_val (pd_call h__law_is (by decide) (pda_cons (pd_var (i := 9) rfl (by first | exact .inl rfl | exact .inr (.inl rfl) | exact .inr (.inr rfl))) (pda_cons (pd_var (i := 6) rfl (by first | exact .inl rfl | exact .inr (.inl rfl) | exact .inr (.inr rfl))) (pda_cons (pd_var (i := 7) rfl (by first | exact .inl rfl | exact .inr (.inl rfl) | exact .inr (.inr rfl))) pda_nil)))))) (pdw_or1 (pdt_not (pdt_val (pd_call h_is_fraction (by decide) (pda_cons (pd_var (i := 8) rfl (by first | exact .inl rfl | exact .inr (.inl rfl) | exact .inr (.inr rfl))) pda_nil))))))).pt (pdss_one (pds_ret pd_bl)) pdss_nil)
    (pdss_cons (pds_if (pdt_not (pdt_val (pd_call h__law_is (by decide) (pda_cons (pd_call h_plus (by decide) (pda_cons (pd_var (i := 8) rfl (by first | exact .inl rfl | exact .inr (.inl rfl) | exact .inr (.inr rfl))) (pda_cons (pd_var (i := 9) rfl (by first | exact .inl rfl | exact .inr (.inl rfl) | exact .inr (.inr rfl))) pda_nil))) (pda_cons (pd_bin od_add (pd_bin od_mul (pd_var (i := 4) rfl (by first | exact .inl rfl | exact .inr (.inl rfl) | exact .inr (.inr rfl))) (pd_var (i := 7) rfl (by first | exact .inl rfl | exact .inr (.inl rfl) | exact .inr (.inr rfl)))) (pd_bin od_mul (pd_var (i := 6) rfl (by first | exact .inl rfl | exact .inr (.inl rfl) | exact .inr (.inr rfl))) (pd_var (i := 5) rfl (by first | exact .inl rfl | exact .inr (.inl rfl) | exact .inr (.inr rfl))))) (pda_cons (pd_bin od_mul (pd_var (i := 5) rfl (by first | exact .inl rfl | exact .inr (.inl rfl) | exact .inr (.inr rfl))) (pd_var (i := 7) rfl (by first | exact .inl rfl | exact .inr (.inl rfl) | exact .inr (.inr rfl)))) pda_nil)))))) (pdss_one (pds_ret pd_bl)) pdss_nil)
    (pdss_cons (pds_if (pdt_not (pdt_val (pd_call h__law_is (by decide) (pda_cons (pd_call h_times (by decide) (pda_cons (pd_var (i := 8) rfl (by first | exact .inl rfl | exact .inr (.inl rfl) | exact .inr (.inr rfl))) (pda_cons (pd_var (i := 9) rfl (by first | exact .inl rfl | exact .inr (.inl rfl) | exact .inr (.inr rfl))) pda_nil))) (pda_cons (pd_bin od_mul (pd_var (i := 4) rfl (by first | exact .inl rfl | exact .inr (.inl rfl) | exact .inr (.inr rfl))) (pd_var (i := 6) rfl (by first | exact .inl rfl | exact .inr (.inl rfl) | exact .inr (.inr rfl)))) (pda_cons (pd_bin od_mul (pd_var (i := 5) rfl (by first | exact .inl rfl | exact .inr (.inl rfl) | exact .inr (.inr rfl))) (pd_var (i := 7) rfl (by first | exact .inl rfl | exact .inr (.inl rfl) | exact .inr (.inr rfl)))) pda_nil)))))) (pdss_one (pds_ret pd_bl)) pdss_nil)
    (pdss_cons (pds_if (pdw_or (pdt_not (pdt_val (pd_call h__law_is (by decide) (pda_cons (pd_call h_minus (by decide) (pda_cons (pd_var (i := 8) rfl (by first | exact .inl rfl | exact .inr (.inl rfl) | exact .inr (.inr rfl))) (pda_cons (pd_var (i := 9) rfl (by first | exact .inl rfl | exact .inr (.inl rfl) | exact .inr (.inr rfl))) pda_nil))) (pda_cons (pd_bin od_sub (pd_bin od_mul (pd_var (i := 4) rfl (by first | exact .inl rfl | exact .inr (.inl rfl) | exact .inr (.inr rfl))) (pd_var (i := 7) rfl (by first | exact .inl rfl | exact .inr (.inl rfl) | exact .inr (.inr rfl)))) (pd_bin od_mul (pd_var (i := 6) rfl (by first | exact .inl rfl | exact .inr (.inl rfl) | exact .inr (.inr rfl))) (pd_var (i := 5) rfl (by first | exact .inl rfl | exact .inr (.inl rfl) | exact .inr (.inr rfl))))) (pda_cons (pd_bin od_mul (pd_var (i := 5) rfl (by first | exact .inl rfl | exact .inr (.inl rfl) | exact .inr (.inr rfl))) (pd_var (i := 7) rfl (by first | exact .inl rfl | exact .inr (.inl rfl) | exact .inr (.inr rfl)))) pda_nil)))))) (pdw_or1 (pdt_cmp od_ne (pd_call h_minus (by decide) (pda_cons (pd_var (i := 8) rfl (by first | exact .inl rfl | exact .inr (.inl rfl) | exact .inr (.inr rfl))) (pda_cons (pd_var (i := 8) rfl (by first | exact .inl rfl | exact .inr (.inl rfl) | exact .inr (.inr rfl))) pda_nil))) (pd_tup (pda_cons pd_int (pda_cons pd_int pda_nil)))))).pt (pdss_one (pds_ret pd_bl)) pdss_nil)
    (pdss_cons (pds_set (i := 10) S.nd rfl (by first | exact .inl rfl | exact .inr rfl) (pd_cmp od_lt (pd_bin od_mul (pd_ix (pd_var (i := 8) rfl (by first | exact .inl rfl | exact .inr (.inl rfl) | exact .inr (.inr rfl))) pd_int) (pd_ix (pd_var (i := 9) rfl (by first | exact .inl rfl | exact .inr (.inl rfl) | exact .inr (.inr rfl))) pd_int)) (pd_bin od_mul (pd_ix (pd_var (i := 9) rfl (by first | exact .inl rfl | exact .inr (.inl rfl) | exact .inr (.inr rfl))) pd_int) (pd_ix (pd_var (i := 8) rfl (by first | exact .inl rfl | exact .inr (.inl rfl) | exact .inr (.inr rfl))) pd_int))))
    (pdss_cons (pds_if (pdt_cmp od_ne (pd_callB cd_repr boot_repr M.z_repr (pda_cons (pd_lst (pda_cons (pd_call h_is_less (by decide) (pda_cons (pd_var (i := 8) rfl (by first | exact .inl rfl | exact .inr (.inl rfl) | exact .inr (.inr rfl))) (pda_cons (pd_var (i := 9) rfl (by first | exact .inl rfl | exact .inr (.inl rfl) | exact .inr (.inr rfl))) pda_nil))) (pda_cons (pd_call h_is_less (by decide) (pda_cons (pd_var (i := 8) rfl (by first | exact .inl rfl | exact .inr (.inl rfl) | exact .inr (.inr rfl))) (pda_cons (pd_var (i := 8) rfl (by first | exact .inl rfl | exact .inr (.inl rfl) | exact .inr (.inr rfl))) pda_nil))) pda_nil))) pda_nil)) (pd_callB cd_repr boot_repr M.z_repr (pda_cons (pd_lst (pda_cons (pd_var (i := 10) rfl (by first | exact .inl rfl | exact .inr (.inl rfl) | exact .inr (.inr rfl))) (pda_cons pd_bl pda_nil))) pda_nil))) (pdss_one (pds_ret pd_bl)) pdss_nil)
    (pdss_cons (pds_set (i := 11) S.nd rfl (by first | exact .inl rfl | exact .inr rfl) (pd_call h__law_odd (by decide) (pda_cons (pd_var (i := 2) rfl (by first | exact .inl rfl | exact .inr (.inl rfl) | exact .inr (.inr rfl))) pda_nil)))
    (pdss_cons (pds_set (i := 12) S.nd rfl (by first | exact .inl rfl | exact .inr rfl) (pd_callB cd_repr boot_repr M.z_repr (pda_cons (pd_var (i := 11) rfl (by first | exact .inl rfl | exact .inr (.inl rfl) | exact .inr (.inr rfl))) pda_nil)))
    (pdss_one (pds_if (pdw_or (pdt_cmp od_ne (pd_callB cd_repr boot_repr M.z_repr (pda_cons (pd_call h_is_fraction (by decide) (pda_cons (pd_var (i := 11) rfl (by first | exact .inl rfl | exact .inr (.inl rfl) | exact .inr (.inr rfl))) pda_nil)) pda_nil)) (pd_callB cd_repr boot_repr M.z_repr (pda_cons (pd_call h__law_is_lowest (by decide) (pda_cons (pd_var (i := 11) rfl (by first | exact .inl rfl | exact .inr (.inl rfl) | exact .inr (.inr rfl))) pda_nil)) pda_nil))) (pdw_or1 (pdt_cmp od_ne (pd_callB cd_repr boot_repr M.z_repr (pda_cons (pd_var (i := 11) rfl (by first | exact .inl rfl | exact .inr (.inl rfl) | exact .inr (.inr rfl))) pda_nil)) (pd_var (i := 12) rfl (by first | exact .inl rfl | exact .inr (.inl rfl) | exact .inr (.inr rfl)))))).pt (pdss_one (pds_ret pd_bl)) pdss_nil)))))))))))))))))
    (pdss_one (pds_ret pd_bl)))
end K71

namespace K71
open DL L2 PyProof.Rows PySem PySem.Spec

/-! ### numbers -/
def gI (a b : Int) : Int := (Int.gcd a b : Nat)
def shr (a b : Int) : Int := gI a b * (if 0 < b then 1 else -1)
def fU (a b : Int) : Int := a.fdiv (shr a b)
def fL (a b : Int) : Int := b.fdiv (shr a b)
theorem gI_mod {x y : Int} (h : 0 < y) : gI y (x % y) = gI x y := by
  unfold gI
  rw [Int.gcd_comm x y, Int.emod_def, Int.mul_comm y, Int.gcd_sub_mul_right_right]
theorem gI_pos {a b : Int} (h : b ≠ 0) : 0 < gI a b := by
  unfold gI
  have : 0 < Int.gcd a b := Int.gcd_pos_of_ne_zero_right a h
  omega
theorem shr_ne {a b : Int} (h : b ≠ 0) : shr a b ≠ 0 := by
  have := gI_pos (a := a) h
  unfold shr
  split <;> omega
theorem shr_abs (a b : Int) : (shr a b).natAbs = Int.gcd a b := by
  unfold shr gI
  split
  · rw [Int.mul_one]; rfl
  · rw [Int.mul_neg, Int.mul_one, Int.natAbs_neg]; rfl
theorem shr_dvd {a b c : Int} (h : (gI a b) ∣ c) : shr a b ∣ c := by
  unfold shr
  split
  · rw [Int.mul_one]; exact h
  · rw [Int.mul_neg, Int.mul_one]; exact Int.neg_dvd.mpr h
theorem fU_mul (a b : Int) : fU a b * shr a b = a := by
  unfold fU
  exact Int.fdiv_mul_cancel (shr_dvd (Int.gcd_dvd_left a b))
theorem fL_mul (a b : Int) : fL a b * shr a b = b := by
  unfold fL
  exact Int.fdiv_mul_cancel (shr_dvd (Int.gcd_dvd_right a b))
theorem fL_pos {a b : Int} (h : b ≠ 0) : 0 < fL a b := by
  have e := fL_mul a b
  have g := gI_pos (a := a) h
  refine Classical.byContradiction fun n => ?_
  have n' : fL a b ≤ 0 := by omega
  unfold shr at e
  by_cases hb : 0 < b
  · rw [if_pos hb, Int.mul_one] at e
    have := Int.mul_nonpos_of_nonpos_of_nonneg n' (Int.le_of_lt g)
    omega
  · rw [if_neg hb, Int.mul_neg, Int.mul_one, Int.mul_neg] at e
    have := Int.mul_nonneg_of_nonpos_of_nonpos n' (show -gI a b ≤ 0 by omega)
    rw [Int.mul_neg] at this
    omega
theorem f_gcd {a b : Int} (h : b ≠ 0) : Int.gcd (fU a b) (fL a b) = 1 := by
  have e := Int.gcd_mul_right (fU a b) (shr a b) (fL a b)
  rw [fU_mul, fL_mul, shr_abs] at e
  have p : 0 < Int.gcd a b := Int.gcd_pos_of_ne_zero_right a h
  exact Nat.eq_of_mul_eq_mul_right p (by omega)
theorem f_cross (a b : Int) : fU a b * b = a * fL a b := by
  have h1 := fU_mul a b
  have h2 := fL_mul a b
  generalize fU a b = u at *
  generalize fL a b = v at *
  generalize shr a b = s at *
  subst h1; rw [← h2]
  simp only [Int.mul_comm, Int.mul_left_comm, Int.mul_assoc]
theorem abs_of_mul {x y z : Int} (h : x * y = z) (hy : y ≠ 0) : x.natAbs ≤ z.natAbs := by
  rw [← h, Int.natAbs_mul]
  exact Nat.le_mul_of_pos_right _ (by omega)
theorem fU_bd {n : Nat} {a b : Int} (h : b ≠ 0) (k : Bd n a) : Bd n (fU a b) := k.of_le (abs_of_mul (fU_mul a b) (shr_ne h))
theorem fL_bd {n : Nat} {a b : Int} (h : b ≠ 0) (k : Bd n b) : Bd n (fL a b) := k.of_le (abs_of_mul (fL_mul a b) (shr_ne h))
theorem gI_bd {n : Nat} {a b : Int} (h : b ≠ 0) (k : Bd n b) : Bd n (gI a b) := k.of_le (by
  unfold gI
  have : Int.gcd a b ≤ b.natAbs := Nat.le_of_dvd (by omega) (Int.natAbs_dvd_natAbs.mpr (Int.gcd_dvd_right a b))
  simpa using this)
theorem f_zero {b : Int} (h : b ≠ 0) : fU 0 b = 0 ∧ fL 0 b = 1 := by
  have h0 : fU 0 b = 0 := by unfold fU; exact Int.zero_fdiv _
  refine ⟨h0, ?_⟩
  have h1 := f_gcd (a := 0) h
  have h2 := fL_pos (a := 0) h
  rw [h0, Int.gcd_zero_left] at h1
  omega
/-- lowest terms -/
def isLow (u v : Int) : Bool := decide (v > 0) && decide (gI u v = 1)
theorem f_low {a b : Int} (h : b ≠ 0) : isLow (fU a b) (fL a b) = true := by
  unfold isLow gI
  rw [f_gcd h, decide_eq_true (fL_pos h)]
  rfl
/-! ### common_part -/
def sp_common_part : DSp := fun ds G Q _ => ∃ a b : Int, ds = [.int a, .int b] ∧ Q (.int (gI a b)) G
theorem ab_eq (i : Int) : (if i < 0 then -i else i) = (i.natAbs : Int) := by split <;> omega
theorem ok_common_part : ∀ ds G Q E, sp_common_part ds G Q E → rd_common_part (bodyEnds Q E) (slots N_common_part ds) G := by
  rintro ds G Q E ⟨a, b, rfl, h⟩
  rw [sl_common_part]
  simp -dsimp only [↓DL.thn_nx, ↓DL.thn_rt, ↓DL.thn_ex, ↓DL.thn_bk, ↓DL.thn_ct, ↓DL.trn_nx, ↓DL.trn_rt, ↓DL.trn_ex, ↓DL.trn_bk, ↓DL.trn_ct, DL.Br_true, DL.Br_false, ↓DL.dSeq, ↓DL.dNext, ↓DL.dPass, ↓DL.dBrk, ↓DL.dCnt, ↓DL.dDrop, ↓DL.dRet, ↓DL.dRetN, ↓DL.dIfS, ↓DL.gdName, ↓DL.gdNil, ↓DL.gdCons, ↓DL.gdTup, ↓DL.gdSub, ↓DL.dAsg, ↓DL.dPar, ↓DL.dVar, ↓DL.dC, ↓DL.dUn, ↓DL.dBin, ↓DL.dTest, ↓DL.dNot, ↓DL.dAnd, ↓DL.dOr, ↓DL.dVal, ↓DL.dAndV, ↓DL.dOrV, ↓DL.dNotV, ↓DL.dIf, ↓DL.dNil, ↓DL.dCons, ↓DL.dChain, ↓DL.dTup, ↓DL.dLst, ↓DL.dLstM, ↓DL.dCB, ↓DL.dFor, ↓DL.dLc, ↓DL.dLcM, ↓DL.lcLoop, ↓DL.dYes, ↓DL.diVal, ↓DL.diRng1, ↓DL.diRng2, ↓DL.diEnum, ↓DL.diZip, ↓DL.walkD, ↓DL.dCall, ↓DL.dSl, ↓DL.dDct0, ↓DL.dDctM0, ↓DL.rII, ↓DL.rLt, ↓DL.rLe, ↓DL.rGt, ↓DL.rGe, ↓DL.rSub, ↓DL.rMul, ↓DL.rDivP, ↓DL.rDiv, ↓DL.rModP, ↓DL.rPow, ↓DL.rNeg, ↓DL.rAdd, ↓DL.rEq, ↓DL.rNe, ↓DL.rIsN, ↓DL.rNotN, ↓DL.isN, ↓DL.cmp, ↓DL.rIn, ↓DL.rNotIn, ↓DL.rInB, ↓DL.rIx, ↓DL.rSl, ↓DL.rLen, ↓DL.rAbs, ↓DL.rMax2, ↓DL.rMin2, ↓DL.rInt1, ↓DL.rStr1, ↓DL.rDivmod, ↓DL.rListF, ↓DL.rListM, ↓DL.rTuple, ↓DL.rAll, ↓DL.rAny, ↓DL.rSum, ↓DL.rMaxL, ↓DL.rMinL, ↓DL.rIsi, ↓DL.rRepr, ↓DL.rSetD, ↓DL.itemsD, ↓DL.lstD, DL.slots, DL.dWipe, DL.rs_non, DL.rs_bl, DL.rs_i, DL.rs_s, DL.rs_ty, DL.rs_t, DL.rs_l, DL.rs_k, DL.rs_d, DL.rs_in, DL.rs_c, DL.rs_upl, DL.rs_upd, DL.rs_upi, DL.okQ, DL.isS, DL.okN_int, DL.okN_bl, DL.okN_non, DL.deq_ii, DL.okN_ii, DL.deq_int, DL.deq_bl, DL.deq_str, DL.tysB_bool, DL.tysB_int, DL.tysB_str, DL.tysB_tuple, DL.tysB_list, DL.tysB_dict, DL.isT_NoneType_bool, DL.isT_NoneType_int, DL.isT_NoneType_str, DL.isT_NoneType_tuple, DL.isT_NoneType_list, DL.isT_NoneType_dict, DL.isT_bool_bool, DL.isT_bool_int, DL.isT_bool_str, DL.isT_bool_tuple, DL.isT_bool_list, DL.isT_bool_dict, DL.isT_int_bool, DL.isT_int_int, DL.isT_int_str, DL.isT_int_tuple, DL.isT_int_list, DL.isT_int_dict, DL.isT_str_bool, DL.isT_str_int, DL.isT_str_str, DL.isT_str_tuple, DL.isT_str_list, DL.isT_str_dict, DL.isT_tuple_bool, DL.isT_tuple_int, DL.isT_tuple_str, DL.isT_tuple_tuple, DL.isT_tuple_list, DL.isT_tuple_dict, DL.isT_list_bool, DL.isT_list_int, DL.isT_list_str, DL.isT_list_tuple, DL.isT_list_list, DL.isT_list_dict, DL.isT_dict_bool, DL.isT_dict_int, DL.isT_dict_str, DL.isT_dict_tuple, DL.isT_dict_list, DL.isT_dict_dict, true_and, and_true, eq_self, Bool.or_true, Bool.true_or, Bool.or_false, Bool.false_or, Bool.and_true, Bool.true_and, Bool.and_false, Bool.false_and, Bool.false_eq_true, ↓reduceIte, decide_true, decide_false, DL.tyD, DL.kyD, DL.atD, DL.atI_0, DL.atI_1, DL.atI_2, DL.atI_3, DL.atI_4, DL.atI_5, DL.atI_6, DL.atI_7, DL.atI_8, DL.atI_9, DL.atI_10, DL.atI_11, DL.atI_12, DL.ixN_0, DL.ixN_1, DL.upG_same, DL.upG_upG, List.getElem?_cons_zero, List.getElem?_cons_succ, List.cons_append, List.nil_append, Nat.add_one_sub_one, Nat.reduceAdd, Nat.reduceSub, List.length_cons, List.length_nil, decide_eq_true_eq, Bool.not_true, Bool.not_false, List.replicate_succ, List.replicate_zero, List.set_cons_zero, List.set_cons_succ, List.map_cons, List.map_nil, rd_common_part]
  refine ⟨fun m δ G' => G' = G ∧ ∃ x y : Int, 0 ≤ x ∧ 0 ≤ y ∧ m = y.toNat ∧ gI x y = gI a b ∧ δ = [some (.int a), some (.int b), some (.int x), some (.int y)], ⟨_, rfl, _, _, ?_, ?_, rfl, ?_, rfl⟩, ?_⟩
  · split <;> omega
  · split <;> omega
  · rw [ab_eq, ab_eq]
    unfold gI
    rfl
  · rintro m δ G' ⟨rfl, x, y, hx, hy, rfl, hg, rfl⟩
    simp -dsimp only [↓DL.thn_nx, ↓DL.thn_rt, ↓DL.thn_ex, ↓DL.thn_bk, ↓DL.thn_ct, ↓DL.trn_nx, ↓DL.trn_rt, ↓DL.trn_ex, ↓DL.trn_bk, ↓DL.trn_ct, DL.Br_true, DL.Br_false, ↓DL.dSeq, ↓DL.dNext, ↓DL.dPass, ↓DL.dBrk, ↓DL.dCnt, ↓DL.dDrop, ↓DL.dRet, ↓DL.dRetN, ↓DL.dIfS, ↓DL.gdName, ↓DL.gdNil, ↓DL.gdCons, ↓DL.gdTup, ↓DL.gdSub, ↓DL.dAsg, ↓DL.dPar, ↓DL.dVar, ↓DL.dC, ↓DL.dUn, ↓DL.dBin, ↓DL.dTest, ↓DL.dNot, ↓DL.dAnd, ↓DL.dOr, ↓DL.dVal, ↓DL.dAndV, ↓DL.dOrV, ↓DL.dNotV, ↓DL.dIf, ↓DL.dNil, ↓DL.dCons, ↓DL.dChain, ↓DL.dTup, ↓DL.dLst, ↓DL.dLstM, ↓DL.dCB, ↓DL.dFor, ↓DL.dLc, ↓DL.dLcM, ↓DL.lcLoop, ↓DL.dYes, ↓DL.diVal, ↓DL.diRng1, ↓DL.diRng2, ↓DL.diEnum, ↓DL.diZip, ↓DL.walkD, ↓DL.dCall, ↓DL.dSl, ↓DL.dDct0, ↓DL.dDctM0, ↓DL.rII, ↓DL.rLt, ↓DL.rLe, ↓DL.rGt, ↓DL.rGe, ↓DL.rSub, ↓DL.rMul, ↓DL.rDivP, ↓DL.rDiv, ↓DL.rModP, ↓DL.rPow, ↓DL.rNeg, ↓DL.rAdd, ↓DL.rEq, ↓DL.rNe, ↓DL.rIsN, ↓DL.rNotN, ↓DL.isN, ↓DL.cmp, ↓DL.rIn, ↓DL.rNotIn, ↓DL.rInB, ↓DL.rIx, ↓DL.rSl, ↓DL.rLen, ↓DL.rAbs, ↓DL.rMax2, ↓DL.rMin2, ↓DL.rInt1, ↓DL.rStr1, ↓DL.rDivmod, ↓DL.rListF, ↓DL.rListM, ↓DL.rTuple, ↓DL.rAll, ↓DL.rAny, ↓DL.rSum, ↓DL.rMaxL, ↓DL.rMinL, ↓DL.rIsi, ↓DL.rRepr, ↓DL.rSetD, ↓DL.itemsD, ↓DL.lstD, DL.slots, DL.dWipe, DL.rs_non, DL.rs_bl, DL.rs_i, DL.rs_s, DL.rs_ty, DL.rs_t, DL.rs_l, DL.rs_k, DL.rs_d, DL.rs_in, DL.rs_c, DL.rs_upl, DL.rs_upd, DL.rs_upi, DL.okQ, DL.isS, DL.okN_int, DL.okN_bl, DL.okN_non, DL.deq_ii, DL.okN_ii, DL.deq_int, DL.deq_bl, DL.deq_str, DL.tysB_bool, DL.tysB_int, DL.tysB_str, DL.tysB_tuple, DL.tysB_list, DL.tysB_dict, DL.isT_NoneType_bool, DL.isT_NoneType_int, DL.isT_NoneType_str, DL.isT_NoneType_tuple, DL.isT_NoneType_list, DL.isT_NoneType_dict, DL.isT_bool_bool, DL.isT_bool_int, DL.isT_bool_str, DL.isT_bool_tuple, DL.isT_bool_list, DL.isT_bool_dict, DL.isT_int_bool, DL.isT_int_int, DL.isT_int_str, DL.isT_int_tuple, DL.isT_int_list, DL.isT_int_dict, DL.isT_str_bool, DL.isT_str_int, DL.isT_str_str, DL.isT_str_tuple, DL.isT_str_list, DL.isT_str_dict, DL.isT_tuple_bool, DL.isT_tuple_int, DL.isT_tuple_str, DL.isT_tuple_tuple, DL.isT_tuple_list, DL.isT_tuple_dict, DL.isT_list_bool, DL.isT_list_int, DL.isT_list_str, DL.isT_list_tuple, DL.isT_list_list, DL.isT_list_dict, DL.isT_dict_bool, DL.isT_dict_int, DL.isT_dict_str, DL.isT_dict_tuple, DL.isT_dict_list, DL.isT_dict_dict, true_and, and_true, eq_self, Bool.or_true, Bool.true_or, Bool.or_false, Bool.false_or, Bool.and_true, Bool.true_and, Bool.and_false, Bool.false_and, Bool.false_eq_true, ↓reduceIte, decide_true, decide_false, DL.tyD, DL.kyD, DL.atD, DL.atI_0, DL.atI_1, DL.atI_2, DL.atI_3, DL.atI_4, DL.atI_5, DL.atI_6, DL.atI_7, DL.atI_8, DL.atI_9, DL.atI_10, DL.atI_11, DL.atI_12, DL.ixN_0, DL.ixN_1, DL.upG_same, DL.upG_upG, List.getElem?_cons_zero, List.getElem?_cons_succ, List.cons_append, List.nil_append, Nat.add_one_sub_one, Nat.reduceAdd, Nat.reduceSub, List.length_cons, List.length_nil, decide_eq_true_eq, Bool.not_true, Bool.not_false, List.replicate_succ, List.replicate_zero, List.set_cons_zero, List.set_cons_succ, List.map_cons, List.map_nil]
    by_cases hp : 0 < y
    · (refine br_pos hp ?_; try simp -dsimp only [↓DL.thn_nx, ↓DL.thn_rt, ↓DL.thn_ex, ↓DL.thn_bk, ↓DL.thn_ct, ↓DL.trn_nx, ↓DL.trn_rt, ↓DL.trn_ex, ↓DL.trn_bk, ↓DL.trn_ct, DL.Br_true, DL.Br_false, ↓DL.dSeq, ↓DL.dNext, ↓DL.dPass, ↓DL.dBrk, ↓DL.dCnt, ↓DL.dDrop, ↓DL.dRet, ↓DL.dRetN, ↓DL.dIfS, ↓DL.gdName, ↓DL.gdNil, ↓DL.gdCons, ↓DL.gdTup, ↓DL.gdSub, ↓DL.dAsg, ↓DL.dPar, ↓DL.dVar, ↓DL.dC, ↓DL.dUn, ↓DL.dBin, ↓DL.dTest, ↓DL.dNot, ↓DL.dAnd, ↓DL.dOr, ↓DL.dVal, ↓DL.dAndV, ↓DL.dOrV, ↓DL.dNotV, ↓DL.dIf, ↓DL.dNil, ↓DL.dCons, ↓DL.dChain, ↓DL.dTup, ↓DL.dLst, ↓DL.dLstM, ↓DL.dCB, ↓DL.dFor, ↓DL.dLc, ↓DL.dLcM, ↓DL.lcLoop, ↓DL.dYes, ↓DL.diVal, ↓DL.diRng1, ↓DL.diRng2, ↓DL.diEnum, ↓DL.diZip, ↓DL.walkD, ↓DL.dCall, ↓DL.dSl, ↓DL.dDct0, ↓DL.dDctM0, ↓DL.rII, ↓DL.rLt, ↓DL.rLe, ↓DL.rGt, ↓DL.rGe, ↓DL.rSub, ↓DL.rMul, ↓DL.rDivP, ↓DL.rDiv, ↓DL.rModP, ↓DL.rPow, ↓DL.rNeg, ↓DL.rAdd, ↓DL.rEq, ↓DL.rNe, ↓DL.rIsN, ↓DL.rNotN, ↓DL.isN, ↓DL.cmp, ↓DL.rIn, ↓DL.rNotIn, ↓DL.rInB, ↓DL.rIx, ↓DL.rSl, ↓DL.rLen, ↓DL.rAbs, ↓DL.rMax2, ↓DL.rMin2, ↓DL.rInt1, ↓DL.rStr1, ↓DL.rDivmod, ↓DL.rListF, ↓DL.rListM, ↓DL.rTuple, ↓DL.rAll, ↓DL.rAny, ↓DL.rSum, ↓DL.rMaxL, ↓DL.rMinL, ↓DL.rIsi, ↓DL.rRepr, ↓DL.rSetD, ↓DL.itemsD, ↓DL.lstD, DL.slots, DL.dWipe, DL.rs_non, DL.rs_bl, DL.rs_i, DL.rs_s, DL.rs_ty, DL.rs_t, DL.rs_l, DL.rs_k, DL.rs_d, DL.rs_in, DL.rs_c, DL.rs_upl, DL.rs_upd, DL.rs_upi, DL.okQ, DL.isS, DL.okN_int, DL.okN_bl, DL.okN_non, DL.deq_ii, DL.okN_ii, DL.deq_int, DL.deq_bl, DL.deq_str, DL.tysB_bool, DL.tysB_int, DL.tysB_str, DL.tysB_tuple, DL.tysB_list, DL.tysB_dict, DL.isT_NoneType_bool, DL.isT_NoneType_int, DL.isT_NoneType_str, DL.isT_NoneType_tuple, DL.isT_NoneType_list, DL.isT_NoneType_dict, DL.isT_bool_bool, DL.isT_bool_int, DL.isT_bool_str, DL.isT_bool_tuple, DL.isT_bool_list, DL.isT_bool_dict, DL.isT_int_bool, DL.isT_int_int, DL.isT_int_str, DL.isT_int_tuple, DL.isT_int_list, DL.isT_int_dict, DL.isT_str_bool, DL.isT_str_int, DL.isT_str_str, DL.isT_str_tuple, DL.isT_str_list, DL.isT_str_dict, DL.isT_tuple_bool, DL.isT_tuple_int, DL.isT_tuple_str, DL.isT_tuple_tuple, DL.isT_tuple_list, DL.isT_tuple_dict, DL.isT_list_bool, DL.isT_list_int, DL.isT_list_str, DL.isT_list_tuple, DL.isT_list_list, DL.isT_list_dict, DL.isT_dict_bool, DL.isT_dict_int, DL.isT_dict_str, DL.isT_dict_tuple, DL.isT_dict_list, DL.isT_dict_dict, true_and, and_true, eq_self, Bool.or_true, Bool.true_or, Bool.or_false, Bool.false_or, Bool.and_true, Bool.true_and, Bool.and_false, Bool.false_and, Bool.false_eq_true, ↓reduceIte, decide_true, decide_false, DL.tyD, DL.kyD, DL.atD, DL.atI_0, DL.atI_1, DL.atI_2, DL.atI_3, DL.atI_4, DL.atI_5, DL.atI_6, DL.atI_7, DL.atI_8, DL.atI_9, DL.atI_10, DL.atI_11, DL.atI_12, DL.ixN_0, DL.ixN_1, DL.upG_same, DL.upG_upG, List.getElem?_cons_zero, List.getElem?_cons_succ, List.cons_append, List.nil_append, Nat.add_one_sub_one, Nat.reduceAdd, Nat.reduceSub, List.length_cons, List.length_nil, decide_eq_true_eq, Bool.not_true, Bool.not_false, List.replicate_succ, List.replicate_zero, List.set_cons_zero, List.set_cons_succ, List.map_cons, List.map_nil])
      have h1 := Int.emod_nonneg x (show y ≠ 0 by omega)
      have h2 := Int.emod_lt_of_pos x hp
      exact ⟨hp, (x % y).toNat, by omega, y, x % y, hy, h1, rfl, by rw [gI_mod hp, hg], rfl⟩
    · (refine br_neg hp ?_; try simp -dsimp only [↓DL.thn_nx, ↓DL.thn_rt, ↓DL.thn_ex, ↓DL.thn_bk, ↓DL.thn_ct, ↓DL.trn_nx, ↓DL.trn_rt, ↓DL.trn_ex, ↓DL.trn_bk, ↓DL.trn_ct, DL.Br_true, DL.Br_false, ↓DL.dSeq, ↓DL.dNext, ↓DL.dPass, ↓DL.dBrk, ↓DL.dCnt, ↓DL.dDrop, ↓DL.dRet, ↓DL.dRetN, ↓DL.dIfS, ↓DL.gdName, ↓DL.gdNil, ↓DL.gdCons, ↓DL.gdTup, ↓DL.gdSub, ↓DL.dAsg, ↓DL.dPar, ↓DL.dVar, ↓DL.dC, ↓DL.dUn, ↓DL.dBin, ↓DL.dTest, ↓DL.dNot, ↓DL.dAnd, ↓DL.dOr, ↓DL.dVal, ↓DL.dAndV, ↓DL.dOrV, ↓DL.dNotV, ↓DL.dIf, ↓DL.dNil, ↓DL.dCons, ↓DL.dChain, ↓DL.dTup, ↓DL.dLst, ↓DL.dLstM, ↓DL.dCB, ↓DL.dFor, ↓DL.dLc, ↓DL.dLcM, ↓DL.lcLoop, ↓DL.dYes, ↓DL.diVal, ↓DL.diRng1, ↓DL.diRng2, ↓DL.diEnum, ↓DL.diZip, ↓DL.walkD, ↓DL.dCall, ↓DL.dSl, ↓DL.dDct0, ↓DL.dDctM0, ↓DL.rII, ↓DL.rLt, ↓DL.rLe, ↓DL.rGt, ↓DL.rGe, ↓DL.rSub, ↓DL.rMul, ↓DL.rDivP, ↓DL.rDiv, ↓DL.rModP, ↓DL.rPow, ↓DL.rNeg, ↓DL.rAdd, ↓DL.rEq, ↓DL.rNe, ↓DL.rIsN, ↓DL.rNotN, ↓DL.isN, ↓DL.cmp, ↓DL.rIn, ↓DL.rNotIn, ↓DL.rInB, ↓DL.rIx, ↓DL.rSl, ↓DL.rLen, ↓DL.rAbs, ↓DL.rMax2, ↓DL.rMin2, ↓DL.rInt1, ↓DL.rStr1, ↓DL.rDivmod, ↓DL.rListF, ↓DL.rListM, ↓DL.rTuple, ↓DL.rAll, ↓DL.rAny, ↓DL.rSum, ↓DL.rMaxL, ↓DL.rMinL, ↓DL.rIsi, ↓DL.rRepr, ↓DL.rSetD, ↓DL.itemsD, ↓DL.lstD, DL.slots, DL.dWipe, DL.rs_non, DL.rs_bl, DL.rs_i, DL.rs_s, DL.rs_ty, DL.rs_t, DL.rs_l, DL.rs_k, DL.rs_d, DL.rs_in, DL.rs_c, DL.rs_upl, DL.rs_upd, DL.rs_upi, DL.okQ, DL.isS, DL.okN_int, DL.okN_bl, DL.okN_non, DL.deq_ii, DL.okN_ii, DL.deq_int, DL.deq_bl, DL.deq_str, DL.tysB_bool, DL.tysB_int, DL.tysB_str, DL.tysB_tuple, DL.tysB_list, DL.tysB_dict, DL.isT_NoneType_bool, DL.isT_NoneType_int, DL.isT_NoneType_str, DL.isT_NoneType_tuple, DL.isT_NoneType_list, DL.isT_NoneType_dict, DL.isT_bool_bool, DL.isT_bool_int, DL.isT_bool_str, DL.isT_bool_tuple, DL.isT_bool_list, DL.isT_bool_dict, DL.isT_int_bool, DL.isT_int_int, DL.isT_int_str, DL.isT_int_tuple, DL.isT_int_list, DL.isT_int_dict, DL.isT_str_bool, DL.isT_str_int, DL.isT_str_str, DL.isT_str_tuple, DL.isT_str_list, DL.isT_str_dict, DL.isT_tuple_bool, DL.isT_tuple_int, DL.isT_tuple_str, DL.isT_tuple_tuple, DL.isT_tuple_list, DL.isT_tuple_dict, DL.isT_list_bool, DL.isT_list_int, DL.isT_list_str, DL.isT_list_tuple, DL.isT_list_list, DL.isT_list_dict, DL.isT_dict_bool, DL.isT_dict_int, DL.isT_dict_str, DL.isT_dict_tuple, DL.isT_dict_list, DL.isT_dict_dict, true_and, and_true, eq_self, Bool.or_true, Bool.true_or, Bool.or_false, Bool.false_or, Bool.and_true, Bool.true_and, Bool.and_false, Bool.false_and, Bool.false_eq_true, ↓reduceIte, decide_true, decide_false, DL.tyD, DL.kyD, DL.atD, DL.atI_0, DL.atI_1, DL.atI_2, DL.atI_3, DL.atI_4, DL.atI_5, DL.atI_6, DL.atI_7, DL.atI_8, DL.atI_9, DL.atI_10, DL.atI_11, DL.atI_12, DL.ixN_0, DL.ixN_1, DL.upG_same, DL.upG_upG, List.getElem?_cons_zero, List.getElem?_cons_succ, List.cons_append, List.nil_append, Nat.add_one_sub_one, Nat.reduceAdd, Nat.reduceSub, List.length_cons, List.length_nil, decide_eq_true_eq, Bool.not_true, Bool.not_false, List.replicate_succ, List.replicate_zero, List.set_cons_zero, List.set_cons_succ, List.map_cons, List.map_nil])
      have : y = 0 := by omega
      subst this
      have e : x = gI a b := by
        rw [← hg]; unfold gI; rw [Int.gcd_zero_right]; omega
      rw [e]
      exact be_rt h
def sp__law_share : DSp := sp_common_part
theorem ok__law_share : ∀ ds G Q E, sp_common_part ds G Q E → rd__law_share (bodyEnds Q E) (slots N__law_share ds) G := ok_common_part
/-! ### fraction -/
def sp_fraction : DSp := fun ds G Q _ => ∃ a b : Int, ds = [.int a, .int b] ∧ b ≠ 0 ∧ Bd 1000 b ∧ Q (.tup [.int (fU a b), .int (fL a b)]) G
theorem shr_bd {n : Nat} {a b : Int} (h : b ≠ 0) (k : Bd n b) : Bd n (shr a b) := (gI_bd (a := a) h k).of_le (by rw [shr_abs]; unfold gI; simp)
theorem ok_fraction : ∀ ds G Q E, sp_fraction ds G Q E → rd_fraction sp_common_part (bodyEnds Q E) (slots N_fraction ds) G := by
  rintro ds G Q E ⟨a, b, rfl, hb, bb, h⟩
  rw [sl_fraction]
  simp -dsimp only [↓DL.thn_nx, ↓DL.thn_rt, ↓DL.thn_ex, ↓DL.thn_bk, ↓DL.thn_ct, ↓DL.trn_nx, ↓DL.trn_rt, ↓DL.trn_ex, ↓DL.trn_bk, ↓DL.trn_ct, DL.Br_true, DL.Br_false, ↓DL.dSeq, ↓DL.dNext, ↓DL.dPass, ↓DL.dBrk, ↓DL.dCnt, ↓DL.dDrop, ↓DL.dRet, ↓DL.dRetN, ↓DL.dIfS, ↓DL.gdName, ↓DL.gdNil, ↓DL.gdCons, ↓DL.gdTup, ↓DL.gdSub, ↓DL.dAsg, ↓DL.dPar, ↓DL.dVar, ↓DL.dC, ↓DL.dUn, ↓DL.dBin, ↓DL.dTest, ↓DL.dNot, ↓DL.dAnd, ↓DL.dOr, ↓DL.dVal, ↓DL.dAndV, ↓DL.dOrV, ↓DL.dNotV, ↓DL.dIf, ↓DL.dNil, ↓DL.dCons, ↓DL.dChain, ↓DL.dTup, ↓DL.dLst, ↓DL.dLstM, ↓DL.dCB, ↓DL.dFor, ↓DL.dLc, ↓DL.dLcM, ↓DL.lcLoop, ↓DL.dYes, ↓DL.diVal, ↓DL.diRng1, ↓DL.diRng2, ↓DL.diEnum, ↓DL.diZip, ↓DL.walkD, ↓DL.dCall, ↓DL.dSl, ↓DL.dDct0, ↓DL.dDctM0, ↓DL.rII, ↓DL.rLt, ↓DL.rLe, ↓DL.rGt, ↓DL.rGe, ↓DL.rSub, ↓DL.rMul, ↓DL.rDivP, ↓DL.rDiv, ↓DL.rModP, ↓DL.rPow, ↓DL.rNeg, ↓DL.rAdd, ↓DL.rEq, ↓DL.rNe, ↓DL.rIsN, ↓DL.rNotN, ↓DL.isN, ↓DL.cmp, ↓DL.rIn, ↓DL.rNotIn, ↓DL.rInB, ↓DL.rIx, ↓DL.rSl, ↓DL.rLen, ↓DL.rAbs, ↓DL.rMax2, ↓DL.rMin2, ↓DL.rInt1, ↓DL.rStr1, ↓DL.rDivmod, ↓DL.rListF, ↓DL.rListM, ↓DL.rTuple, ↓DL.rAll, ↓DL.rAny, ↓DL.rSum, ↓DL.rMaxL, ↓DL.rMinL, ↓DL.rIsi, ↓DL.rRepr, ↓DL.rSetD, ↓DL.itemsD, ↓DL.lstD, DL.slots, DL.dWipe, DL.rs_non, DL.rs_bl, DL.rs_i, DL.rs_s, DL.rs_ty, DL.rs_t, DL.rs_l, DL.rs_k, DL.rs_d, DL.rs_in, DL.rs_c, DL.rs_upl, DL.rs_upd, DL.rs_upi, DL.okQ, DL.isS, DL.okN_int, DL.okN_bl, DL.okN_non, DL.deq_ii, DL.okN_ii, DL.deq_int, DL.deq_bl, DL.deq_str, DL.tysB_bool, DL.tysB_int, DL.tysB_str, DL.tysB_tuple, DL.tysB_list, DL.tysB_dict, DL.isT_NoneType_bool, DL.isT_NoneType_int, DL.isT_NoneType_str, DL.isT_NoneType_tuple, DL.isT_NoneType_list, DL.isT_NoneType_dict, DL.isT_bool_bool, DL.isT_bool_int, DL.isT_bool_str, DL.isT_bool_tuple, DL.isT_bool_list, DL.isT_bool_dict, DL.isT_int_bool, DL.isT_int_int, DL.isT_int_str, DL.isT_int_tuple, DL.isT_int_list, DL.isT_int_dict, DL.isT_str_bool, DL.isT_str_int, DL.isT_str_str, DL.isT_str_tuple, DL.isT_str_list, DL.isT_str_dict, DL.isT_tuple_bool, DL.isT_tuple_int, DL.isT_tuple_str, DL.isT_tuple_tuple, DL.isT_tuple_list, DL.isT_tuple_dict, DL.isT_list_bool, DL.isT_list_int, DL.isT_list_str, DL.isT_list_tuple, DL.isT_list_list, DL.isT_list_dict, DL.isT_dict_bool, DL.isT_dict_int, DL.isT_dict_str, DL.isT_dict_tuple, DL.isT_dict_list, DL.isT_dict_dict, true_and, and_true, eq_self, Bool.or_true, Bool.true_or, Bool.or_false, Bool.false_or, Bool.and_true, Bool.true_and, Bool.and_false, Bool.false_and, Bool.false_eq_true, ↓reduceIte, decide_true, decide_false, DL.tyD, DL.kyD, DL.atD, DL.atI_0, DL.atI_1, DL.atI_2, DL.atI_3, DL.atI_4, DL.atI_5, DL.atI_6, DL.atI_7, DL.atI_8, DL.atI_9, DL.atI_10, DL.atI_11, DL.atI_12, DL.ixN_0, DL.ixN_1, DL.upG_same, DL.upG_upG, List.getElem?_cons_zero, List.getElem?_cons_succ, List.cons_append, List.nil_append, Nat.add_one_sub_one, Nat.reduceAdd, Nat.reduceSub, List.length_cons, List.length_nil, decide_eq_true_eq, Bool.not_true, Bool.not_false, List.replicate_succ, List.replicate_zero, List.set_cons_zero, List.set_cons_succ, List.map_cons, List.map_nil, rd_fraction]
  refine ⟨a, b, rfl, ?_⟩
  simp -dsimp only [↓DL.thn_nx, ↓DL.thn_rt, ↓DL.thn_ex, ↓DL.thn_bk, ↓DL.thn_ct, ↓DL.trn_nx, ↓DL.trn_rt, ↓DL.trn_ex, ↓DL.trn_bk, ↓DL.trn_ct, DL.Br_true, DL.Br_false, ↓DL.dSeq, ↓DL.dNext, ↓DL.dPass, ↓DL.dBrk, ↓DL.dCnt, ↓DL.dDrop, ↓DL.dRet, ↓DL.dRetN, ↓DL.dIfS, ↓DL.gdName, ↓DL.gdNil, ↓DL.gdCons, ↓DL.gdTup, ↓DL.gdSub, ↓DL.dAsg, ↓DL.dPar, ↓DL.dVar, ↓DL.dC, ↓DL.dUn, ↓DL.dBin, ↓DL.dTest, ↓DL.dNot, ↓DL.dAnd, ↓DL.dOr, ↓DL.dVal, ↓DL.dAndV, ↓DL.dOrV, ↓DL.dNotV, ↓DL.dIf, ↓DL.dNil, ↓DL.dCons, ↓DL.dChain, ↓DL.dTup, ↓DL.dLst, ↓DL.dLstM, ↓DL.dCB, ↓DL.dFor, ↓DL.dLc, ↓DL.dLcM, ↓DL.lcLoop, ↓DL.dYes, ↓DL.diVal, ↓DL.diRng1, ↓DL.diRng2, ↓DL.diEnum, ↓DL.diZip, ↓DL.walkD, ↓DL.dCall, ↓DL.dSl, ↓DL.dDct0, ↓DL.dDctM0, ↓DL.rII, ↓DL.rLt, ↓DL.rLe, ↓DL.rGt, ↓DL.rGe, ↓DL.rSub, ↓DL.rMul, ↓DL.rDivP, ↓DL.rDiv, ↓DL.rModP, ↓DL.rPow, ↓DL.rNeg, ↓DL.rAdd, ↓DL.rEq, ↓DL.rNe, ↓DL.rIsN, ↓DL.rNotN, ↓DL.isN, ↓DL.cmp, ↓DL.rIn, ↓DL.rNotIn, ↓DL.rInB, ↓DL.rIx, ↓DL.rSl, ↓DL.rLen, ↓DL.rAbs, ↓DL.rMax2, ↓DL.rMin2, ↓DL.rInt1, ↓DL.rStr1, ↓DL.rDivmod, ↓DL.rListF, ↓DL.rListM, ↓DL.rTuple, ↓DL.rAll, ↓DL.rAny, ↓DL.rSum, ↓DL.rMaxL, ↓DL.rMinL, ↓DL.rIsi, ↓DL.rRepr, ↓DL.rSetD, ↓DL.itemsD, ↓DL.lstD, DL.slots, DL.dWipe, DL.rs_non, DL.rs_bl, DL.rs_i, DL.rs_s, DL.rs_ty, DL.rs_t, DL.rs_l, DL.rs_k, DL.rs_d, DL.rs_in, DL.rs_c, DL.rs_upl, DL.rs_upd, DL.rs_upi, DL.okQ, DL.isS, DL.okN_int, DL.okN_bl, DL.okN_non, DL.deq_ii, DL.okN_ii, DL.deq_int, DL.deq_bl, DL.deq_str, DL.tysB_bool, DL.tysB_int, DL.tysB_str, DL.tysB_tuple, DL.tysB_list, DL.tysB_dict, DL.isT_NoneType_bool, DL.isT_NoneType_int, DL.isT_NoneType_str, DL.isT_NoneType_tuple, DL.isT_NoneType_list, DL.isT_NoneType_dict, DL.isT_bool_bool, DL.isT_bool_int, DL.isT_bool_str, DL.isT_bool_tuple, DL.isT_bool_list, DL.isT_bool_dict, DL.isT_int_bool, DL.isT_int_int, DL.isT_int_str, DL.isT_int_tuple, DL.isT_int_list, DL.isT_int_dict, DL.isT_str_bool, DL.isT_str_int, DL.isT_str_str, DL.isT_str_tuple, DL.isT_str_list, DL.isT_str_dict, DL.isT_tuple_bool, DL.isT_tuple_int, DL.isT_tuple_str, DL.isT_tuple_tuple, DL.isT_tuple_list, DL.isT_tuple_dict, DL.isT_list_bool, DL.isT_list_int, DL.isT_list_str, DL.isT_list_tuple, DL.isT_list_list, DL.isT_list_dict, DL.isT_dict_bool, DL.isT_dict_int, DL.isT_dict_str, DL.isT_dict_tuple, DL.isT_dict_list, DL.isT_dict_dict, true_and, and_true, eq_self, Bool.or_true, Bool.true_or, Bool.or_false, Bool.false_or, Bool.and_true, Bool.true_and, Bool.and_false, Bool.false_and, Bool.false_eq_true, ↓reduceIte, decide_true, decide_false, DL.tyD, DL.kyD, DL.atD, DL.atI_0, DL.atI_1, DL.atI_2, DL.atI_3, DL.atI_4, DL.atI_5, DL.atI_6, DL.atI_7, DL.atI_8, DL.atI_9, DL.atI_10, DL.atI_11, DL.atI_12, DL.ixN_0, DL.ixN_1, DL.upG_same, DL.upG_upG, List.getElem?_cons_zero, List.getElem?_cons_succ, List.cons_append, List.nil_append, Nat.add_one_sub_one, Nat.reduceAdd, Nat.reduceSub, List.length_cons, List.length_nil, decide_eq_true_eq, Bool.not_true, Bool.not_false, List.replicate_succ, List.replicate_zero, List.set_cons_zero, List.set_cons_succ, List.map_cons, List.map_nil]
  have l := (shr_bd (a := a) hb bb).log2 (by decide)
  have key : ∀ s : Int, s = (if 0 < b then 1 else -1) → MulOk (gI a b) s ∧ gI a b * s = shr a b := fun s e => by
    refine ⟨(gI_bd hb bb).mulOk (m := 1) ?_ (by decide), by rw [e]; rfl⟩
    rw [e]; split <;> exact .lit
  by_cases hp : 0 < b
  · (refine br_pos hp ?_; try simp -dsimp only [↓DL.thn_nx, ↓DL.thn_rt, ↓DL.thn_ex, ↓DL.thn_bk, ↓DL.thn_ct, ↓DL.trn_nx, ↓DL.trn_rt, ↓DL.trn_ex, ↓DL.trn_bk, ↓DL.trn_ct, DL.Br_true, DL.Br_false, ↓DL.dSeq, ↓DL.dNext, ↓DL.dPass, ↓DL.dBrk, ↓DL.dCnt, ↓DL.dDrop, ↓DL.dRet, ↓DL.dRetN, ↓DL.dIfS, ↓DL.gdName, ↓DL.gdNil, ↓DL.gdCons, ↓DL.gdTup, ↓DL.gdSub, ↓DL.dAsg, ↓DL.dPar, ↓DL.dVar, ↓DL.dC, ↓DL.dUn, ↓DL.dBin, ↓DL.dTest, ↓DL.dNot, ↓DL.dAnd, ↓DL.dOr, ↓DL.dVal, ↓DL.dAndV, ↓DL.dOrV, ↓DL.dNotV, ↓DL.dIf, ↓DL.dNil, ↓DL.dCons, ↓DL.dChain, ↓DL.dTup, ↓DL.dLst, ↓DL.dLstM, ↓DL.dCB, ↓DL.dFor, ↓DL.dLc, ↓DL.dLcM, ↓DL.lcLoop, ↓DL.dYes, ↓DL.diVal, ↓DL.diRng1, ↓DL.diRng2, ↓DL.diEnum, ↓DL.diZip, ↓DL.walkD, ↓DL.dCall, ↓DL.dSl, ↓DL.dDct0, ↓DL.dDctM0, ↓DL.rII, ↓DL.rLt, ↓DL.rLe, ↓DL.rGt, ↓DL.rGe, ↓DL.rSub, ↓DL.rMul, ↓DL.rDivP, ↓DL.rDiv, ↓DL.rModP, ↓DL.rPow, ↓DL.rNeg, ↓DL.rAdd, ↓DL.rEq, ↓DL.rNe, ↓DL.rIsN, ↓DL.rNotN, ↓DL.isN, ↓DL.cmp, ↓DL.rIn, ↓DL.rNotIn, ↓DL.rInB, ↓DL.rIx, ↓DL.rSl, ↓DL.rLen, ↓DL.rAbs, ↓DL.rMax2, ↓DL.rMin2, ↓DL.rInt1, ↓DL.rStr1, ↓DL.rDivmod, ↓DL.rListF, ↓DL.rListM, ↓DL.rTuple, ↓DL.rAll, ↓DL.rAny, ↓DL.rSum, ↓DL.rMaxL, ↓DL.rMinL, ↓DL.rIsi, ↓DL.rRepr, ↓DL.rSetD, ↓DL.itemsD, ↓DL.lstD, DL.slots, DL.dWipe, DL.rs_non, DL.rs_bl, DL.rs_i, DL.rs_s, DL.rs_ty, DL.rs_t, DL.rs_l, DL.rs_k, DL.rs_d, DL.rs_in, DL.rs_c, DL.rs_upl, DL.rs_upd, DL.rs_upi, DL.okQ, DL.isS, DL.okN_int, DL.okN_bl, DL.okN_non, DL.deq_ii, DL.okN_ii, DL.deq_int, DL.deq_bl, DL.deq_str, DL.tysB_bool, DL.tysB_int, DL.tysB_str, DL.tysB_tuple, DL.tysB_list, DL.tysB_dict, DL.isT_NoneType_bool, DL.isT_NoneType_int, DL.isT_NoneType_str, DL.isT_NoneType_tuple, DL.isT_NoneType_list, DL.isT_NoneType_dict, DL.isT_bool_bool, DL.isT_bool_int, DL.isT_bool_str, DL.isT_bool_tuple, DL.isT_bool_list, DL.isT_bool_dict, DL.isT_int_bool, DL.isT_int_int, DL.isT_int_str, DL.isT_int_tuple, DL.isT_int_list, DL.isT_int_dict, DL.isT_str_bool, DL.isT_str_int, DL.isT_str_str, DL.isT_str_tuple, DL.isT_str_list, DL.isT_str_dict, DL.isT_tuple_bool, DL.isT_tuple_int, DL.isT_tuple_str, DL.isT_tuple_tuple, DL.isT_tuple_list, DL.isT_tuple_dict, DL.isT_list_bool, DL.isT_list_int, DL.isT_list_str, DL.isT_list_tuple, DL.isT_list_list, DL.isT_list_dict, DL.isT_dict_bool, DL.isT_dict_int, DL.isT_dict_str, DL.isT_dict_tuple, DL.isT_dict_list, DL.isT_dict_dict, true_and, and_true, eq_self, Bool.or_true, Bool.true_or, Bool.or_false, Bool.false_or, Bool.and_true, Bool.true_and, Bool.and_false, Bool.false_and, Bool.false_eq_true, ↓reduceIte, decide_true, decide_false, DL.tyD, DL.kyD, DL.atD, DL.atI_0, DL.atI_1, DL.atI_2, DL.atI_3, DL.atI_4, DL.atI_5, DL.atI_6, DL.atI_7, DL.atI_8, DL.atI_9, DL.atI_10, DL.atI_11, DL.atI_12, DL.ixN_0, DL.ixN_1, DL.upG_same, DL.upG_upG, List.getElem?_cons_zero, List.getElem?_cons_succ, List.cons_append, List.nil_append, Nat.add_one_sub_one, Nat.reduceAdd, Nat.reduceSub, List.length_cons, List.length_nil, decide_eq_true_eq, Bool.not_true, Bool.not_false, List.replicate_succ, List.replicate_zero, List.set_cons_zero, List.set_cons_succ, List.map_cons, List.map_nil])
    obtain ⟨k1, k2⟩ := key 1 (by rw [if_pos hp])
    rw [k2]
    exact ⟨k1, ⟨shr_ne hb, by omega⟩, ⟨shr_ne hb, by omega⟩, by decide, be_rt h⟩
  · (refine br_neg hp ?_; try simp -dsimp only [↓DL.thn_nx, ↓DL.thn_rt, ↓DL.thn_ex, ↓DL.thn_bk, ↓DL.thn_ct, ↓DL.trn_nx, ↓DL.trn_rt, ↓DL.trn_ex, ↓DL.trn_bk, ↓DL.trn_ct, DL.Br_true, DL.Br_false, ↓DL.dSeq, ↓DL.dNext, ↓DL.dPass, ↓DL.dBrk, ↓DL.dCnt, ↓DL.dDrop, ↓DL.dRet, ↓DL.dRetN, ↓DL.dIfS, ↓DL.gdName, ↓DL.gdNil, ↓DL.gdCons, ↓DL.gdTup, ↓DL.gdSub, ↓DL.dAsg, ↓DL.dPar, ↓DL.dVar, ↓DL.dC, ↓DL.dUn, ↓DL.dBin, ↓DL.dTest, ↓DL.dNot, ↓DL.dAnd, ↓DL.dOr, ↓DL.dVal, ↓DL.dAndV, ↓DL.dOrV, ↓DL.dNotV, ↓DL.dIf, ↓DL.dNil, ↓DL.dCons, ↓DL.dChain, ↓DL.dTup, ↓DL.dLst, ↓DL.dLstM, ↓DL.dCB, ↓DL.dFor, ↓DL.dLc, ↓DL.dLcM, ↓DL.lcLoop, ↓DL.dYes, ↓DL.diVal, ↓DL.diRng1, ↓DL.diRng2, ↓DL.diEnum, ↓DL.diZip, ↓DL.walkD, ↓DL.dCall, ↓DL.dSl, ↓DL.dDct0, ↓DL.dDctM0, ↓DL.rII, ↓DL.rLt, ↓DL.rLe, ↓DL.rGt, ↓DL.rGe, ↓DL.rSub, ↓DL.rMul, ↓DL.rDivP, ↓DL.rDiv, ↓DL.rModP, ↓DL.rPow, ↓DL.rNeg, ↓DL.rAdd, ↓DL.rEq, ↓DL.rNe, ↓DL.rIsN, ↓DL.rNotN, ↓DL.isN, ↓DL.cmp, ↓DL.rIn, ↓DL.rNotIn, ↓DL.rInB, ↓DL.rIx, ↓DL.rSl, ↓DL.rLen, ↓DL.rAbs, ↓DL.rMax2, ↓DL.rMin2, ↓DL.rInt1, ↓DL.rStr1, ↓DL.rDivmod, ↓DL.rListF, ↓DL.rListM, ↓DL.rTuple, ↓DL.rAll, ↓DL.rAny, ↓DL.rSum, ↓DL.rMaxL, ↓DL.rMinL, ↓DL.rIsi, ↓DL.rRepr, ↓DL.rSetD, ↓DL.itemsD, ↓DL.lstD, DL.slots, DL.dWipe, DL.rs_non, DL.rs_bl, DL.rs_i, DL.rs_s, DL.rs_ty, DL.rs_t, DL.rs_l, DL.rs_k, DL.rs_d, DL.rs_in, DL.rs_c, DL.rs_upl, DL.rs_upd, DL.rs_upi, DL.okQ, DL.isS, DL.okN_int, DL.okN_bl, DL.okN_non, DL.deq_ii, DL.okN_ii, DL.deq_int, DL.deq_bl, DL.deq_str, DL.tysB_bool, DL.tysB_int, DL.tysB_str, DL.tysB_tuple, DL.tysB_list, DL.tysB_dict, DL.isT_NoneType_bool, DL.isT_NoneType_int, DL.isT_NoneType_str, DL.isT_NoneType_tuple, DL.isT_NoneType_list, DL.isT_NoneType_dict, DL.isT_bool_bool, DL.isT_bool_int, DL.isT_bool_str, DL.isT_bool_tuple, DL.isT_bool_list, DL.isT_bool_dict, DL.isT_int_bool, DL.isT_int_int, DL.isT_int_str, DL.isT_int_tuple, DL.isT_int_list, DL.isT_int_dict, DL.isT_str_bool, DL.isT_str_int, DL.isT_str_str, DL.isT_str_tuple, DL.isT_str_list, DL.isT_str_dict, DL.isT_tuple_bool, DL.isT_tuple_int, DL.isT_tuple_str, DL.isT_tuple_tuple, DL.isT_tuple_list, DL.isT_tuple_dict, DL.isT_list_bool, DL.isT_list_int, DL.isT_list_str, DL.isT_list_tuple, DL.isT_list_list, DL.isT_list_dict, DL.isT_dict_bool, DL.isT_dict_int, DL.isT_dict_str, DL.isT_dict_tuple, DL.isT_dict_list, DL.isT_dict_dict, true_and, and_true, eq_self, Bool.or_true, Bool.true_or, Bool.or_false, Bool.false_or, Bool.and_true, Bool.true_and, Bool.and_false, Bool.false_and, Bool.false_eq_true, ↓reduceIte, decide_true, decide_false, DL.tyD, DL.kyD, DL.atD, DL.atI_0, DL.atI_1, DL.atI_2, DL.atI_3, DL.atI_4, DL.atI_5, DL.atI_6, DL.atI_7, DL.atI_8, DL.atI_9, DL.atI_10, DL.atI_11, DL.atI_12, DL.ixN_0, DL.ixN_1, DL.upG_same, DL.upG_upG, List.getElem?_cons_zero, List.getElem?_cons_succ, List.cons_append, List.nil_append, Nat.add_one_sub_one, Nat.reduceAdd, Nat.reduceSub, List.length_cons, List.length_nil, decide_eq_true_eq, Bool.not_true, Bool.not_false, List.replicate_succ, List.replicate_zero, List.set_cons_zero, List.set_cons_succ, List.map_cons, List.map_nil])
    obtain ⟨k1, k2⟩ := key (-1) (by rw [if_neg hp])
    rw [k2]
    exact ⟨k1, ⟨shr_ne hb, by omega⟩, ⟨shr_ne hb, by omega⟩, by decide, be_rt h⟩
/-! ### is_whole, is_fraction -/
def isI (d : D) : Bool := match d with
  | .int _ => true
  | _ => false
def isF (d : D) : Bool := match d with
  | .tup [.int a, .int b] => isLow a b
  | _ => false
def sp_is_whole : DSp := fun ds G Q _ => ∃ (n : Nat) (d : D), ds = [d] ∧ okS n d = true ∧ Q (.bl (isI d)) G
theorem ok_is_whole : ∀ ds G Q E, sp_is_whole ds G Q E → rd_is_whole (bodyEnds Q E) (slots N_is_whole ds) G := by
  rintro ds G Q E ⟨n, d, rfl, hd, h⟩
  rw [sl_is_whole]
  simp -dsimp only [↓DL.thn_nx, ↓DL.thn_rt, ↓DL.thn_ex, ↓DL.thn_bk, ↓DL.thn_ct, ↓DL.trn_nx, ↓DL.trn_rt, ↓DL.trn_ex, ↓DL.trn_bk, ↓DL.trn_ct, DL.Br_true, DL.Br_false, ↓DL.dSeq, ↓DL.dNext, ↓DL.dPass, ↓DL.dBrk, ↓DL.dCnt, ↓DL.dDrop, ↓DL.dRet, ↓DL.dRetN, ↓DL.dIfS, ↓DL.gdName, ↓DL.gdNil, ↓DL.gdCons, ↓DL.gdTup, ↓DL.gdSub, ↓DL.dAsg, ↓DL.dPar, ↓DL.dVar, ↓DL.dC, ↓DL.dUn, ↓DL.dBin, ↓DL.dTest, ↓DL.dNot, ↓DL.dAnd, ↓DL.dOr, ↓DL.dVal, ↓DL.dAndV, ↓DL.dOrV, ↓DL.dNotV, ↓DL.dIf, ↓DL.dNil, ↓DL.dCons, ↓DL.dChain, ↓DL.dTup, ↓DL.dLst, ↓DL.dLstM, ↓DL.dCB, ↓DL.dFor, ↓DL.dLc, ↓DL.dLcM, ↓DL.lcLoop, ↓DL.dYes, ↓DL.diVal, ↓DL.diRng1, ↓DL.diRng2, ↓DL.diEnum, ↓DL.diZip, ↓DL.walkD, ↓DL.dCall, ↓DL.dSl, ↓DL.dDct0, ↓DL.dDctM0, ↓DL.rII, ↓DL.rLt, ↓DL.rLe, ↓DL.rGt, ↓DL.rGe, ↓DL.rSub, ↓DL.rMul, ↓DL.rDivP, ↓DL.rDiv, ↓DL.rModP, ↓DL.rPow, ↓DL.rNeg, ↓DL.rAdd, ↓DL.rEq, ↓DL.rNe, ↓DL.rIsN, ↓DL.rNotN, ↓DL.isN, ↓DL.cmp, ↓DL.rIn, ↓DL.rNotIn, ↓DL.rInB, ↓DL.rIx, ↓DL.rSl, ↓DL.rLen, ↓DL.rAbs, ↓DL.rMax2, ↓DL.rMin2, ↓DL.rInt1, ↓DL.rStr1, ↓DL.rDivmod, ↓DL.rListF, ↓DL.rListM, ↓DL.rTuple, ↓DL.rAll, ↓DL.rAny, ↓DL.rSum, ↓DL.rMaxL, ↓DL.rMinL, ↓DL.rIsi, ↓DL.rRepr, ↓DL.rSetD, ↓DL.itemsD, ↓DL.lstD, DL.slots, DL.dWipe, DL.rs_non, DL.rs_bl, DL.rs_i, DL.rs_s, DL.rs_ty, DL.rs_t, DL.rs_l, DL.rs_k, DL.rs_d, DL.rs_in, DL.rs_c, DL.rs_upl, DL.rs_upd, DL.rs_upi, DL.okQ, DL.isS, DL.okN_int, DL.okN_bl, DL.okN_non, DL.deq_ii, DL.okN_ii, DL.deq_int, DL.deq_bl, DL.deq_str, DL.tysB_bool, DL.tysB_int, DL.tysB_str, DL.tysB_tuple, DL.tysB_list, DL.tysB_dict, DL.isT_NoneType_bool, DL.isT_NoneType_int, DL.isT_NoneType_str, DL.isT_NoneType_tuple, DL.isT_NoneType_list, DL.isT_NoneType_dict, DL.isT_bool_bool, DL.isT_bool_int, DL.isT_bool_str, DL.isT_bool_tuple, DL.isT_bool_list, DL.isT_bool_dict, DL.isT_int_bool, DL.isT_int_int, DL.isT_int_str, DL.isT_int_tuple, DL.isT_int_list, DL.isT_int_dict, DL.isT_str_bool, DL.isT_str_int, DL.isT_str_str, DL.isT_str_tuple, DL.isT_str_list, DL.isT_str_dict, DL.isT_tuple_bool, DL.isT_tuple_int, DL.isT_tuple_str, DL.isT_tuple_tuple, DL.isT_tuple_list, DL.isT_tuple_dict, DL.isT_list_bool, DL.isT_list_int, DL.isT_list_str, DL.isT_list_tuple, DL.isT_list_list, DL.isT_list_dict, DL.isT_dict_bool, DL.isT_dict_int, DL.isT_dict_str, DL.isT_dict_tuple, DL.isT_dict_list, DL.isT_dict_dict, true_and, and_true, eq_self, Bool.or_true, Bool.true_or, Bool.or_false, Bool.false_or, Bool.and_true, Bool.true_and, Bool.and_false, Bool.false_and, Bool.false_eq_true, ↓reduceIte, decide_true, decide_false, DL.tyD, DL.kyD, DL.atD, DL.atI_0, DL.atI_1, DL.atI_2, DL.atI_3, DL.atI_4, DL.atI_5, DL.atI_6, DL.atI_7, DL.atI_8, DL.atI_9, DL.atI_10, DL.atI_11, DL.atI_12, DL.ixN_0, DL.ixN_1, DL.upG_same, DL.upG_upG, List.getElem?_cons_zero, List.getElem?_cons_succ, List.cons_append, List.nil_append, Nat.add_one_sub_one, Nat.reduceAdd, Nat.reduceSub, List.length_cons, List.length_nil, decide_eq_true_eq, Bool.not_true, Bool.not_false, List.replicate_succ, List.replicate_zero, List.set_cons_zero, List.set_cons_succ, List.map_cons, List.map_nil, rd_is_whole]
  cases d with
  | ty a => simp [okS] at hd
  | ins a b => simp [okS] at hd
  | cls a => simp [okS] at hd
  | ref a => simp [okS] at hd
  | _ =>
    simp -dsimp only [↓DL.thn_nx, ↓DL.thn_rt, ↓DL.thn_ex, ↓DL.thn_bk, ↓DL.thn_ct, ↓DL.trn_nx, ↓DL.trn_rt, ↓DL.trn_ex, ↓DL.trn_bk, ↓DL.trn_ct, DL.Br_true, DL.Br_false, ↓DL.dSeq, ↓DL.dNext, ↓DL.dPass, ↓DL.dBrk, ↓DL.dCnt, ↓DL.dDrop, ↓DL.dRet, ↓DL.dRetN, ↓DL.dIfS, ↓DL.gdName, ↓DL.gdNil, ↓DL.gdCons, ↓DL.gdTup, ↓DL.gdSub, ↓DL.dAsg, ↓DL.dPar, ↓DL.dVar, ↓DL.dC, ↓DL.dUn, ↓DL.dBin, ↓DL.dTest, ↓DL.dNot, ↓DL.dAnd, ↓DL.dOr, ↓DL.dVal, ↓DL.dAndV, ↓DL.dOrV, ↓DL.dNotV, ↓DL.dIf, ↓DL.dNil, ↓DL.dCons, ↓DL.dChain, ↓DL.dTup, ↓DL.dLst, ↓DL.dLstM, ↓DL.dCB, ↓DL.dFor, ↓DL.dLc, ↓DL.dLcM, ↓DL.lcLoop, ↓DL.dYes, ↓DL.diVal, ↓DL.diRng1, ↓DL.diRng2, ↓DL.diEnum, ↓DL.diZip, ↓DL.walkD, ↓DL.dCall, ↓DL.dSl, ↓DL.dDct0, ↓DL.dDctM0, ↓DL.rII, ↓DL.rLt, ↓DL.rLe, ↓DL.rGt, ↓DL.rGe, ↓DL.rSub, ↓DL.rMul, ↓DL.rDivP, ↓DL.rDiv, ↓DL.rModP, ↓DL.rPow, ↓DL.rNeg, ↓DL.rAdd, ↓DL.rEq, ↓DL.rNe, ↓DL.rIsN, ↓DL.rNotN, ↓DL.isN, ↓DL.cmp, ↓DL.rIn, ↓DL.rNotIn, ↓DL.rInB, ↓DL.rIx, ↓DL.rSl, ↓DL.rLen, ↓DL.rAbs, ↓DL.rMax2, ↓DL.rMin2, ↓DL.rInt1, ↓DL.rStr1, ↓DL.rDivmod, ↓DL.rListF, ↓DL.rListM, ↓DL.rTuple, ↓DL.rAll, ↓DL.rAny, ↓DL.rSum, ↓DL.rMaxL, ↓DL.rMinL, ↓DL.rIsi, ↓DL.rRepr, ↓DL.rSetD, ↓DL.itemsD, ↓DL.lstD, DL.slots, DL.dWipe, DL.rs_non, DL.rs_bl, DL.rs_i, DL.rs_s, DL.rs_ty, DL.rs_t, DL.rs_l, DL.rs_k, DL.rs_d, DL.rs_in, DL.rs_c, DL.rs_upl, DL.rs_upd, DL.rs_upi, DL.okQ, DL.isS, DL.okN_int, DL.okN_bl, DL.okN_non, DL.deq_ii, DL.okN_ii, DL.deq_int, DL.deq_bl, DL.deq_str, DL.tysB_bool, DL.tysB_int, DL.tysB_str, DL.tysB_tuple, DL.tysB_list, DL.tysB_dict, DL.isT_NoneType_bool, DL.isT_NoneType_int, DL.isT_NoneType_str, DL.isT_NoneType_tuple, DL.isT_NoneType_list, DL.isT_NoneType_dict, DL.isT_bool_bool, DL.isT_bool_int, DL.isT_bool_str, DL.isT_bool_tuple, DL.isT_bool_list, DL.isT_bool_dict, DL.isT_int_bool, DL.isT_int_int, DL.isT_int_str, DL.isT_int_tuple, DL.isT_int_list, DL.isT_int_dict, DL.isT_str_bool, DL.isT_str_int, DL.isT_str_str, DL.isT_str_tuple, DL.isT_str_list, DL.isT_str_dict, DL.isT_tuple_bool, DL.isT_tuple_int, DL.isT_tuple_str, DL.isT_tuple_tuple, DL.isT_tuple_list, DL.isT_tuple_dict, DL.isT_list_bool, DL.isT_list_int, DL.isT_list_str, DL.isT_list_tuple, DL.isT_list_list, DL.isT_list_dict, DL.isT_dict_bool, DL.isT_dict_int, DL.isT_dict_str, DL.isT_dict_tuple, DL.isT_dict_list, DL.isT_dict_dict, true_and, and_true, eq_self, Bool.or_true, Bool.true_or, Bool.or_false, Bool.false_or, Bool.and_true, Bool.true_and, Bool.and_false, Bool.false_and, Bool.false_eq_true, ↓reduceIte, decide_true, decide_false, DL.tyD, DL.kyD, DL.atD, DL.atI_0, DL.atI_1, DL.atI_2, DL.atI_3, DL.atI_4, DL.atI_5, DL.atI_6, DL.atI_7, DL.atI_8, DL.atI_9, DL.atI_10, DL.atI_11, DL.atI_12, DL.ixN_0, DL.ixN_1, DL.upG_same, DL.upG_upG, List.getElem?_cons_zero, List.getElem?_cons_succ, List.cons_append, List.nil_append, Nat.add_one_sub_one, Nat.reduceAdd, Nat.reduceSub, List.length_cons, List.length_nil, decide_eq_true_eq, Bool.not_true, Bool.not_false, List.replicate_succ, List.replicate_zero, List.set_cons_zero, List.set_cons_succ, List.map_cons, List.map_nil]
    exact be_rt h
def sp_is_fraction : DSp := fun ds G Q _ => ∃ (n : Nat) (d : D), ds = [d] ∧ okS n d = true ∧ Q (.bl (isF d)) G
theorem ok_is_fraction : ∀ ds G Q E, sp_is_fraction ds G Q E → rd_is_fraction sp_is_whole sp_common_part (bodyEnds Q E) (slots N_is_fraction ds) G := by
  rintro ds G Q E ⟨n, d, rfl, hd, h⟩
  rw [sl_is_fraction]
  simp -dsimp only [↓DL.thn_nx, ↓DL.thn_rt, ↓DL.thn_ex, ↓DL.thn_bk, ↓DL.thn_ct, ↓DL.trn_nx, ↓DL.trn_rt, ↓DL.trn_ex, ↓DL.trn_bk, ↓DL.trn_ct, DL.Br_true, DL.Br_false, ↓DL.dSeq, ↓DL.dNext, ↓DL.dPass, ↓DL.dBrk, ↓DL.dCnt, ↓DL.dDrop, ↓DL.dRet, ↓DL.dRetN, ↓DL.dIfS, ↓DL.gdName, ↓DL.gdNil, ↓DL.gdCons, ↓DL.gdTup, ↓DL.gdSub, ↓DL.dAsg, ↓DL.dPar, ↓DL.dVar, ↓DL.dC, ↓DL.dUn, ↓DL.dBin, ↓DL.dTest, ↓DL.dNot, ↓DL.dAnd, ↓DL.dOr, ↓DL.dVal, ↓DL.dAndV, ↓DL.dOrV, ↓DL.dNotV, ↓DL.dIf, ↓DL.dNil, ↓DL.dCons, ↓DL.dChain, ↓DL.dTup, ↓DL.dLst, ↓DL.dLstM, ↓DL.dCB, ↓DL.dFor, ↓DL.dLc, ↓DL.dLcM, ↓DL.lcLoop, ↓DL.dYes, ↓DL.diVal, ↓DL.diRng1, ↓DL.diRng2, ↓DL.diEnum, ↓DL.diZip, ↓DL.walkD, ↓DL.dCall, ↓DL.dSl, ↓DL.dDct0, ↓DL.dDctM0, ↓DL.rII, ↓DL.rLt, ↓DL.rLe, ↓DL.rGt, ↓DL.rGe, ↓DL.rSub, ↓DL.rMul, ↓DL.rDivP, ↓DL.rDiv, ↓DL.rModP, ↓DL.rPow, ↓DL.rNeg, ↓DL.rAdd, ↓DL.rEq, ↓DL.rNe, ↓DL.rIsN, ↓DL.rNotN, ↓DL.isN, ↓DL.cmp, ↓DL.rIn, ↓DL.rNotIn, ↓DL.rInB, ↓DL.rIx, ↓DL.rSl, ↓DL.rLen, ↓DL.rAbs, ↓DL.rMax2, ↓DL.rMin2, ↓DL.rInt1, ↓DL.rStr1, ↓DL.rDivmod, ↓DL.rListF, ↓DL.rListM, ↓DL.rTuple, ↓DL.rAll, ↓DL.rAny, ↓DL.rSum, ↓DL.rMaxL, ↓DL.rMinL, ↓DL.rIsi, ↓DL.rRepr, ↓DL.rSetD, ↓DL.itemsD, ↓DL.lstD, DL.slots, DL.dWipe, DL.rs_non, DL.rs_bl, DL.rs_i, DL.rs_s, DL.rs_ty, DL.rs_t, DL.rs_l, DL.rs_k, DL.rs_d, DL.rs_in, DL.rs_c, DL.rs_upl, DL.rs_upd, DL.rs_upi, DL.okQ, DL.isS, DL.okN_int, DL.okN_bl, DL.okN_non, DL.deq_ii, DL.okN_ii, DL.deq_int, DL.deq_bl, DL.deq_str, DL.tysB_bool, DL.tysB_int, DL.tysB_str, DL.tysB_tuple, DL.tysB_list, DL.tysB_dict, DL.isT_NoneType_bool, DL.isT_NoneType_int, DL.isT_NoneType_str, DL.isT_NoneType_tuple, DL.isT_NoneType_list, DL.isT_NoneType_dict, DL.isT_bool_bool, DL.isT_bool_int, DL.isT_bool_str, DL.isT_bool_tuple, DL.isT_bool_list, DL.isT_bool_dict, DL.isT_int_bool, DL.isT_int_int, DL.isT_int_str, DL.isT_int_tuple, DL.isT_int_list, DL.isT_int_dict, DL.isT_str_bool, DL.isT_str_int, DL.isT_str_str, DL.isT_str_tuple, DL.isT_str_list, DL.isT_str_dict, DL.isT_tuple_bool, DL.isT_tuple_int, DL.isT_tuple_str, DL.isT_tuple_tuple, DL.isT_tuple_list, DL.isT_tuple_dict, DL.isT_list_bool, DL.isT_list_int, DL.isT_list_str, DL.isT_list_tuple, DL.isT_list_list, DL.isT_list_dict, DL.isT_dict_bool, DL.isT_dict_int, DL.isT_dict_str, DL.isT_dict_tuple, DL.isT_dict_list, DL.isT_dict_dict, true_and, and_true, eq_self, Bool.or_true, Bool.true_or, Bool.or_false, Bool.false_or, Bool.and_true, Bool.true_and, Bool.and_false, Bool.false_and, Bool.false_eq_true, ↓reduceIte, decide_true, decide_false, DL.tyD, DL.kyD, DL.atD, DL.atI_0, DL.atI_1, DL.atI_2, DL.atI_3, DL.atI_4, DL.atI_5, DL.atI_6, DL.atI_7, DL.atI_8, DL.atI_9, DL.atI_10, DL.atI_11, DL.atI_12, DL.ixN_0, DL.ixN_1, DL.upG_same, DL.upG_upG, List.getElem?_cons_zero, List.getElem?_cons_succ, List.cons_append, List.nil_append, Nat.add_one_sub_one, Nat.reduceAdd, Nat.reduceSub, List.length_cons, List.length_nil, decide_eq_true_eq, Bool.not_true, Bool.not_false, List.replicate_succ, List.replicate_zero, List.set_cons_zero, List.set_cons_succ, List.map_cons, List.map_nil, rd_is_fraction]
  cases d with
  | ty a => simp [okS] at hd
  | ins a b => simp [okS] at hd
  | cls a => simp [okS] at hd
  | ref a => simp [okS] at hd
  | tup xs =>
    simp -dsimp only [↓DL.thn_nx, ↓DL.thn_rt, ↓DL.thn_ex, ↓DL.thn_bk, ↓DL.thn_ct, ↓DL.trn_nx, ↓DL.trn_rt, ↓DL.trn_ex, ↓DL.trn_bk, ↓DL.trn_ct, DL.Br_true, DL.Br_false, ↓DL.dSeq, ↓DL.dNext, ↓DL.dPass, ↓DL.dBrk, ↓DL.dCnt, ↓DL.dDrop, ↓DL.dRet, ↓DL.dRetN, ↓DL.dIfS, ↓DL.gdName, ↓DL.gdNil, ↓DL.gdCons, ↓DL.gdTup, ↓DL.gdSub, ↓DL.dAsg, ↓DL.dPar, ↓DL.dVar, ↓DL.dC, ↓DL.dUn, ↓DL.dBin, ↓DL.dTest, ↓DL.dNot, ↓DL.dAnd, ↓DL.dOr, ↓DL.dVal, ↓DL.dAndV, ↓DL.dOrV, ↓DL.dNotV, ↓DL.dIf, ↓DL.dNil, ↓DL.dCons, ↓DL.dChain, ↓DL.dTup, ↓DL.dLst, ↓DL.dLstM, ↓DL.dCB, ↓DL.dFor, ↓DL.dLc, ↓DL.dLcM, ↓DL.lcLoop, ↓DL.dYes, ↓DL.diVal, ↓DL.diRng1, ↓DL.diRng2, ↓DL.diEnum, ↓DL.diZip, ↓DL.walkD, ↓DL.dCall, ↓DL.dSl, ↓DL.dDct0, ↓DL.dDctM0, ↓DL.rII, ↓DL.rLt, ↓DL.rLe, ↓DL.rGt, ↓DL.rGe, ↓DL.rSub, ↓DL.rMul, ↓DL.rDivP, ↓DL.rDiv, ↓DL.rModP, ↓DL.rPow, ↓DL.rNeg, ↓DL.rAdd, ↓DL.rEq, ↓DL.rNe, ↓DL.rIsN, ↓DL.rNotN, ↓DL.isN, ↓DL.cmp, ↓DL.rIn, ↓DL.rNotIn, ↓DL.rInB, ↓DL.rIx, ↓DL.rSl, ↓DL.rLen, ↓DL.rAbs, ↓DL.rMax2, ↓DL.rMin2, ↓DL.rInt1, ↓DL.rStr1, ↓DL.rDivmod, ↓DL.rListF, ↓DL.rListM, ↓DL.rTuple, ↓DL.rAll, ↓DL.rAny, ↓DL.rSum, ↓DL.rMaxL, ↓DL.rMinL, ↓DL.rIsi, ↓DL.rRepr, ↓DL.rSetD, ↓DL.itemsD, ↓DL.lstD, DL.slots, DL.dWipe, DL.rs_non, DL.rs_bl, DL.rs_i, DL.rs_s, DL.rs_ty, DL.rs_t, DL.rs_l, DL.rs_k, DL.rs_d, DL.rs_in, DL.rs_c, DL.rs_upl, DL.rs_upd, DL.rs_upi, DL.okQ, DL.isS, DL.okN_int, DL.okN_bl, DL.okN_non, DL.deq_ii, DL.okN_ii, DL.deq_int, DL.deq_bl, DL.deq_str, DL.tysB_bool, DL.tysB_int, DL.tysB_str, DL.tysB_tuple, DL.tysB_list, DL.tysB_dict, DL.isT_NoneType_bool, DL.isT_NoneType_int, DL.isT_NoneType_str, DL.isT_NoneType_tuple, DL.isT_NoneType_list, DL.isT_NoneType_dict, DL.isT_bool_bool, DL.isT_bool_int, DL.isT_bool_str, DL.isT_bool_tuple, DL.isT_bool_list, DL.isT_bool_dict, DL.isT_int_bool, DL.isT_int_int, DL.isT_int_str, DL.isT_int_tuple, DL.isT_int_list, DL.isT_int_dict, DL.isT_str_bool, DL.isT_str_int, DL.isT_str_str, DL.isT_str_tuple, DL.isT_str_list, DL.isT_str_dict, DL.isT_tuple_bool, DL.isT_tuple_int, DL.isT_tuple_str, DL.isT_tuple_tuple, DL.isT_tuple_list, DL.isT_tuple_dict, DL.isT_list_bool, DL.isT_list_int, DL.isT_list_str, DL.isT_list_tuple, DL.isT_list_list, DL.isT_list_dict, DL.isT_dict_bool, DL.isT_dict_int, DL.isT_dict_str, DL.isT_dict_tuple, DL.isT_dict_list, DL.isT_dict_dict, true_and, and_true, eq_self, Bool.or_true, Bool.true_or, Bool.or_false, Bool.false_or, Bool.and_true, Bool.true_and, Bool.and_false, Bool.false_and, Bool.false_eq_true, ↓reduceIte, decide_true, decide_false, DL.tyD, DL.kyD, DL.atD, DL.atI_0, DL.atI_1, DL.atI_2, DL.atI_3, DL.atI_4, DL.atI_5, DL.atI_6, DL.atI_7, DL.atI_8, DL.atI_9, DL.atI_10, DL.atI_11, DL.atI_12, DL.ixN_0, DL.ixN_1, DL.upG_same, DL.upG_upG, List.getElem?_cons_zero, List.getElem?_cons_succ, List.cons_append, List.nil_append, Nat.add_one_sub_one, Nat.reduceAdd, Nat.reduceSub, List.length_cons, List.length_nil, decide_eq_true_eq, Bool.not_true, Bool.not_false, List.replicate_succ, List.replicate_zero, List.set_cons_zero, List.set_cons_succ, List.map_cons, List.map_nil]
    by_cases h2 : (xs.length : Int) = 2
    · obtain ⟨x, y, rfl⟩ : ∃ x y, xs = [x, y] := by
        match xs, h2 with
        | [x, y], _ => exact ⟨x, y, rfl⟩
        | [], h => simp at h
        | [_], h => simp at h
        | _ :: _ :: _ :: _, h => simp at h; omega
      simp only [okS, okSL, Bool.and_eq_true, Bool.and_true] at hd
      simp -dsimp only [↓DL.thn_nx, ↓DL.thn_rt, ↓DL.thn_ex, ↓DL.thn_bk, ↓DL.thn_ct, ↓DL.trn_nx, ↓DL.trn_rt, ↓DL.trn_ex, ↓DL.trn_bk, ↓DL.trn_ct, DL.Br_true, DL.Br_false, ↓DL.dSeq, ↓DL.dNext, ↓DL.dPass, ↓DL.dBrk, ↓DL.dCnt, ↓DL.dDrop, ↓DL.dRet, ↓DL.dRetN, ↓DL.dIfS, ↓DL.gdName, ↓DL.gdNil, ↓DL.gdCons, ↓DL.gdTup, ↓DL.gdSub, ↓DL.dAsg, ↓DL.dPar, ↓DL.dVar, ↓DL.dC, ↓DL.dUn, ↓DL.dBin, ↓DL.dTest, ↓DL.dNot, ↓DL.dAnd, ↓DL.dOr, ↓DL.dVal, ↓DL.dAndV, ↓DL.dOrV, ↓DL.dNotV, ↓DL.dIf, ↓DL.dNil, ↓DL.dCons, ↓DL.dChain, ↓DL.dTup, ↓DL.dLst, ↓DL.dLstM, ↓DL.dCB, ↓DL.dFor, ↓DL.dLc, ↓DL.dLcM, ↓DL.lcLoop, ↓DL.dYes, ↓DL.diVal, ↓DL.diRng1, ↓DL.diRng2, ↓DL.diEnum, ↓DL.diZip, ↓DL.walkD, ↓DL.dCall, ↓DL.dSl, ↓DL.dDct0, ↓DL.dDctM0, ↓DL.rII, ↓DL.rLt, ↓DL.rLe, ↓DL.rGt, ↓DL.rGe, ↓DL.rSub, ↓DL.rMul, ↓DL.rDivP, ↓DL.rDiv, ↓DL.rModP, ↓DL.rPow, ↓DL.rNeg, ↓DL.rAdd, ↓DL.rEq, ↓DL.rNe, ↓DL.rIsN, ↓DL.rNotN, ↓DL.isN, ↓DL.cmp, ↓DL.rIn, ↓DL.rNotIn, ↓DL.rInB, ↓DL.rIx, ↓DL.rSl, ↓DL.rLen, ↓DL.rAbs, ↓DL.rMax2, ↓DL.rMin2, ↓DL.rInt1, ↓DL.rStr1, ↓DL.rDivmod, ↓DL.rListF, ↓DL.rListM, ↓DL.rTuple, ↓DL.rAll, ↓DL.rAny, ↓DL.rSum, ↓DL.rMaxL, ↓DL.rMinL, ↓DL.rIsi, ↓DL.rRepr, ↓DL.rSetD, ↓DL.itemsD, ↓DL.lstD, DL.slots, DL.dWipe, DL.rs_non, DL.rs_bl, DL.rs_i, DL.rs_s, DL.rs_ty, DL.rs_t, DL.rs_l, DL.rs_k, DL.rs_d, DL.rs_in, DL.rs_c, DL.rs_upl, DL.rs_upd, DL.rs_upi, DL.okQ, DL.isS, DL.okN_int, DL.okN_bl, DL.okN_non, DL.deq_ii, DL.okN_ii, DL.deq_int, DL.deq_bl, DL.deq_str, DL.tysB_bool, DL.tysB_int, DL.tysB_str, DL.tysB_tuple, DL.tysB_list, DL.tysB_dict, DL.isT_NoneType_bool, DL.isT_NoneType_int, DL.isT_NoneType_str, DL.isT_NoneType_tuple, DL.isT_NoneType_list, DL.isT_NoneType_dict, DL.isT_bool_bool, DL.isT_bool_int, DL.isT_bool_str, DL.isT_bool_tuple, DL.isT_bool_list, DL.isT_bool_dict, DL.isT_int_bool, DL.isT_int_int, DL.isT_int_str, DL.isT_int_tuple, DL.isT_int_list, DL.isT_int_dict, DL.isT_str_bool, DL.isT_str_int, DL.isT_str_str, DL.isT_str_tuple, DL.isT_str_list, DL.isT_str_dict, DL.isT_tuple_bool, DL.isT_tuple_int, DL.isT_tuple_str, DL.isT_tuple_tuple, DL.isT_tuple_list, DL.isT_tuple_dict, DL.isT_list_bool, DL.isT_list_int, DL.isT_list_str, DL.isT_list_tuple, DL.isT_list_list, DL.isT_list_dict, DL.isT_dict_bool, DL.isT_dict_int, DL.isT_dict_str, DL.isT_dict_tuple, DL.isT_dict_list, DL.isT_dict_dict, true_and, and_true, eq_self, Bool.or_true, Bool.true_or, Bool.or_false, Bool.false_or, Bool.and_true, Bool.true_and, Bool.and_false, Bool.false_and, Bool.false_eq_true, ↓reduceIte, decide_true, decide_false, DL.tyD, DL.kyD, DL.atD, DL.atI_0, DL.atI_1, DL.atI_2, DL.atI_3, DL.atI_4, DL.atI_5, DL.atI_6, DL.atI_7, DL.atI_8, DL.atI_9, DL.atI_10, DL.atI_11, DL.atI_12, DL.ixN_0, DL.ixN_1, DL.upG_same, DL.upG_upG, List.getElem?_cons_zero, List.getElem?_cons_succ, List.cons_append, List.nil_append, Nat.add_one_sub_one, Nat.reduceAdd, Nat.reduceSub, List.length_cons, List.length_nil, decide_eq_true_eq, Bool.not_true, Bool.not_false, List.replicate_succ, List.replicate_zero, List.set_cons_zero, List.set_cons_succ, List.map_cons, List.map_nil]
      (refine br_npos (by simp) ?_; try simp -dsimp only [↓DL.thn_nx, ↓DL.thn_rt, ↓DL.thn_ex, ↓DL.thn_bk, ↓DL.thn_ct, ↓DL.trn_nx, ↓DL.trn_rt, ↓DL.trn_ex, ↓DL.trn_bk, ↓DL.trn_ct, DL.Br_true, DL.Br_false, ↓DL.dSeq, ↓DL.dNext, ↓DL.dPass, ↓DL.dBrk, ↓DL.dCnt, ↓DL.dDrop, ↓DL.dRet, ↓DL.dRetN, ↓DL.dIfS, ↓DL.gdName, ↓DL.gdNil, ↓DL.gdCons, ↓DL.gdTup, ↓DL.gdSub, ↓DL.dAsg, ↓DL.dPar, ↓DL.dVar, ↓DL.dC, ↓DL.dUn, ↓DL.dBin, ↓DL.dTest, ↓DL.dNot, ↓DL.dAnd, ↓DL.dOr, ↓DL.dVal, ↓DL.dAndV, ↓DL.dOrV, ↓DL.dNotV, ↓DL.dIf, ↓DL.dNil, ↓DL.dCons, ↓DL.dChain, ↓DL.dTup, ↓DL.dLst, ↓DL.dLstM, ↓DL.dCB, ↓DL.dFor, ↓DL.dLc, ↓DL.dLcM, ↓DL.lcLoop, ↓DL.dYes, ↓DL.diVal, ↓DL.diRng1, ↓DL.diRng2, ↓DL.diEnum, ↓DL.diZip, ↓DL.walkD, ↓DL.dCall, ↓DL.dSl, ↓DL.dDct0, ↓DL.dDctM0, ↓DL.rII, ↓DL.rLt, ↓DL.rLe, ↓DL.rGt, ↓DL.rGe, ↓DL.rSub, ↓DL.rMul, ↓DL.rDivP, ↓DL.rDiv, ↓DL.rModP, ↓DL.rPow, ↓DL.rNeg, ↓DL.rAdd, ↓DL.rEq, ↓DL.rNe, ↓DL.rIsN, ↓DL.rNotN, ↓DL.isN, ↓DL.cmp, ↓DL.rIn, ↓DL.rNotIn, ↓DL.rInB, ↓DL.rIx, ↓DL.rSl, ↓DL.rLen, ↓DL.rAbs, ↓DL.rMax2, ↓DL.rMin2, ↓DL.rInt1, ↓DL.rStr1, ↓DL.rDivmod, ↓DL.rListF, ↓DL.rListM, ↓DL.rTuple, ↓DL.rAll, ↓DL.rAny, ↓DL.rSum, ↓DL.rMaxL, ↓DL.rMinL, ↓DL.rIsi, ↓DL.rRepr, ↓DL.rSetD, ↓DL.itemsD, ↓DL.lstD, DL.slots, DL.dWipe, DL.rs_non, DL.rs_bl, DL.rs_i, DL.rs_s, DL.rs_ty, DL.rs_t, DL.rs_l, DL.rs_k, DL.rs_d, DL.rs_in, DL.rs_c, DL.rs_upl, DL.rs_upd, DL.rs_upi, DL.okQ, DL.isS, DL.okN_int, DL.okN_bl, DL.okN_non, DL.deq_ii, DL.okN_ii, DL.deq_int, DL.deq_bl, DL.deq_str, DL.tysB_bool, DL.tysB_int, DL.tysB_str, DL.tysB_tuple, DL.tysB_list, DL.tysB_dict, DL.isT_NoneType_bool, DL.isT_NoneType_int, DL.isT_NoneType_str, DL.isT_NoneType_tuple, DL.isT_NoneType_list, DL.isT_NoneType_dict, DL.isT_bool_bool, DL.isT_bool_int, DL.isT_bool_str, DL.isT_bool_tuple, DL.isT_bool_list, DL.isT_bool_dict, DL.isT_int_bool, DL.isT_int_int, DL.isT_int_str, DL.isT_int_tuple, DL.isT_int_list, DL.isT_int_dict, DL.isT_str_bool, DL.isT_str_int, DL.isT_str_str, DL.isT_str_tuple, DL.isT_str_list, DL.isT_str_dict, DL.isT_tuple_bool, DL.isT_tuple_int, DL.isT_tuple_str, DL.isT_tuple_tuple, DL.isT_tuple_list, DL.isT_tuple_dict, DL.isT_list_bool, DL.isT_list_int, DL.isT_list_str, DL.isT_list_tuple, DL.isT_list_list, DL.isT_list_dict, DL.isT_dict_bool, DL.isT_dict_int, DL.isT_dict_str, DL.isT_dict_tuple, DL.isT_dict_list, DL.isT_dict_dict, true_and, and_true, eq_self, Bool.or_true, Bool.true_or, Bool.or_false, Bool.false_or, Bool.and_true, Bool.true_and, Bool.and_false, Bool.false_and, Bool.false_eq_true, ↓reduceIte, decide_true, decide_false, DL.tyD, DL.kyD, DL.atD, DL.atI_0, DL.atI_1, DL.atI_2, DL.atI_3, DL.atI_4, DL.atI_5, DL.atI_6, DL.atI_7, DL.atI_8, DL.atI_9, DL.atI_10, DL.atI_11, DL.atI_12, DL.ixN_0, DL.ixN_1, DL.upG_same, DL.upG_upG, List.getElem?_cons_zero, List.getElem?_cons_succ, List.cons_append, List.nil_append, Nat.add_one_sub_one, Nat.reduceAdd, Nat.reduceSub, List.length_cons, List.length_nil, decide_eq_true_eq, Bool.not_true, Bool.not_false, List.replicate_succ, List.replicate_zero, List.set_cons_zero, List.set_cons_succ, List.map_cons, List.map_nil])
      refine lcK_map (fun d => .bl (isI d)) (show 2 < sizeLine by decide) (fun _ _ => trivial) (fun z hz G2 R _ hr => ?_) ?_
      · simp -dsimp only [↓DL.thn_nx, ↓DL.thn_rt, ↓DL.thn_ex, ↓DL.thn_bk, ↓DL.thn_ct, ↓DL.trn_nx, ↓DL.trn_rt, ↓DL.trn_ex, ↓DL.trn_bk, ↓DL.trn_ct, DL.Br_true, DL.Br_false, ↓DL.dSeq, ↓DL.dNext, ↓DL.dPass, ↓DL.dBrk, ↓DL.dCnt, ↓DL.dDrop, ↓DL.dRet, ↓DL.dRetN, ↓DL.dIfS, ↓DL.gdName, ↓DL.gdNil, ↓DL.gdCons, ↓DL.gdTup, ↓DL.gdSub, ↓DL.dAsg, ↓DL.dPar, ↓DL.dVar, ↓DL.dC, ↓DL.dUn, ↓DL.dBin, ↓DL.dTest, ↓DL.dNot, ↓DL.dAnd, ↓DL.dOr, ↓DL.dVal, ↓DL.dAndV, ↓DL.dOrV, ↓DL.dNotV, ↓DL.dIf, ↓DL.dNil, ↓DL.dCons, ↓DL.dChain, ↓DL.dTup, ↓DL.dLst, ↓DL.dLstM, ↓DL.dCB, ↓DL.dFor, ↓DL.dLc, ↓DL.dLcM, ↓DL.lcLoop, ↓DL.dYes, ↓DL.diVal, ↓DL.diRng1, ↓DL.diRng2, ↓DL.diEnum, ↓DL.diZip, ↓DL.walkD, ↓DL.dCall, ↓DL.dSl, ↓DL.dDct0, ↓DL.dDctM0, ↓DL.rII, ↓DL.rLt, ↓DL.rLe, ↓DL.rGt, ↓DL.rGe, ↓DL.rSub, ↓DL.rMul, ↓DL.rDivP, ↓DL.rDiv, ↓DL.rModP, ↓DL.rPow, ↓DL.rNeg, ↓DL.rAdd, ↓DL.rEq, ↓DL.rNe, ↓DL.rIsN, ↓DL.rNotN, ↓DL.isN, ↓DL.cmp, ↓DL.rIn, ↓DL.rNotIn, ↓DL.rInB, ↓DL.rIx, ↓DL.rSl, ↓DL.rLen, ↓DL.rAbs, ↓DL.rMax2, ↓DL.rMin2, ↓DL.rInt1, ↓DL.rStr1, ↓DL.rDivmod, ↓DL.rListF, ↓DL.rListM, ↓DL.rTuple, ↓DL.rAll, ↓DL.rAny, ↓DL.rSum, ↓DL.rMaxL, ↓DL.rMinL, ↓DL.rIsi, ↓DL.rRepr, ↓DL.rSetD, ↓DL.itemsD, ↓DL.lstD, DL.slots, DL.dWipe, DL.rs_non, DL.rs_bl, DL.rs_i, DL.rs_s, DL.rs_ty, DL.rs_t, DL.rs_l, DL.rs_k, DL.rs_d, DL.rs_in, DL.rs_c, DL.rs_upl, DL.rs_upd, DL.rs_upi, DL.okQ, DL.isS, DL.okN_int, DL.okN_bl, DL.okN_non, DL.deq_ii, DL.okN_ii, DL.deq_int, DL.deq_bl, DL.deq_str, DL.tysB_bool, DL.tysB_int, DL.tysB_str, DL.tysB_tuple, DL.tysB_list, DL.tysB_dict, DL.isT_NoneType_bool, DL.isT_NoneType_int, DL.isT_NoneType_str, DL.isT_NoneType_tuple, DL.isT_NoneType_list, DL.isT_NoneType_dict, DL.isT_bool_bool, DL.isT_bool_int, DL.isT_bool_str, DL.isT_bool_tuple, DL.isT_bool_list, DL.isT_bool_dict, DL.isT_int_bool, DL.isT_int_int, DL.isT_int_str, DL.isT_int_tuple, DL.isT_int_list, DL.isT_int_dict, DL.isT_str_bool, DL.isT_str_int, DL.isT_str_str, DL.isT_str_tuple, DL.isT_str_list, DL.isT_str_dict, DL.isT_tuple_bool, DL.isT_tuple_int, DL.isT_tuple_str, DL.isT_tuple_tuple, DL.isT_tuple_list, DL.isT_tuple_dict, DL.isT_list_bool, DL.isT_list_int, DL.isT_list_str, DL.isT_list_tuple, DL.isT_list_list, DL.isT_list_dict, DL.isT_dict_bool, DL.isT_dict_int, DL.isT_dict_str, DL.isT_dict_tuple, DL.isT_dict_list, DL.isT_dict_dict, true_and, and_true, eq_self, Bool.or_true, Bool.true_or, Bool.or_false, Bool.false_or, Bool.and_true, Bool.true_and, Bool.and_false, Bool.false_and, Bool.false_eq_true, ↓reduceIte, decide_true, decide_false, DL.tyD, DL.kyD, DL.atD, DL.atI_0, DL.atI_1, DL.atI_2, DL.atI_3, DL.atI_4, DL.atI_5, DL.atI_6, DL.atI_7, DL.atI_8, DL.atI_9, DL.atI_10, DL.atI_11, DL.atI_12, DL.ixN_0, DL.ixN_1, DL.upG_same, DL.upG_upG, List.getElem?_cons_zero, List.getElem?_cons_succ, List.cons_append, List.nil_append, Nat.add_one_sub_one, Nat.reduceAdd, Nat.reduceSub, List.length_cons, List.length_nil, decide_eq_true_eq, Bool.not_true, Bool.not_false, List.replicate_succ, List.replicate_zero, List.set_cons_zero, List.set_cons_succ, List.map_cons, List.map_nil]
        refine ⟨n - 1, z, rfl, ?_, hr⟩
        simp only [List.mem_cons, List.not_mem_nil, or_false] at hz
        rcases hz with e | e
        · rw [e]; exact hd.2.1
        · rw [e]; exact hd.2.2
      · simp -dsimp only [↓DL.thn_nx, ↓DL.thn_rt, ↓DL.thn_ex, ↓DL.thn_bk, ↓DL.thn_ct, ↓DL.trn_nx, ↓DL.trn_rt, ↓DL.trn_ex, ↓DL.trn_bk, ↓DL.trn_ct, DL.Br_true, DL.Br_false, ↓DL.dSeq, ↓DL.dNext, ↓DL.dPass, ↓DL.dBrk, ↓DL.dCnt, ↓DL.dDrop, ↓DL.dRet, ↓DL.dRetN, ↓DL.dIfS, ↓DL.gdName, ↓DL.gdNil, ↓DL.gdCons, ↓DL.gdTup, ↓DL.gdSub, ↓DL.dAsg, ↓DL.dPar, ↓DL.dVar, ↓DL.dC, ↓DL.dUn, ↓DL.dBin, ↓DL.dTest, ↓DL.dNot, ↓DL.dAnd, ↓DL.dOr, ↓DL.dVal, ↓DL.dAndV, ↓DL.dOrV, ↓DL.dNotV, ↓DL.dIf, ↓DL.dNil, ↓DL.dCons, ↓DL.dChain, ↓DL.dTup, ↓DL.dLst, ↓DL.dLstM, ↓DL.dCB, ↓DL.dFor, ↓DL.dLc, ↓DL.dLcM, ↓DL.lcLoop, ↓DL.dYes, ↓DL.diVal, ↓DL.diRng1, ↓DL.diRng2, ↓DL.diEnum, ↓DL.diZip, ↓DL.walkD, ↓DL.dCall, ↓DL.dSl, ↓DL.dDct0, ↓DL.dDctM0, ↓DL.rII, ↓DL.rLt, ↓DL.rLe, ↓DL.rGt, ↓DL.rGe, ↓DL.rSub, ↓DL.rMul, ↓DL.rDivP, ↓DL.rDiv, ↓DL.rModP, ↓DL.rPow, ↓DL.rNeg, ↓DL.rAdd, ↓DL.rEq, ↓DL.rNe, ↓DL.rIsN, ↓DL.rNotN, ↓DL.isN, ↓DL.cmp, ↓DL.rIn, ↓DL.rNotIn, ↓DL.rInB, ↓DL.rIx, ↓DL.rSl, ↓DL.rLen, ↓DL.rAbs, ↓DL.rMax2, ↓DL.rMin2, ↓DL.rInt1, ↓DL.rStr1, ↓DL.rDivmod, ↓DL.rListF, ↓DL.rListM, ↓DL.rTuple, ↓DL.rAll, ↓DL.rAny, ↓DL.rSum, ↓DL.rMaxL, ↓DL.rMinL, ↓DL.rIsi, ↓DL.rRepr, ↓DL.rSetD, ↓DL.itemsD, ↓DL.lstD, DL.slots, DL.dWipe, DL.rs_non, DL.rs_bl, DL.rs_i, DL.rs_s, DL.rs_ty, DL.rs_t, DL.rs_l, DL.rs_k, DL.rs_d, DL.rs_in, DL.rs_c, DL.rs_upl, DL.rs_upd, DL.rs_upi, DL.okQ, DL.isS, DL.okN_int, DL.okN_bl, DL.okN_non, DL.deq_ii, DL.okN_ii, DL.deq_int, DL.deq_bl, DL.deq_str, DL.tysB_bool, DL.tysB_int, DL.tysB_str, DL.tysB_tuple, DL.tysB_list, DL.tysB_dict, DL.isT_NoneType_bool, DL.isT_NoneType_int, DL.isT_NoneType_str, DL.isT_NoneType_tuple, DL.isT_NoneType_list, DL.isT_NoneType_dict, DL.isT_bool_bool, DL.isT_bool_int, DL.isT_bool_str, DL.isT_bool_tuple, DL.isT_bool_list, DL.isT_bool_dict, DL.isT_int_bool, DL.isT_int_int, DL.isT_int_str, DL.isT_int_tuple, DL.isT_int_list, DL.isT_int_dict, DL.isT_str_bool, DL.isT_str_int, DL.isT_str_str, DL.isT_str_tuple, DL.isT_str_list, DL.isT_str_dict, DL.isT_tuple_bool, DL.isT_tuple_int, DL.isT_tuple_str, DL.isT_tuple_tuple, DL.isT_tuple_list, DL.isT_tuple_dict, DL.isT_list_bool, DL.isT_list_int, DL.isT_list_str, DL.isT_list_tuple, DL.isT_list_list, DL.isT_list_dict, DL.isT_dict_bool, DL.isT_dict_int, DL.isT_dict_str, DL.isT_dict_tuple, DL.isT_dict_list, DL.isT_dict_dict, true_and, and_true, eq_self, Bool.or_true, Bool.true_or, Bool.or_false, Bool.false_or, Bool.and_true, Bool.true_and, Bool.and_false, Bool.false_and, Bool.false_eq_true, ↓reduceIte, decide_true, decide_false, DL.tyD, DL.kyD, DL.atD, DL.atI_0, DL.atI_1, DL.atI_2, DL.atI_3, DL.atI_4, DL.atI_5, DL.atI_6, DL.atI_7, DL.atI_8, DL.atI_9, DL.atI_10, DL.atI_11, DL.atI_12, DL.ixN_0, DL.ixN_1, DL.upG_same, DL.upG_upG, List.getElem?_cons_zero, List.getElem?_cons_succ, List.cons_append, List.nil_append, Nat.add_one_sub_one, Nat.reduceAdd, Nat.reduceSub, List.length_cons, List.length_nil, decide_eq_true_eq, Bool.not_true, Bool.not_false, List.replicate_succ, List.replicate_zero, List.set_cons_zero, List.set_cons_succ, List.map_cons, List.map_nil]
        refine ⟨[isI x, isI y], rfl, ?_⟩
        cases x with
        | int a =>
          cases y with
          | int b =>
            simp -dsimp only [↓DL.thn_nx, ↓DL.thn_rt, ↓DL.thn_ex, ↓DL.thn_bk, ↓DL.thn_ct, ↓DL.trn_nx, ↓DL.trn_rt, ↓DL.trn_ex, ↓DL.trn_bk, ↓DL.trn_ct, DL.Br_true, DL.Br_false, ↓DL.dSeq, ↓DL.dNext, ↓DL.dPass, ↓DL.dBrk, ↓DL.dCnt, ↓DL.dDrop, ↓DL.dRet, ↓DL.dRetN, ↓DL.dIfS, ↓DL.gdName, ↓DL.gdNil, ↓DL.gdCons, ↓DL.gdTup, ↓DL.gdSub, ↓DL.dAsg, ↓DL.dPar, ↓DL.dVar, ↓DL.dC, ↓DL.dUn, ↓DL.dBin, ↓DL.dTest, ↓DL.dNot, ↓DL.dAnd, ↓DL.dOr, ↓DL.dVal, ↓DL.dAndV, ↓DL.dOrV, ↓DL.dNotV, ↓DL.dIf, ↓DL.dNil, ↓DL.dCons, ↓DL.dChain, ↓DL.dTup, ↓DL.dLst, ↓DL.dLstM, ↓DL.dCB, ↓DL.dFor, ↓DL.dLc, ↓DL.dLcM, ↓DL.lcLoop, ↓DL.dYes, ↓DL.diVal, ↓DL.diRng1, ↓DL.diRng2, ↓DL.diEnum, ↓DL.diZip, ↓DL.walkD, ↓DL.dCall, ↓DL.dSl, ↓DL.dDct0, ↓DL.dDctM0, ↓DL.rII, ↓DL.rLt, ↓DL.rLe, ↓DL.rGt, ↓DL.rGe, ↓DL.rSub, ↓DL.rMul, ↓DL.rDivP, ↓DL.rDiv, ↓DL.rModP, ↓DL.rPow, ↓DL.rNeg, ↓DL.rAdd, ↓DL.rEq, ↓DL.rNe, ↓DL.rIsN, ↓DL.rNotN, ↓DL.isN, ↓DL.cmp, ↓DL.rIn, ↓DL.rNotIn, ↓DL.rInB, ↓DL.rIx, ↓DL.rSl, ↓DL.rLen, ↓DL.rAbs, ↓DL.rMax2, ↓DL.rMin2, ↓DL.rInt1, ↓DL.rStr1, ↓DL.rDivmod, ↓DL.rListF, ↓DL.rListM, ↓DL.rTuple, ↓DL.rAll, ↓DL.rAny, ↓DL.rSum, ↓DL.rMaxL, ↓DL.rMinL, ↓DL.rIsi, ↓DL.rRepr, ↓DL.rSetD, ↓DL.itemsD, ↓DL.lstD, DL.slots, DL.dWipe, DL.rs_non, DL.rs_bl, DL.rs_i, DL.rs_s, DL.rs_ty, DL.rs_t, DL.rs_l, DL.rs_k, DL.rs_d, DL.rs_in, DL.rs_c, DL.rs_upl, DL.rs_upd, DL.rs_upi, DL.okQ, DL.isS, DL.okN_int, DL.okN_bl, DL.okN_non, DL.deq_ii, DL.okN_ii, DL.deq_int, DL.deq_bl, DL.deq_str, DL.tysB_bool, DL.tysB_int, DL.tysB_str, DL.tysB_tuple, DL.tysB_list, DL.tysB_dict, DL.isT_NoneType_bool, DL.isT_NoneType_int, DL.isT_NoneType_str, DL.isT_NoneType_tuple, DL.isT_NoneType_list, DL.isT_NoneType_dict, DL.isT_bool_bool, DL.isT_bool_int, DL.isT_bool_str, DL.isT_bool_tuple, DL.isT_bool_list, DL.isT_bool_dict, DL.isT_int_bool, DL.isT_int_int, DL.isT_int_str, DL.isT_int_tuple, DL.isT_int_list, DL.isT_int_dict, DL.isT_str_bool, DL.isT_str_int, DL.isT_str_str, DL.isT_str_tuple, DL.isT_str_list, DL.isT_str_dict, DL.isT_tuple_bool, DL.isT_tuple_int, DL.isT_tuple_str, DL.isT_tuple_tuple, DL.isT_tuple_list, DL.isT_tuple_dict, DL.isT_list_bool, DL.isT_list_int, DL.isT_list_str, DL.isT_list_tuple, DL.isT_list_list, DL.isT_list_dict, DL.isT_dict_bool, DL.isT_dict_int, DL.isT_dict_str, DL.isT_dict_tuple, DL.isT_dict_list, DL.isT_dict_dict, true_and, and_true, eq_self, Bool.or_true, Bool.true_or, Bool.or_false, Bool.false_or, Bool.and_true, Bool.true_and, Bool.and_false, Bool.false_and, Bool.false_eq_true, ↓reduceIte, decide_true, decide_false, DL.tyD, DL.kyD, DL.atD, DL.atI_0, DL.atI_1, DL.atI_2, DL.atI_3, DL.atI_4, DL.atI_5, DL.atI_6, DL.atI_7, DL.atI_8, DL.atI_9, DL.atI_10, DL.atI_11, DL.atI_12, DL.ixN_0, DL.ixN_1, DL.upG_same, DL.upG_upG, List.getElem?_cons_zero, List.getElem?_cons_succ, List.cons_append, List.nil_append, Nat.add_one_sub_one, Nat.reduceAdd, Nat.reduceSub, List.length_cons, List.length_nil, decide_eq_true_eq, Bool.not_true, Bool.not_false, List.replicate_succ, List.replicate_zero, List.set_cons_zero, List.set_cons_succ, List.map_cons, List.map_nil, isI, List.all_cons, List.all_nil, id]
            by_cases hb : 0 < b
            · (refine br_pos hb ?_; try simp -dsimp only [↓DL.thn_nx, ↓DL.thn_rt, ↓DL.thn_ex, ↓DL.thn_bk, ↓DL.thn_ct, ↓DL.trn_nx, ↓DL.trn_rt, ↓DL.trn_ex, ↓DL.trn_bk, ↓DL.trn_ct, DL.Br_true, DL.Br_false, ↓DL.dSeq, ↓DL.dNext, ↓DL.dPass, ↓DL.dBrk, ↓DL.dCnt, ↓DL.dDrop, ↓DL.dRet, ↓DL.dRetN, ↓DL.dIfS, ↓DL.gdName, ↓DL.gdNil, ↓DL.gdCons, ↓DL.gdTup, ↓DL.gdSub, ↓DL.dAsg, ↓DL.dPar, ↓DL.dVar, ↓DL.dC, ↓DL.dUn, ↓DL.dBin, ↓DL.dTest, ↓DL.dNot, ↓DL.dAnd, ↓DL.dOr, ↓DL.dVal, ↓DL.dAndV, ↓DL.dOrV, ↓DL.dNotV, ↓DL.dIf, ↓DL.dNil, ↓DL.dCons, ↓DL.dChain, ↓DL.dTup, ↓DL.dLst, ↓DL.dLstM, ↓DL.dCB, ↓DL.dFor, ↓DL.dLc, ↓DL.dLcM, ↓DL.lcLoop, ↓DL.dYes, ↓DL.diVal, ↓DL.diRng1, ↓DL.diRng2, ↓DL.diEnum, ↓DL.diZip, ↓DL.walkD, ↓DL.dCall, ↓DL.dSl, ↓DL.dDct0, ↓DL.dDctM0, ↓DL.rII, ↓DL.rLt, ↓DL.rLe, ↓DL.rGt, ↓DL.rGe, ↓DL.rSub, ↓DL.rMul, ↓DL.rDivP, ↓DL.rDiv, ↓DL.rModP, ↓DL.rPow, ↓DL.rNeg, ↓DL.rAdd, ↓DL.rEq, ↓DL.rNe, ↓DL.rIsN, ↓DL.rNotN, ↓DL.isN, ↓DL.cmp, ↓DL.rIn, ↓DL.rNotIn, ↓DL.rInB, ↓DL.rIx, ↓DL.rSl, ↓DL.rLen, ↓DL.rAbs, ↓DL.rMax2, ↓DL.rMin2, ↓DL.rInt1, ↓DL.rStr1, ↓DL.rDivmod, ↓DL.rListF, ↓DL.rListM, ↓DL.rTuple, ↓DL.rAll, ↓DL.rAny, ↓DL.rSum, ↓DL.rMaxL, ↓DL.rMinL, ↓DL.rIsi, ↓DL.rRepr, ↓DL.rSetD, ↓DL.itemsD, ↓DL.lstD, DL.slots, DL.dWipe, DL.rs_non, DL.rs_bl, DL.rs_i, DL.rs_s, DL.rs_ty, DL.rs_t, DL.rs_l, DL.rs_k, DL.rs_d, DL.rs_in, DL.rs_c, DL.rs_upl, DL.rs_upd, DL.rs_upi, DL.okQ, DL.isS, DL.okN_int, DL.okN_bl, DL.okN_non, DL.deq_ii, DL.okN_ii, DL.deq_int, DL.deq_bl, DL.deq_str, DL.tysB_bool, DL.tysB_int, DL.tysB_str, DL.tysB_tuple, DL.tysB_list, DL.tysB_dict, DL.isT_NoneType_bool, DL.isT_NoneType_int, DL.isT_NoneType_str, DL.isT_NoneType_tuple, DL.isT_NoneType_list, DL.isT_NoneType_dict, DL.isT_bool_bool, DL.isT_bool_int, DL.isT_bool_str, DL.isT_bool_tuple, DL.isT_bool_list, DL.isT_bool_dict, DL.isT_int_bool, DL.isT_int_int, DL.isT_int_str, DL.isT_int_tuple, DL.isT_int_list, DL.isT_int_dict, DL.isT_str_bool, DL.isT_str_int, DL.isT_str_str, DL.isT_str_tuple, DL.isT_str_list, DL.isT_str_dict, DL.isT_tuple_bool, DL.isT_tuple_int, DL.isT_tuple_str, DL.isT_tuple_tuple, DL.isT_tuple_list, DL.isT_tuple_dict, DL.isT_list_bool, DL.isT_list_int, DL.isT_list_str, DL.isT_list_tuple, DL.isT_list_list, DL.isT_list_dict, DL.isT_dict_bool, DL.isT_dict_int, DL.isT_dict_str, DL.isT_dict_tuple, DL.isT_dict_list, DL.isT_dict_dict, true_and, and_true, eq_self, Bool.or_true, Bool.true_or, Bool.or_false, Bool.false_or, Bool.and_true, Bool.true_and, Bool.and_false, Bool.false_and, Bool.false_eq_true, ↓reduceIte, decide_true, decide_false, DL.tyD, DL.kyD, DL.atD, DL.atI_0, DL.atI_1, DL.atI_2, DL.atI_3, DL.atI_4, DL.atI_5, DL.atI_6, DL.atI_7, DL.atI_8, DL.atI_9, DL.atI_10, DL.atI_11, DL.atI_12, DL.ixN_0, DL.ixN_1, DL.upG_same, DL.upG_upG, List.getElem?_cons_zero, List.getElem?_cons_succ, List.cons_append, List.nil_append, Nat.add_one_sub_one, Nat.reduceAdd, Nat.reduceSub, List.length_cons, List.length_nil, decide_eq_true_eq, Bool.not_true, Bool.not_false, List.replicate_succ, List.replicate_zero, List.set_cons_zero, List.set_cons_succ, List.map_cons, List.map_nil])
              refine ⟨a, b, rfl, ?_⟩
              simp -dsimp only [↓DL.thn_nx, ↓DL.thn_rt, ↓DL.thn_ex, ↓DL.thn_bk, ↓DL.thn_ct, ↓DL.trn_nx, ↓DL.trn_rt, ↓DL.trn_ex, ↓DL.trn_bk, ↓DL.trn_ct, DL.Br_true, DL.Br_false, ↓DL.dSeq, ↓DL.dNext, ↓DL.dPass, ↓DL.dBrk, ↓DL.dCnt, ↓DL.dDrop, ↓DL.dRet, ↓DL.dRetN, ↓DL.dIfS, ↓DL.gdName, ↓DL.gdNil, ↓DL.gdCons, ↓DL.gdTup, ↓DL.gdSub, ↓DL.dAsg, ↓DL.dPar, ↓DL.dVar, ↓DL.dC, ↓DL.dUn, ↓DL.dBin, ↓DL.dTest, ↓DL.dNot, ↓DL.dAnd, ↓DL.dOr, ↓DL.dVal, ↓DL.dAndV, ↓DL.dOrV, ↓DL.dNotV, ↓DL.dIf, ↓DL.dNil, ↓DL.dCons, ↓DL.dChain, ↓DL.dTup, ↓DL.dLst, ↓DL.dLstM, ↓DL.dCB, ↓DL.dFor, ↓DL.dLc, ↓DL.dLcM, ↓DL.lcLoop, ↓DL.dYes, ↓DL.diVal, ↓DL.diRng1, ↓DL.diRng2, ↓DL.diEnum, ↓DL.diZip, ↓DL.walkD, ↓DL.dCall, ↓DL.dSl, ↓DL.dDct0, ↓DL.dDctM0, ↓DL.rII, ↓DL.rLt, ↓DL.rLe, ↓DL.rGt, ↓DL.rGe, ↓DL.rSub, ↓DL.rMul, ↓DL.rDivP, ↓DL.rDiv, ↓DL.rModP, ↓DL.rPow, ↓DL.rNeg, ↓DL.rAdd, ↓DL.rEq, ↓DL.rNe, ↓DL.rIsN, ↓DL.rNotN, ↓DL.isN, ↓DL.cmp, ↓DL.rIn, ↓DL.rNotIn, ↓DL.rInB, ↓DL.rIx, ↓DL.rSl, ↓DL.rLen, ↓DL.rAbs, ↓DL.rMax2, ↓DL.rMin2, ↓DL.rInt1, ↓DL.rStr1, ↓DL.rDivmod, ↓DL.rListF, ↓DL.rListM, ↓DL.rTuple, ↓DL.rAll, ↓DL.rAny, ↓DL.rSum, ↓DL.rMaxL, ↓DL.rMinL, ↓DL.rIsi, ↓DL.rRepr, ↓DL.rSetD, ↓DL.itemsD, ↓DL.lstD, DL.slots, DL.dWipe, DL.rs_non, DL.rs_bl, DL.rs_i, DL.rs_s, DL.rs_ty, DL.rs_t, DL.rs_l, DL.rs_k, DL.rs_d, DL.rs_in, DL.rs_c, DL.rs_upl, DL.rs_upd, DL.rs_upi, DL.okQ, DL.isS, DL.okN_int, DL.okN_bl, DL.okN_non, DL.deq_ii, DL.okN_ii, DL.deq_int, DL.deq_bl, DL.deq_str, DL.tysB_bool, DL.tysB_int, DL.tysB_str, DL.tysB_tuple, DL.tysB_list, DL.tysB_dict, DL.isT_NoneType_bool, DL.isT_NoneType_int, DL.isT_NoneType_str, DL.isT_NoneType_tuple, DL.isT_NoneType_list, DL.isT_NoneType_dict, DL.isT_bool_bool, DL.isT_bool_int, DL.isT_bool_str, DL.isT_bool_tuple, DL.isT_bool_list, DL.isT_bool_dict, DL.isT_int_bool, DL.isT_int_int, DL.isT_int_str, DL.isT_int_tuple, DL.isT_int_list, DL.isT_int_dict, DL.isT_str_bool, DL.isT_str_int, DL.isT_str_str, DL.isT_str_tuple, DL.isT_str_list, DL.isT_str_dict, DL.isT_tuple_bool, DL.isT_tuple_int, DL.isT_tuple_str, DL.isT_tuple_tuple, DL.isT_tuple_list, DL.isT_tuple_dict, DL.isT_list_bool, DL.isT_list_int, DL.isT_list_str, DL.isT_list_tuple, DL.isT_list_list, DL.isT_list_dict, DL.isT_dict_bool, DL.isT_dict_int, DL.isT_dict_str, DL.isT_dict_tuple, DL.isT_dict_list, DL.isT_dict_dict, true_and, and_true, eq_self, Bool.or_true, Bool.true_or, Bool.or_false, Bool.false_or, Bool.and_true, Bool.true_and, Bool.and_false, Bool.false_and, Bool.false_eq_true, ↓reduceIte, decide_true, decide_false, DL.tyD, DL.kyD, DL.atD, DL.atI_0, DL.atI_1, DL.atI_2, DL.atI_3, DL.atI_4, DL.atI_5, DL.atI_6, DL.atI_7, DL.atI_8, DL.atI_9, DL.atI_10, DL.atI_11, DL.atI_12, DL.ixN_0, DL.ixN_1, DL.upG_same, DL.upG_upG, List.getElem?_cons_zero, List.getElem?_cons_succ, List.cons_append, List.nil_append, Nat.add_one_sub_one, Nat.reduceAdd, Nat.reduceSub, List.length_cons, List.length_nil, decide_eq_true_eq, Bool.not_true, Bool.not_false, List.replicate_succ, List.replicate_zero, List.set_cons_zero, List.set_cons_succ, List.map_cons, List.map_nil]
              have e : isF (.tup [.int a, .int b]) = decide (gI a b = 1) := by
                show (decide (b > 0) && decide (gI a b = 1)) = _
                rw [decide_eq_true hb, Bool.true_and]
              rw [e] at h
              exact be_rt h
            · (refine br_neg hb ?_; try simp -dsimp only [↓DL.thn_nx, ↓DL.thn_rt, ↓DL.thn_ex, ↓DL.thn_bk, ↓DL.thn_ct, ↓DL.trn_nx, ↓DL.trn_rt, ↓DL.trn_ex, ↓DL.trn_bk, ↓DL.trn_ct, DL.Br_true, DL.Br_false, ↓DL.dSeq, ↓DL.dNext, ↓DL.dPass, ↓DL.dBrk, ↓DL.dCnt, ↓DL.dDrop, ↓DL.dRet, ↓DL.dRetN, ↓DL.dIfS, ↓DL.gdName, ↓DL.gdNil, ↓DL.gdCons, ↓DL.gdTup, ↓DL.gdSub, ↓DL.dAsg, ↓DL.dPar, ↓DL.dVar, ↓DL.dC, ↓DL.dUn, ↓DL.dBin, ↓DL.dTest, ↓DL.dNot, ↓DL.dAnd, ↓DL.dOr, ↓DL.dVal, ↓DL.dAndV, ↓DL.dOrV, ↓DL.dNotV, ↓DL.dIf, ↓DL.dNil, ↓DL.dCons, ↓DL.dChain, ↓DL.dTup, ↓DL.dLst, ↓DL.dLstM, ↓DL.dCB, ↓DL.dFor, ↓DL.dLc, ↓DL.dLcM, ↓DL.lcLoop, ↓DL.dYes, ↓DL.diVal, ↓DL.diRng1, ↓DL.diRng2, ↓DL.diEnum, ↓DL.diZip, ↓DL.walkD, ↓DL.dCall, ↓DL.dSl, ↓DL.dDct0, ↓DL.dDctM0, ↓DL.rII, ↓DL.rLt, ↓DL.rLe, ↓DL.rGt, ↓DL.rGe, ↓DL.rSub, ↓DL.rMul, ↓DL.rDivP, ↓DL.rDiv, ↓DL.rModP, ↓DL.rPow, ↓DL.rNeg, ↓DL.rAdd, ↓DL.rEq, ↓DL.rNe, ↓DL.rIsN, ↓DL.rNotN, ↓DL.isN, ↓DL.cmp, ↓DL.rIn, ↓DL.rNotIn, ↓DL.rInB, ↓DL.rIx, ↓DL.rSl, ↓DL.rLen, ↓DL.rAbs, ↓DL.rMax2, ↓DL.rMin2, ↓DL.rInt1, ↓DL.rStr1, ↓DL.rDivmod, ↓DL.rListF, ↓DL.rListM, ↓DL.rTuple, ↓DL.rAll, ↓DL.rAny, ↓DL.rSum, ↓DL.rMaxL, ↓DL.rMinL, ↓DL.rIsi, ↓DL.rRepr, ↓DL.rSetD, ↓DL.itemsD, ↓DL.lstD, DL.slots, DL.dWipe, DL.rs_non, DL.rs_bl, DL.rs_i, DL.rs_s, DL.rs_ty, DL.rs_t, DL.rs_l, DL.rs_k, DL.rs_d, DL.rs_in, DL.rs_c, DL.rs_upl, DL.rs_upd, DL.rs_upi, DL.okQ, DL.isS, DL.okN_int, DL.okN_bl, DL.okN_non, DL.deq_ii, DL.okN_ii, DL.deq_int, DL.deq_bl, DL.deq_str, DL.tysB_bool, DL.tysB_int, DL.tysB_str, DL.tysB_tuple, DL.tysB_list, DL.tysB_dict, DL.isT_NoneType_bool, DL.isT_NoneType_int, DL.isT_NoneType_str, DL.isT_NoneType_tuple, DL.isT_NoneType_list, DL.isT_NoneType_dict, DL.isT_bool_bool, DL.isT_bool_int, DL.isT_bool_str, DL.isT_bool_tuple, DL.isT_bool_list, DL.isT_bool_dict, DL.isT_int_bool, DL.isT_int_int, DL.isT_int_str, DL.isT_int_tuple, DL.isT_int_list, DL.isT_int_dict, DL.isT_str_bool, DL.isT_str_int, DL.isT_str_str, DL.isT_str_tuple, DL.isT_str_list, DL.isT_str_dict, DL.isT_tuple_bool, DL.isT_tuple_int, DL.isT_tuple_str, DL.isT_tuple_tuple, DL.isT_tuple_list, DL.isT_tuple_dict, DL.isT_list_bool, DL.isT_list_int, DL.isT_list_str, DL.isT_list_tuple, DL.isT_list_list, DL.isT_list_dict, DL.isT_dict_bool, DL.isT_dict_int, DL.isT_dict_str, DL.isT_dict_tuple, DL.isT_dict_list, DL.isT_dict_dict, true_and, and_true, eq_self, Bool.or_true, Bool.true_or, Bool.or_false, Bool.false_or, Bool.and_true, Bool.true_and, Bool.and_false, Bool.false_and, Bool.false_eq_true, ↓reduceIte, decide_true, decide_false, DL.tyD, DL.kyD, DL.atD, DL.atI_0, DL.atI_1, DL.atI_2, DL.atI_3, DL.atI_4, DL.atI_5, DL.atI_6, DL.atI_7, DL.atI_8, DL.atI_9, DL.atI_10, DL.atI_11, DL.atI_12, DL.ixN_0, DL.ixN_1, DL.upG_same, DL.upG_upG, List.getElem?_cons_zero, List.getElem?_cons_succ, List.cons_append, List.nil_append, Nat.add_one_sub_one, Nat.reduceAdd, Nat.reduceSub, List.length_cons, List.length_nil, decide_eq_true_eq, Bool.not_true, Bool.not_false, List.replicate_succ, List.replicate_zero, List.set_cons_zero, List.set_cons_succ, List.map_cons, List.map_nil])
              have e : isF (.tup [.int a, .int b]) = false := by
                show (decide (b > 0) && decide (gI a b = 1)) = _
                rw [decide_eq_false hb, Bool.false_and]
              rw [e] at h
              exact be_rt h
          | _ =>
            simp -dsimp only [↓DL.thn_nx, ↓DL.thn_rt, ↓DL.thn_ex, ↓DL.thn_bk, ↓DL.thn_ct, ↓DL.trn_nx, ↓DL.trn_rt, ↓DL.trn_ex, ↓DL.trn_bk, ↓DL.trn_ct, DL.Br_true, DL.Br_false, ↓DL.dSeq, ↓DL.dNext, ↓DL.dPass, ↓DL.dBrk, ↓DL.dCnt, ↓DL.dDrop, ↓DL.dRet, ↓DL.dRetN, ↓DL.dIfS, ↓DL.gdName, ↓DL.gdNil, ↓DL.gdCons, ↓DL.gdTup, ↓DL.gdSub, ↓DL.dAsg, ↓DL.dPar, ↓DL.dVar, ↓DL.dC, ↓DL.dUn, ↓DL.dBin, ↓DL.dTest, ↓DL.dNot, ↓DL.dAnd, ↓DL.dOr, ↓DL.dVal, ↓DL.dAndV, ↓DL.dOrV, ↓DL.dNotV, ↓DL.dIf, ↓DL.dNil, ↓DL.dCons, ↓DL.dChain, ↓DL.dTup, ↓DL.dLst, ↓DL.dLstM, ↓DL.dCB, ↓DL.dFor, ↓DL.dLc, ↓DL.dLcM, ↓DL.lcLoop, ↓DL.dYes, ↓DL.diVal, ↓DL.diRng1, ↓DL.diRng2, ↓DL.diEnum, ↓DL.diZip, ↓DL.walkD, ↓DL.dCall, ↓DL.dSl, ↓DL.dDct0, ↓DL.dDctM0, ↓DL.rII, ↓DL.rLt, ↓DL.rLe, ↓DL.rGt, ↓DL.rGe, ↓DL.rSub, ↓DL.rMul, ↓DL.rDivP, ↓DL.rDiv, ↓DL.rModP, ↓DL.rPow, ↓DL.rNeg, ↓DL.rAdd, ↓DL.rEq, ↓DL.rNe, ↓DL.rIsN, ↓DL.rNotN, ↓DL.isN, ↓DL.cmp, ↓DL.rIn, ↓DL.rNotIn, ↓DL.rInB, ↓DL.rIx, ↓DL.rSl, ↓DL.rLen, ↓DL.rAbs, ↓DL.rMax2, ↓DL.rMin2, ↓DL.rInt1, ↓DL.rStr1, ↓DL.rDivmod, ↓DL.rListF, ↓DL.rListM, ↓DL.rTuple, ↓DL.rAll, ↓DL.rAny, ↓DL.rSum, ↓DL.rMaxL, ↓DL.rMinL, ↓DL.rIsi, ↓DL.rRepr, ↓DL.rSetD, ↓DL.itemsD, ↓DL.lstD, DL.slots, DL.dWipe, DL.rs_non, DL.rs_bl, DL.rs_i, DL.rs_s, DL.rs_ty, DL.rs_t, DL.rs_l, DL.rs_k, DL.rs_d, DL.rs_in, DL.rs_c, DL.rs_upl, DL.rs_upd, DL.rs_upi, DL.okQ, DL.isS, DL.okN_int, DL.okN_bl, DL.okN_non, DL.deq_ii, DL.okN_ii, DL.deq_int, DL.deq_bl, DL.deq_str, DL.tysB_bool, DL.tysB_int, DL.tysB_str, DL.tysB_tuple, DL.tysB_list, DL.tysB_dict, DL.isT_NoneType_bool, DL.isT_NoneType_int, DL.isT_NoneType_str, DL.isT_NoneType_tuple, DL.isT_NoneType_list, DL.isT_NoneType_dict, DL.isT_bool_bool, DL.isT_bool_int, DL.isT_bool_str, DL.isT_bool_tuple, DL.isT_bool_list, DL.isT_bool_dict, DL.isT_int_bool, DL.isT_int_int, DL.isT_int_str, DL.isT_int_tuple, DL.isT_int_list, DL.isT_int_dict, DL.isT_str_bool, DL.isT_str_int, DL.isT_str_str, DL.isT_str_tuple, DL.isT_str_list, DL.isT_str_dict, DL.isT_tuple_bool, DL.isT_tuple_int, DL.isT_tuple_str, DL.isT_tuple_tuple, DL.isT_tuple_list, DL.isT_tuple_dict, DL.isT_list_bool, DL.isT_list_int, DL.isT_list_str, DL.isT_list_tuple, DL.isT_list_list, DL.isT_list_dict, DL.isT_dict_bool, DL.isT_dict_int, DL.isT_dict_str, DL.isT_dict_tuple, DL.isT_dict_list, DL.isT_dict_dict, true_and, and_true, eq_self, Bool.or_true, Bool.true_or, Bool.or_false, Bool.false_or, Bool.and_true, Bool.true_and, Bool.and_false, Bool.false_and, Bool.false_eq_true, ↓reduceIte, decide_true, decide_false, DL.tyD, DL.kyD, DL.atD, DL.atI_0, DL.atI_1, DL.atI_2, DL.atI_3, DL.atI_4, DL.atI_5, DL.atI_6, DL.atI_7, DL.atI_8, DL.atI_9, DL.atI_10, DL.atI_11, DL.atI_12, DL.ixN_0, DL.ixN_1, DL.upG_same, DL.upG_upG, List.getElem?_cons_zero, List.getElem?_cons_succ, List.cons_append, List.nil_append, Nat.add_one_sub_one, Nat.reduceAdd, Nat.reduceSub, List.length_cons, List.length_nil, decide_eq_true_eq, Bool.not_true, Bool.not_false, List.replicate_succ, List.replicate_zero, List.set_cons_zero, List.set_cons_succ, List.map_cons, List.map_nil, isI, List.all_cons, List.all_nil, id]
            exact be_rt h
        | _ =>
          simp -dsimp only [↓DL.thn_nx, ↓DL.thn_rt, ↓DL.thn_ex, ↓DL.thn_bk, ↓DL.thn_ct, ↓DL.trn_nx, ↓DL.trn_rt, ↓DL.trn_ex, ↓DL.trn_bk, ↓DL.trn_ct, DL.Br_true, DL.Br_false, ↓DL.dSeq, ↓DL.dNext, ↓DL.dPass, ↓DL.dBrk, ↓DL.dCnt, ↓DL.dDrop, ↓DL.dRet, ↓DL.dRetN, ↓DL.dIfS, ↓DL.gdName, ↓DL.gdNil, ↓DL.gdCons, ↓DL.gdTup, ↓DL.gdSub, ↓DL.dAsg, ↓DL.dPar, ↓DL.dVar, ↓DL.dC, ↓DL.dUn, ↓DL.dBin, ↓DL.dTest, ↓DL.dNot, ↓DL.dAnd, ↓DL.dOr, ↓DL.dVal, ↓DL.dAndV, ↓DL.dOrV, ↓DL.dNotV, ↓DL.dIf, ↓DL.dNil, ↓DL.dCons, ↓DL.dChain, ↓DL.dTup, ↓DL.dLst, ↓DL.dLstM, ↓DL.dCB, ↓DL.dFor, ↓DL.dLc, ↓DL.dLcM, ↓DL.lcLoop, ↓DL.dYes, ↓DL.diVal, ↓DL.diRng1, ↓DL.diRng2, ↓DL.diEnum, ↓DL.diZip, ↓DL.walkD, ↓DL.dCall, ↓DL.dSl, ↓DL.dDct0, ↓DL.dDctM0, ↓DL.rII, ↓DL.rLt, ↓DL.rLe, ↓DL.rGt, ↓DL.rGe, ↓DL.rSub, ↓DL.rMul, ↓DL.rDivP, ↓DL.rDiv, ↓DL.rModP, ↓DL.rPow, ↓DL.rNeg, ↓DL.rAdd, ↓DL.rEq, ↓DL.rNe, ↓DL.rIsN, ↓DL.rNotN, ↓DL.isN, ↓DL.cmp, ↓DL.rIn, ↓DL.rNotIn, ↓DL.rInB, ↓DL.rIx, ↓DL.rSl, ↓DL.rLen, ↓DL.rAbs, ↓DL.rMax2, ↓DL.rMin2, ↓DL.rInt1, ↓DL.rStr1, ↓DL.rDivmod, ↓DL.rListF, ↓DL.rListM, ↓DL.rTuple, ↓DL.rAll, ↓DL.rAny, ↓DL.rSum, ↓DL.rMaxL, ↓DL.rMinL, ↓DL.rIsi, ↓DL.rRepr, ↓DL.rSetD, ↓DL.itemsD, ↓DL.lstD, DL.slots, DL.dWipe, DL.rs_non, DL.rs_bl, DL.rs_i, DL.rs_s, DL.rs_ty, DL.rs_t, DL.rs_l, DL.rs_k, DL.rs_d, DL.rs_in, DL.rs_c, DL.rs_upl, DL.rs_upd, DL.rs_upi, DL.okQ, DL.isS, DL.okN_int, DL.okN_bl, DL.okN_non, DL.deq_ii, DL.okN_ii, DL.deq_int, DL.deq_bl, DL.deq_str, DL.tysB_bool, DL.tysB_int, DL.tysB_str, DL.tysB_tuple, DL.tysB_list, DL.tysB_dict, DL.isT_NoneType_bool, DL.isT_NoneType_int, DL.isT_NoneType_str, DL.isT_NoneType_tuple, DL.isT_NoneType_list, DL.isT_NoneType_dict, DL.isT_bool_bool, DL.isT_bool_int, DL.isT_bool_str, DL.isT_bool_tuple, DL.isT_bool_list, DL.isT_bool_dict, DL.isT_int_bool, DL.isT_int_int, DL.isT_int_str, DL.isT_int_tuple, DL.isT_int_list, DL.isT_int_dict, DL.isT_str_bool, DL.isT_str_int, DL.isT_str_str, DL.isT_str_tuple, DL.isT_str_list, DL.isT_str_dict, DL.isT_tuple_bool, DL.isT_tuple_int, DL.isT_tuple_str, DL.isT_tuple_tuple, DL.isT_tuple_list, DL.isT_tuple_dict, DL.isT_list_bool, DL.isT_list_int, DL.isT_list_str, DL.isT_list_tuple, DL.isT_list_list, DL.isT_list_dict, DL.isT_dict_bool, DL.isT_dict_int, DL.isT_dict_str, DL.isT_dict_tuple, DL.isT_dict_list, DL.isT_dict_dict, true_and, and_true, eq_self, Bool.or_true, Bool.true_or, Bool.or_false, Bool.false_or, Bool.and_true, Bool.true_and, Bool.and_false, Bool.false_and, Bool.false_eq_true, ↓reduceIte, decide_true, decide_false, DL.tyD, DL.kyD, DL.atD, DL.atI_0, DL.atI_1, DL.atI_2, DL.atI_3, DL.atI_4, DL.atI_5, DL.atI_6, DL.atI_7, DL.atI_8, DL.atI_9, DL.atI_10, DL.atI_11, DL.atI_12, DL.ixN_0, DL.ixN_1, DL.upG_same, DL.upG_upG, List.getElem?_cons_zero, List.getElem?_cons_succ, List.cons_append, List.nil_append, Nat.add_one_sub_one, Nat.reduceAdd, Nat.reduceSub, List.length_cons, List.length_nil, decide_eq_true_eq, Bool.not_true, Bool.not_false, List.replicate_succ, List.replicate_zero, List.set_cons_zero, List.set_cons_succ, List.map_cons, List.map_nil, isI, List.all_cons, List.all_nil, id]
          exact be_rt h
    · (refine br_nneg h2 ?_; try simp -dsimp only [↓DL.thn_nx, ↓DL.thn_rt, ↓DL.thn_ex, ↓DL.thn_bk, ↓DL.thn_ct, ↓DL.trn_nx, ↓DL.trn_rt, ↓DL.trn_ex, ↓DL.trn_bk, ↓DL.trn_ct, DL.Br_true, DL.Br_false, ↓DL.dSeq, ↓DL.dNext, ↓DL.dPass, ↓DL.dBrk, ↓DL.dCnt, ↓DL.dDrop, ↓DL.dRet, ↓DL.dRetN, ↓DL.dIfS, ↓DL.gdName, ↓DL.gdNil, ↓DL.gdCons, ↓DL.gdTup, ↓DL.gdSub, ↓DL.dAsg, ↓DL.dPar, ↓DL.dVar, ↓DL.dC, ↓DL.dUn, ↓DL.dBin, ↓DL.dTest, ↓DL.dNot, ↓DL.dAnd, ↓DL.dOr, ↓DL.dVal, ↓DL.dAndV, ↓DL.dOrV, ↓DL.dNotV, ↓DL.dIf, ↓DL.dNil, ↓DL.dCons, ↓DL.dChain, ↓DL.dTup, ↓DL.dLst, ↓DL.dLstM, ↓DL.dCB, ↓DL.dFor, ↓DL.dLc, ↓DL.dLcM, ↓DL.lcLoop, ↓DL.dYes, ↓DL.diVal, ↓DL.diRng1, ↓DL.diRng2, ↓DL.diEnum, ↓DL.diZip, ↓DL.walkD, ↓DL.dCall, ↓DL.dSl, ↓DL.dDct0, ↓DL.dDctM0, ↓DL.rII, ↓DL.rLt, ↓DL.rLe, ↓DL.rGt, ↓DL.rGe, ↓DL.rSub, ↓DL.rMul, ↓DL.rDivP, ↓DL.rDiv, ↓DL.rModP, ↓DL.rPow, ↓DL.rNeg, ↓DL.rAdd, ↓DL.rEq, ↓DL.rNe, ↓DL.rIsN, ↓DL.rNotN, ↓DL.isN, ↓DL.cmp, ↓DL.rIn, ↓DL.rNotIn, ↓DL.rInB, ↓DL.rIx, ↓DL.rSl, ↓DL.rLen, ↓DL.rAbs, ↓DL.rMax2, ↓DL.rMin2, ↓DL.rInt1, ↓DL.rStr1, ↓DL.rDivmod, ↓DL.rListF, ↓DL.rListM, ↓DL.rTuple, ↓DL.rAll, ↓DL.rAny, ↓DL.rSum, ↓DL.rMaxL, ↓DL.rMinL, ↓DL.rIsi, ↓DL.rRepr, ↓DL.rSetD, ↓DL.itemsD, ↓DL.lstD, DL.slots, DL.dWipe, DL.rs_non, DL.rs_bl, DL.rs_i, DL.rs_s, DL.rs_ty, DL.rs_t, DL.rs_l, DL.rs_k, DL.rs_d, DL.rs_in, DL.rs_c, DL.rs_upl, DL.rs_upd, DL.rs_upi, DL.okQ, DL.isS, DL.okN_int, DL.okN_bl, DL.okN_non, DL.deq_ii, DL.okN_ii, DL.deq_int, DL.deq_bl, DL.deq_str, DL.tysB_bool, DL.tysB_int, DL.tysB_str, DL.tysB_tuple, DL.tysB_list, DL.tysB_dict, DL.isT_NoneType_bool, DL.isT_NoneType_int, DL.isT_NoneType_str, DL.isT_NoneType_tuple, DL.isT_NoneType_list, DL.isT_NoneType_dict, DL.isT_bool_bool, DL.isT_bool_int, DL.isT_bool_str, DL.isT_bool_tuple, DL.isT_bool_list, DL.isT_bool_dict, DL.isT_int_bool, DL.isT_int_int, DL.isT_int_str, DL.isT_int_tuple, DL.isT_int_list, DL.isT_int_dict, DL.isT_str_bool, DL.isT_str_int, DL.isT_str_str, DL.isT_str_tuple, DL.isT_str_list, DL.isT_str_dict, DL.isT_tuple_bool, DL.isT_tuple_int, DL.isT_tuple_str, DL.isT_tuple_tuple, DL.isT_tuple_list, DL.isT_tuple_dict, DL.isT_list_bool, DL.isT_list_int, DL.isT_list_str, DL.isT_list_tuple, DL.isT_list_list, DL.isT_list_dict, DL.isT_dict_bool, DL.isT_dict_int, DL.isT_dict_str, DL.isT_dict_tuple, DL.isT_dict_list, DL.isT_dict_dict, true_and, and_true, eq_self, Bool.or_true, Bool.true_or, Bool.or_false, Bool.false_or, Bool.and_true, Bool.true_and, Bool.and_false, Bool.false_and, Bool.false_eq_true, ↓reduceIte, decide_true, decide_false, DL.tyD, DL.kyD, DL.atD, DL.atI_0, DL.atI_1, DL.atI_2, DL.atI_3, DL.atI_4, DL.atI_5, DL.atI_6, DL.atI_7, DL.atI_8, DL.atI_9, DL.atI_10, DL.atI_11, DL.atI_12, DL.ixN_0, DL.ixN_1, DL.upG_same, DL.upG_upG, List.getElem?_cons_zero, List.getElem?_cons_succ, List.cons_append, List.nil_append, Nat.add_one_sub_one, Nat.reduceAdd, Nat.reduceSub, List.length_cons, List.length_nil, decide_eq_true_eq, Bool.not_true, Bool.not_false, List.replicate_succ, List.replicate_zero, List.set_cons_zero, List.set_cons_succ, List.map_cons, List.map_nil])
      refine be_rt ?_
      have e : isF (.tup xs) = false := by
        unfold isF
        split
        · rename_i a b e
          cases e
          exact absurd rfl h2
        · rfl
      rw [← e]; exact h
  | _ =>
    simp -dsimp only [↓DL.thn_nx, ↓DL.thn_rt, ↓DL.thn_ex, ↓DL.thn_bk, ↓DL.thn_ct, ↓DL.trn_nx, ↓DL.trn_rt, ↓DL.trn_ex, ↓DL.trn_bk, ↓DL.trn_ct, DL.Br_true, DL.Br_false, ↓DL.dSeq, ↓DL.dNext, ↓DL.dPass, ↓DL.dBrk, ↓DL.dCnt, ↓DL.dDrop, ↓DL.dRet, ↓DL.dRetN, ↓DL.dIfS, ↓DL.gdName, ↓DL.gdNil, ↓DL.gdCons, ↓DL.gdTup, ↓DL.gdSub, ↓DL.dAsg, ↓DL.dPar, ↓DL.dVar, ↓DL.dC, ↓DL.dUn, ↓DL.dBin, ↓DL.dTest, ↓DL.dNot, ↓DL.dAnd, ↓DL.dOr, ↓DL.dVal, ↓DL.dAndV, ↓DL.dOrV, ↓DL.dNotV, ↓DL.dIf, ↓DL.dNil, ↓DL.dCons, ↓DL.dChain, ↓DL.dTup, ↓DL.dLst, ↓DL.dLstM, ↓DL.dCB, ↓DL.dFor, ↓DL.dLc, ↓DL.dLcM, ↓DL.lcLoop, ↓DL.dYes, ↓DL.diVal, ↓DL.diRng1, ↓DL.diRng2, ↓DL.diEnum, ↓DL.diZip, ↓DL.walkD, ↓DL.dCall, ↓DL.dSl, ↓DL.dDct0, ↓DL.dDctM0, ↓DL.rII, ↓DL.rLt, ↓DL.rLe, ↓DL.rGt, ↓DL.rGe, ↓DL.rSub, ↓DL.rMul, ↓DL.rDivP, ↓DL.rDiv, ↓DL.rModP, ↓DL.rPow, ↓DL.rNeg, ↓DL.rAdd, ↓DL.rEq, ↓DL.rNe, ↓DL.rIsN, ↓DL.rNotN, ↓DL.isN, ↓DL.cmp, ↓DL.rIn, ↓DL.rNotIn, ↓DL.rInB, ↓DL.rIx, ↓DL.rSl, ↓DL.rLen, ↓DL.rAbs, ↓DL.rMax2, ↓DL.rMin2, ↓DL.rInt1, ↓DL.rStr1, ↓DL.rDivmod, ↓DL.rListF, ↓DL.rListM, ↓DL.rTuple, ↓DL.rAll, ↓DL.rAny, ↓DL.rSum, ↓DL.rMaxL, ↓DL.rMinL, ↓DL.rIsi, ↓DL.rRepr, ↓DL.rSetD, ↓DL.itemsD, ↓DL.lstD, DL.slots, DL.dWipe, DL.rs_non, DL.rs_bl, DL.rs_i, DL.rs_s, DL.rs_ty, DL.rs_t, DL.rs_l, DL.rs_k, DL.rs_d, DL.rs_in, DL.rs_c, DL.rs_upl, DL.rs_upd, DL.rs_upi, DL.okQ, DL.isS, DL.okN_int, DL.okN_bl, DL.okN_non, DL.deq_ii, DL.okN_ii, DL.deq_int, DL.deq_bl, DL.deq_str, DL.tysB_bool, DL.tysB_int, DL.tysB_str, DL.tysB_tuple, DL.tysB_list, DL.tysB_dict, DL.isT_NoneType_bool, DL.isT_NoneType_int, DL.isT_NoneType_str, DL.isT_NoneType_tuple, DL.isT_NoneType_list, DL.isT_NoneType_dict, DL.isT_bool_bool, DL.isT_bool_int, DL.isT_bool_str, DL.isT_bool_tuple, DL.isT_bool_list, DL.isT_bool_dict, DL.isT_int_bool, DL.isT_int_int, DL.isT_int_str, DL.isT_int_tuple, DL.isT_int_list, DL.isT_int_dict, DL.isT_str_bool, DL.isT_str_int, DL.isT_str_str, DL.isT_str_tuple, DL.isT_str_list, DL.isT_str_dict, DL.isT_tuple_bool, DL.isT_tuple_int, DL.isT_tuple_str, DL.isT_tuple_tuple, DL.isT_tuple_list, DL.isT_tuple_dict, DL.isT_list_bool, DL.isT_list_int, DL.isT_list_str, DL.isT_list_tuple, DL.isT_list_list, DL.isT_list_dict, DL.isT_dict_bool, DL.isT_dict_int, DL.isT_dict_str, DL.isT_dict_tuple, DL.isT_dict_list, DL.isT_dict_dict, true_and, and_true, eq_self, Bool.or_true, Bool.true_or, Bool.or_false, Bool.false_or, Bool.and_true, Bool.true_and, Bool.and_false, Bool.false_and, Bool.false_eq_true, ↓reduceIte, decide_true, decide_false, DL.tyD, DL.kyD, DL.atD, DL.atI_0, DL.atI_1, DL.atI_2, DL.atI_3, DL.atI_4, DL.atI_5, DL.atI_6, DL.atI_7, DL.atI_8, DL.atI_9, DL.atI_10, DL.atI_11, DL.atI_12, DL.ixN_0, DL.ixN_1, DL.upG_same, DL.upG_upG, List.getElem?_cons_zero, List.getElem?_cons_succ, List.cons_append, List.nil_append, Nat.add_one_sub_one, Nat.reduceAdd, Nat.reduceSub, List.length_cons, List.length_nil, decide_eq_true_eq, Bool.not_true, Bool.not_false, List.replicate_succ, List.replicate_zero, List.set_cons_zero, List.set_cons_succ, List.map_cons, List.map_nil]
    exact be_rt h
/-! ### plus, minus, times, is_less -/
def Four (ds : List D) (K : Int → Int → Int → Int → Prop) : Prop := ∃ a b c d : Int, ds = [.tup [.int a, .int b], .tup [.int c, .int d]] ∧ (0 < b ∧ 0 < d) ∧ (Bd 400 a ∧ Bd 400 b ∧ Bd 400 c ∧ Bd 400 d) ∧ K a b c d
def sp_plus : DSp := fun ds G Q _ => Four ds fun a b c d => Q (.tup [.int (fU (a * d + c * b) (b * d)), .int (fL (a * d + c * b) (b * d))]) G
def sp_minus : DSp := fun ds G Q _ => Four ds fun a b c d => Q (.tup [.int (fU (a * d - c * b) (b * d)), .int (fL (a * d - c * b) (b * d))]) G
def sp_times : DSp := fun ds G Q _ => Four ds fun a b c d => Q (.tup [.int (fU (a * c) (b * d)), .int (fL (a * c) (b * d))]) G
def sp_is_less : DSp := fun ds G Q _ => Four ds fun a b c d => Q (.bl (decide (a * d < c * b))) G
theorem pos_mul_ne {b d : Int} (h : 0 < b ∧ 0 < d) : b * d ≠ 0 := by
  have := Int.mul_pos h.1 h.2; omega
theorem mo {a b : Int} (h : Bd 400 a) (k : Bd 400 b) : MulOk a b := h.mulOk k (by decide)
theorem ok_plus : ∀ ds G Q E, sp_plus ds G Q E → rd_plus sp_fraction (bodyEnds Q E) (slots N_plus ds) G := by
  rintro ds G Q E ⟨a, b, c, d, rfl, hp, ⟨ba, bb, bc, bd⟩, h⟩
  rw [sl_plus]
  simp -dsimp only [↓DL.thn_nx, ↓DL.thn_rt, ↓DL.thn_ex, ↓DL.thn_bk, ↓DL.thn_ct, ↓DL.trn_nx, ↓DL.trn_rt, ↓DL.trn_ex, ↓DL.trn_bk, ↓DL.trn_ct, DL.Br_true, DL.Br_false, ↓DL.dSeq, ↓DL.dNext, ↓DL.dPass, ↓DL.dBrk, ↓DL.dCnt, ↓DL.dDrop, ↓DL.dRet, ↓DL.dRetN, ↓DL.dIfS, ↓DL.gdName, ↓DL.gdNil, ↓DL.gdCons, ↓DL.gdTup, ↓DL.gdSub, ↓DL.dAsg, ↓DL.dPar, ↓DL.dVar, ↓DL.dC, ↓DL.dUn, ↓DL.dBin, ↓DL.dTest, ↓DL.dNot, ↓DL.dAnd, ↓DL.dOr, ↓DL.dVal, ↓DL.dAndV, ↓DL.dOrV, ↓DL.dNotV, ↓DL.dIf, ↓DL.dNil, ↓DL.dCons, ↓DL.dChain, ↓DL.dTup, ↓DL.dLst, ↓DL.dLstM, ↓DL.dCB, ↓DL.dFor, ↓DL.dLc, ↓DL.dLcM, ↓DL.lcLoop, ↓DL.dYes, ↓DL.diVal, ↓DL.diRng1, ↓DL.diRng2, ↓DL.diEnum, ↓DL.diZip, ↓DL.walkD, ↓DL.dCall, ↓DL.dSl, ↓DL.dDct0, ↓DL.dDctM0, ↓DL.rII, ↓DL.rLt, ↓DL.rLe, ↓DL.rGt, ↓DL.rGe, ↓DL.rSub, ↓DL.rMul, ↓DL.rDivP, ↓DL.rDiv, ↓DL.rModP, ↓DL.rPow, ↓DL.rNeg, ↓DL.rAdd, ↓DL.rEq, ↓DL.rNe, ↓DL.rIsN, ↓DL.rNotN, ↓DL.isN, ↓DL.cmp, ↓DL.rIn, ↓DL.rNotIn, ↓DL.rInB, ↓DL.rIx, ↓DL.rSl, ↓DL.rLen, ↓DL.rAbs, ↓DL.rMax2, ↓DL.rMin2, ↓DL.rInt1, ↓DL.rStr1, ↓DL.rDivmod, ↓DL.rListF, ↓DL.rListM, ↓DL.rTuple, ↓DL.rAll, ↓DL.rAny, ↓DL.rSum, ↓DL.rMaxL, ↓DL.rMinL, ↓DL.rIsi, ↓DL.rRepr, ↓DL.rSetD, ↓DL.itemsD, ↓DL.lstD, DL.slots, DL.dWipe, DL.rs_non, DL.rs_bl, DL.rs_i, DL.rs_s, DL.rs_ty, DL.rs_t, DL.rs_l, DL.rs_k, DL.rs_d, DL.rs_in, DL.rs_c, DL.rs_upl, DL.rs_upd, DL.rs_upi, DL.okQ, DL.isS, DL.okN_int, DL.okN_bl, DL.okN_non, DL.deq_ii, DL.okN_ii, DL.deq_int, DL.deq_bl, DL.deq_str, DL.tysB_bool, DL.tysB_int, DL.tysB_str, DL.tysB_tuple, DL.tysB_list, DL.tysB_dict, DL.isT_NoneType_bool, DL.isT_NoneType_int, DL.isT_NoneType_str, DL.isT_NoneType_tuple, DL.isT_NoneType_list, DL.isT_NoneType_dict, DL.isT_bool_bool, DL.isT_bool_int, DL.isT_bool_str, DL.isT_bool_tuple, DL.isT_bool_list, DL.isT_bool_dict, DL.isT_int_bool, DL.isT_int_int, DL.isT_int_str, DL.isT_int_tuple, DL.isT_int_list, DL.isT_int_dict, DL.isT_str_bool, DL.isT_str_int, DL.isT_str_str, DL.isT_str_tuple, DL.isT_str_list, DL.isT_str_dict, DL.isT_tuple_bool, DL.isT_tuple_int, DL.isT_tuple_str, DL.isT_tuple_tuple, DL.isT_tuple_list, DL.isT_tuple_dict, DL.isT_list_bool, DL.isT_list_int, DL.isT_list_str, DL.isT_list_tuple, DL.isT_list_list, DL.isT_list_dict, DL.isT_dict_bool, DL.isT_dict_int, DL.isT_dict_str, DL.isT_dict_tuple, DL.isT_dict_list, DL.isT_dict_dict, true_and, and_true, eq_self, Bool.or_true, Bool.true_or, Bool.or_false, Bool.false_or, Bool.and_true, Bool.true_and, Bool.and_false, Bool.false_and, Bool.false_eq_true, ↓reduceIte, decide_true, decide_false, DL.tyD, DL.kyD, DL.atD, DL.atI_0, DL.atI_1, DL.atI_2, DL.atI_3, DL.atI_4, DL.atI_5, DL.atI_6, DL.atI_7, DL.atI_8, DL.atI_9, DL.atI_10, DL.atI_11, DL.atI_12, DL.ixN_0, DL.ixN_1, DL.upG_same, DL.upG_upG, List.getElem?_cons_zero, List.getElem?_cons_succ, List.cons_append, List.nil_append, Nat.add_one_sub_one, Nat.reduceAdd, Nat.reduceSub, List.length_cons, List.length_nil, decide_eq_true_eq, Bool.not_true, Bool.not_false, List.replicate_succ, List.replicate_zero, List.set_cons_zero, List.set_cons_succ, List.map_cons, List.map_nil, rd_plus]
  refine ⟨mo ba bd, mo bc bb, mo bb bd, _, _, rfl, pos_mul_ne hp, (bb.mul bd).mono (by decide), be_rt h⟩
theorem ok_minus : ∀ ds G Q E, sp_minus ds G Q E → rd_minus sp_fraction (bodyEnds Q E) (slots N_minus ds) G := by
  rintro ds G Q E ⟨a, b, c, d, rfl, hp, ⟨ba, bb, bc, bd⟩, h⟩
  rw [sl_minus]
  simp -dsimp only [↓DL.thn_nx, ↓DL.thn_rt, ↓DL.thn_ex, ↓DL.thn_bk, ↓DL.thn_ct, ↓DL.trn_nx, ↓DL.trn_rt, ↓DL.trn_ex, ↓DL.trn_bk, ↓DL.trn_ct, DL.Br_true, DL.Br_false, ↓DL.dSeq, ↓DL.dNext, ↓DL.dPass, ↓DL.dBrk, ↓DL.dCnt, ↓DL.dDrop, ↓DL.dRet, ↓DL.dRetN, ↓DL.dIfS, ↓DL.gdName, ↓DL.gdNil, ↓DL.gdCons, ↓DL.gdTup, ↓DL.gdSub, ↓DL.dAsg, ↓DL.dPar, ↓DL.dVar, ↓DL.dC, ↓DL.dUn, ↓DL.dBin, ↓DL.dTest, ↓DL.dNot, ↓DL.dAnd, ↓DL.dOr, ↓DL.dVal, ↓DL.dAndV, ↓DL.dOrV, ↓DL.dNotV, ↓DL.dIf, ↓DL.dNil, ↓DL.dCons, ↓DL.dChain, ↓DL.dTup, ↓DL.dLst, ↓DL.dLstM, ↓DL.dCB, ↓DL.dFor, ↓DL.dLc, ↓DL.dLcM, ↓DL.lcLoop, ↓DL.dYes, ↓DL.diVal, ↓DL.diRng1, ↓DL.diRng2, ↓DL.diEnum, ↓DL.diZip, ↓DL.walkD, ↓DL.dCall, ↓DL.dSl, ↓DL.dDct0, ↓DL.dDctM0, ↓DL.rII, ↓DL.rLt, ↓DL.rLe, ↓DL.rGt, ↓DL.rGe, ↓DL.rSub, ↓DL.rMul, ↓DL.rDivP, ↓DL.rDiv, ↓DL.rModP, ↓DL.rPow, ↓DL.rNeg, ↓DL.rAdd, ↓DL.rEq, ↓DL.rNe, ↓DL.rIsN, ↓DL.rNotN, ↓DL.isN, ↓DL.cmp, ↓DL.rIn, ↓DL.rNotIn, ↓DL.rInB, ↓DL.rIx, ↓DL.rSl, ↓DL.rLen, ↓DL.rAbs, ↓DL.rMax2, ↓DL.rMin2, ↓DL.rInt1, ↓DL.rStr1, ↓DL.rDivmod, ↓DL.rListF, ↓DL.rListM, ↓DL.rTuple, ↓DL.rAll, ↓DL.rAny, ↓DL.rSum, ↓DL.rMaxL, ↓DL.rMinL, ↓DL.rIsi, ↓DL.rRepr, ↓DL.rSetD, ↓DL.itemsD, ↓DL.lstD, DL.slots, DL.dWipe, DL.rs_non, DL.rs_bl, DL.rs_i, DL.rs_s, DL.rs_ty, DL.rs_t, DL.rs_l, DL.rs_k, DL.rs_d, DL.rs_in, DL.rs_c, DL.rs_upl, DL.rs_upd, DL.rs_upi, DL.okQ, DL.isS, DL.okN_int, DL.okN_bl, DL.okN_non, DL.deq_ii, DL.okN_ii, DL.deq_int, DL.deq_bl, DL.deq_str, DL.tysB_bool, DL.tysB_int, DL.tysB_str, DL.tysB_tuple, DL.tysB_list, DL.tysB_dict, DL.isT_NoneType_bool, DL.isT_NoneType_int, DL.isT_NoneType_str, DL.isT_NoneType_tuple, DL.isT_NoneType_list, DL.isT_NoneType_dict, DL.isT_bool_bool, DL.isT_bool_int, DL.isT_bool_str, DL.isT_bool_tuple, DL.isT_bool_list, DL.isT_bool_dict, DL.isT_int_bool, DL.isT_int_int, DL.isT_int_str, DL.isT_int_tuple, DL.isT_int_list, DL.isT_int_dict, DL.isT_str_bool, DL.isT_str_int, DL.isT_str_str, DL.isT_str_tuple, DL.isT_str_list, DL.isT_str_dict, DL.isT_tuple_bool, DL.isT_tuple_int, DL.isT_tuple_str, DL.isT_tuple_tuple, DL.isT_tuple_list, DL.isT_tuple_dict, DL.isT_list_bool, DL.isT_list_int, DL.isT_list_str, DL.isT_list_tuple, DL.isT_list_list, DL.isT_list_dict, DL.isT_dict_bool, DL.isT_dict_int, DL.isT_dict_str, DL.isT_dict_tuple, DL.isT_dict_list, DL.isT_dict_dict, true_and, and_true, eq_self, Bool.or_true, Bool.true_or, Bool.or_false, Bool.false_or, Bool.and_true, Bool.true_and, Bool.and_false, Bool.false_and, Bool.false_eq_true, ↓reduceIte, decide_true, decide_false, DL.tyD, DL.kyD, DL.atD, DL.atI_0, DL.atI_1, DL.atI_2, DL.atI_3, DL.atI_4, DL.atI_5, DL.atI_6, DL.atI_7, DL.atI_8, DL.atI_9, DL.atI_10, DL.atI_11, DL.atI_12, DL.ixN_0, DL.ixN_1, DL.upG_same, DL.upG_upG, List.getElem?_cons_zero, List.getElem?_cons_succ, List.cons_append, List.nil_append, Nat.add_one_sub_one, Nat.reduceAdd, Nat.reduceSub, List.length_cons, List.length_nil, decide_eq_true_eq, Bool.not_true, Bool.not_false, List.replicate_succ, List.replicate_zero, List.set_cons_zero, List.set_cons_succ, List.map_cons, List.map_nil, rd_minus]
  refine ⟨mo ba bd, mo bc bb, mo bb bd, _, _, rfl, pos_mul_ne hp, (bb.mul bd).mono (by decide), be_rt h⟩
theorem ok_times : ∀ ds G Q E, sp_times ds G Q E → rd_times sp_fraction (bodyEnds Q E) (slots N_times ds) G := by
  rintro ds G Q E ⟨a, b, c, d, rfl, hp, ⟨ba, bb, bc, bd⟩, h⟩
  rw [sl_times]
  simp -dsimp only [↓DL.thn_nx, ↓DL.thn_rt, ↓DL.thn_ex, ↓DL.thn_bk, ↓DL.thn_ct, ↓DL.trn_nx, ↓DL.trn_rt, ↓DL.trn_ex, ↓DL.trn_bk, ↓DL.trn_ct, DL.Br_true, DL.Br_false, ↓DL.dSeq, ↓DL.dNext, ↓DL.dPass, ↓DL.dBrk, ↓DL.dCnt, ↓DL.dDrop, ↓DL.dRet, ↓DL.dRetN, ↓DL.dIfS, ↓DL.gdName, ↓DL.gdNil, ↓DL.gdCons, ↓DL.gdTup, ↓DL.gdSub, ↓DL.dAsg, ↓DL.dPar, ↓DL.dVar, ↓DL.dC, ↓DL.dUn, ↓DL.dBin, ↓DL.dTest, ↓DL.dNot, ↓DL.dAnd, ↓DL.dOr, ↓DL.dVal, ↓DL.dAndV, ↓DL.dOrV, ↓DL.dNotV, ↓DL.dIf, ↓DL.dNil, ↓DL.dCons, ↓DL.dChain, ↓DL.dTup, ↓DL.dLst, ↓DL.dLstM, ↓DL.dCB, ↓DL.dFor, ↓DL.dLc, ↓DL.dLcM, ↓DL.lcLoop, ↓DL.dYes, ↓DL.diVal, ↓DL.diRng1, ↓DL.diRng2, ↓DL.diEnum, ↓DL.diZip, ↓DL.walkD, ↓DL.dCall, ↓DL.dSl, ↓DL.dDct0, ↓DL.dDctM0, ↓DL.rII, ↓DL.rLt, ↓DL.rLe, ↓DL.rGt, ↓DL.rGe, ↓DL.rSub, ↓DL.rMul, ↓DL.rDivP, ↓DL.rDiv, ↓DL.rModP, ↓DL.rPow, ↓DL.rNeg, ↓DL.rAdd, ↓DL.rEq, ↓DL.rNe, ↓DL.rIsN, ↓DL.rNotN, ↓DL.isN, ↓DL.cmp, ↓DL.rIn, ↓DL.rNotIn, ↓DL.rInB, ↓DL.rIx, ↓DL.rSl, ↓DL.rLen, ↓DL.rAbs, ↓DL.rMax2, ↓DL.rMin2, ↓DL.rInt1, ↓DL.rStr1, ↓DL.rDivmod, ↓DL.rListF, ↓DL.rListM, ↓DL.rTuple, ↓DL.rAll, ↓DL.rAny, ↓DL.rSum, ↓DL.rMaxL, ↓DL.rMinL, ↓DL.rIsi, ↓DL.rRepr, ↓DL.rSetD, ↓DL.itemsD, ↓DL.lstD, DL.slots, DL.dWipe, DL.rs_non, DL.rs_bl, DL.rs_i, DL.rs_s, DL.rs_ty, DL.rs_t, DL.rs_l, DL.rs_k, DL.rs_d, DL.rs_in, DL.rs_c, DL.rs_upl, DL.rs_upd, DL.rs_upi, DL.okQ, DL.isS, DL.okN_int, DL.okN_bl, DL.okN_non, DL.deq_ii, DL.okN_ii, DL.deq_int, DL.deq_bl, DL.deq_str, DL.tysB_bool, DL.tysB_int, DL.tysB_str, DL.tysB_tuple, DL.tysB_list, DL.tysB_dict, DL.isT_NoneType_bool, DL.isT_NoneType_int, DL.isT_NoneType_str, DL.isT_NoneType_tuple, DL.isT_NoneType_list, DL.isT_NoneType_dict, DL.isT_bool_bool, DL.isT_bool_int, DL.isT_bool_str, DL.isT_bool_tuple, DL.isT_bool_list, DL.isT_bool_dict, DL.isT_int_bool, DL.isT_int_int, DL.isT_int_str, DL.isT_int_tuple, DL.isT_int_list, DL.isT_int_dict, DL.isT_str_bool, DL.isT_str_int, DL.isT_str_str, DL.isT_str_tuple, DL.isT_str_list, DL.isT_str_dict, DL.isT_tuple_bool, DL.isT_tuple_int, DL.isT_tuple_str, DL.isT_tuple_tuple, DL.isT_tuple_list, DL.isT_tuple_dict, DL.isT_list_bool, DL.isT_list_int, DL.isT_list_str, DL.isT_list_tuple, DL.isT_list_list, DL.isT_list_dict, DL.isT_dict_bool, DL.isT_dict_int, DL.isT_dict_str, DL.isT_dict_tuple, DL.isT_dict_list, DL.isT_dict_dict, true_and, and_true, eq_self, Bool.or_true, Bool.true_or, Bool.or_false, Bool.false_or, Bool.and_true, Bool.true_and, Bool.and_false, Bool.false_and, Bool.false_eq_true, ↓reduceIte, decide_true, decide_false, DL.tyD, DL.kyD, DL.atD, DL.atI_0, DL.atI_1, DL.atI_2, DL.atI_3, DL.atI_4, DL.atI_5, DL.atI_6, DL.atI_7, DL.atI_8, DL.atI_9, DL.atI_10, DL.atI_11, DL.atI_12, DL.ixN_0, DL.ixN_1, DL.upG_same, DL.upG_upG, List.getElem?_cons_zero, List.getElem?_cons_succ, List.cons_append, List.nil_append, Nat.add_one_sub_one, Nat.reduceAdd, Nat.reduceSub, List.length_cons, List.length_nil, decide_eq_true_eq, Bool.not_true, Bool.not_false, List.replicate_succ, List.replicate_zero, List.set_cons_zero, List.set_cons_succ, List.map_cons, List.map_nil, rd_times]
  refine ⟨mo ba bc, mo bb bd, _, _, rfl, pos_mul_ne hp, (bb.mul bd).mono (by decide), be_rt h⟩
theorem ok_is_less : ∀ ds G Q E, sp_is_less ds G Q E → rd_is_less (bodyEnds Q E) (slots N_is_less ds) G := by
  rintro ds G Q E ⟨a, b, c, d, rfl, hp, ⟨ba, bb, bc, bd⟩, h⟩
  rw [sl_is_less]
  simp -dsimp only [↓DL.thn_nx, ↓DL.thn_rt, ↓DL.thn_ex, ↓DL.thn_bk, ↓DL.thn_ct, ↓DL.trn_nx, ↓DL.trn_rt, ↓DL.trn_ex, ↓DL.trn_bk, ↓DL.trn_ct, DL.Br_true, DL.Br_false, ↓DL.dSeq, ↓DL.dNext, ↓DL.dPass, ↓DL.dBrk, ↓DL.dCnt, ↓DL.dDrop, ↓DL.dRet, ↓DL.dRetN, ↓DL.dIfS, ↓DL.gdName, ↓DL.gdNil, ↓DL.gdCons, ↓DL.gdTup, ↓DL.gdSub, ↓DL.dAsg, ↓DL.dPar, ↓DL.dVar, ↓DL.dC, ↓DL.dUn, ↓DL.dBin, ↓DL.dTest, ↓DL.dNot, ↓DL.dAnd, ↓DL.dOr, ↓DL.dVal, ↓DL.dAndV, ↓DL.dOrV, ↓DL.dNotV, ↓DL.dIf, ↓DL.dNil, ↓DL.dCons, ↓DL.dChain, ↓DL.dTup, ↓DL.dLst, ↓DL.dLstM, ↓DL.dCB, ↓DL.dFor, ↓DL.dLc, ↓DL.dLcM, ↓DL.lcLoop, ↓DL.dYes, ↓DL.diVal, ↓DL.diRng1, ↓DL.diRng2, ↓DL.diEnum, ↓DL.diZip, ↓DL.walkD, ↓DL.dCall, ↓DL.dSl, ↓DL.dDct0, ↓DL.dDctM0, ↓DL.rII, ↓DL.rLt, ↓DL.rLe, ↓DL.rGt, ↓DL.rGe, ↓DL.rSub, ↓DL.rMul, ↓DL.rDivP, ↓DL.rDiv, ↓DL.rModP, ↓DL.rPow, ↓DL.rNeg, ↓DL.rAdd, ↓DL.rEq, ↓DL.rNe, ↓DL.rIsN, ↓DL.rNotN, ↓DL.isN, ↓DL.cmp, ↓DL.rIn, ↓DL.rNotIn, ↓DL.rInB, ↓DL.rIx, ↓DL.rSl, ↓DL.rLen, ↓DL.rAbs, ↓DL.rMax2, ↓DL.rMin2, ↓DL.rInt1, ↓DL.rStr1, ↓DL.rDivmod, ↓DL.rListF, ↓DL.rListM, ↓DL.rTuple, ↓DL.rAll, ↓DL.rAny, ↓DL.rSum, ↓DL.rMaxL, ↓DL.rMinL, ↓DL.rIsi, ↓DL.rRepr, ↓DL.rSetD, ↓DL.itemsD, ↓DL.lstD, DL.slots, DL.dWipe, DL.rs_non, DL.rs_bl, DL.rs_i, DL.rs_s, DL.rs_ty, DL.rs_t, DL.rs_l, DL.rs_k, DL.rs_d, DL.rs_in, DL.rs_c, DL.rs_upl, DL.rs_upd, DL.rs_upi, DL.okQ, DL.isS, DL.okN_int, DL.okN_bl, DL.okN_non, DL.deq_ii, DL.okN_ii, DL.deq_int, DL.deq_bl, DL.deq_str, DL.tysB_bool, DL.tysB_int, DL.tysB_str, DL.tysB_tuple, DL.tysB_list, DL.tysB_dict, DL.isT_NoneType_bool, DL.isT_NoneType_int, DL.isT_NoneType_str, DL.isT_NoneType_tuple, DL.isT_NoneType_list, DL.isT_NoneType_dict, DL.isT_bool_bool, DL.isT_bool_int, DL.isT_bool_str, DL.isT_bool_tuple, DL.isT_bool_list, DL.isT_bool_dict, DL.isT_int_bool, DL.isT_int_int, DL.isT_int_str, DL.isT_int_tuple, DL.isT_int_list, DL.isT_int_dict, DL.isT_str_bool, DL.isT_str_int, DL.isT_str_str, DL.isT_str_tuple, DL.isT_str_list, DL.isT_str_dict, DL.isT_tuple_bool, DL.isT_tuple_int, DL.isT_tuple_str, DL.isT_tuple_tuple, DL.isT_tuple_list, DL.isT_tuple_dict, DL.isT_list_bool, DL.isT_list_int, DL.isT_list_str, DL.isT_list_tuple, DL.isT_list_list, DL.isT_list_dict, DL.isT_dict_bool, DL.isT_dict_int, DL.isT_dict_str, DL.isT_dict_tuple, DL.isT_dict_list, DL.isT_dict_dict, true_and, and_true, eq_self, Bool.or_true, Bool.true_or, Bool.or_false, Bool.false_or, Bool.and_true, Bool.true_and, Bool.and_false, Bool.false_and, Bool.false_eq_true, ↓reduceIte, decide_true, decide_false, DL.tyD, DL.kyD, DL.atD, DL.atI_0, DL.atI_1, DL.atI_2, DL.atI_3, DL.atI_4, DL.atI_5, DL.atI_6, DL.atI_7, DL.atI_8, DL.atI_9, DL.atI_10, DL.atI_11, DL.atI_12, DL.ixN_0, DL.ixN_1, DL.upG_same, DL.upG_upG, List.getElem?_cons_zero, List.getElem?_cons_succ, List.cons_append, List.nil_append, Nat.add_one_sub_one, Nat.reduceAdd, Nat.reduceSub, List.length_cons, List.length_nil, decide_eq_true_eq, Bool.not_true, Bool.not_false, List.replicate_succ, List.replicate_zero, List.set_cons_zero, List.set_cons_succ, List.map_cons, List.map_nil, rd_is_less]
  exact ⟨mo ba bd, mo bc bb, be_rt h⟩
/-! ### the pot -/
def Pot (G : DH) (a : Addr) : Prop := ∃ x y : Int, G a = some (.lst [.int x, .int y]) ∧ 0 ≤ y ∧ y < 2147483647
def PotS (a : Addr) (G G' : DH) : Prop := ∃ x y : Int, G' = upG G a (.lst [.int x, .int y]) ∧ 0 ≤ y ∧ y < 2147483647
theorem PotS.pot {a : Addr} {G G' : DH} (h : PotS a G G') : Pot G' a := let ⟨x, y, e, h1, h2⟩ := h; ⟨x, y, by rw [e, upG_same], h1, h2⟩
theorem PotS.trans {a : Addr} {G G1 G2 : DH} (h : PotS a G G1) (k : PotS a G1 G2) : PotS a G G2 := by
  obtain ⟨x, y, rfl, _, _⟩ := h
  obtain ⟨x', y', rfl, h1, h2⟩ := k
  exact ⟨x', y', upG_upG, h1, h2⟩
theorem Pot.refl {a : Addr} {G : DH} (h : Pot G a) : PotS a G G := by
  obtain ⟨x, y, e, h1, h2⟩ := h
  refine ⟨x, y, ?_, h1, h2⟩
  funext b
  by_cases hb : b = a
  · rw [hb, e, upG_same]
  · rw [upG_ne hb]
def sp__law_pot : DSp := fun ds G Q _ => ∃ (ns : List Int) (k : Int), ds = [.lsk (ns.map D.int), .int k] ∧ 0 ≤ k ∧ k ≤ 1000 ∧ ∀ p G', G p = none → PotS p G G' → Q (.ref p) G'
theorem mod_in {x m : Int} (h : 0 < m) : 0 ≤ x % m ∧ x % m < m := ⟨Int.emod_nonneg _ (by omega), Int.emod_lt_of_pos _ h⟩
theorem ok__law_pot : ∀ ds G Q E, sp__law_pot ds G Q E → rd__law_pot (bodyEnds Q E) (slots N__law_pot ds) G := by
  rintro ds G Q E ⟨ns, k, rfl, h0, hk, h⟩
  rw [sl__law_pot]
  simp -dsimp only [↓DL.thn_nx, ↓DL.thn_rt, ↓DL.thn_ex, ↓DL.thn_bk, ↓DL.thn_ct, ↓DL.trn_nx, ↓DL.trn_rt, ↓DL.trn_ex, ↓DL.trn_bk, ↓DL.trn_ct, DL.Br_true, DL.Br_false, ↓DL.dSeq, ↓DL.dNext, ↓DL.dPass, ↓DL.dBrk, ↓DL.dCnt, ↓DL.dDrop, ↓DL.dRet, ↓DL.dRetN, ↓DL.dIfS, ↓DL.gdName, ↓DL.gdNil, ↓DL.gdCons, ↓DL.gdTup, ↓DL.gdSub, ↓DL.dAsg, ↓DL.dPar, ↓DL.dVar, ↓DL.dC, ↓DL.dUn, ↓DL.dBin, ↓DL.dTest, ↓DL.dNot, ↓DL.dAnd, ↓DL.dOr, ↓DL.dVal, ↓DL.dAndV, ↓DL.dOrV, ↓DL.dNotV, ↓DL.dIf, ↓DL.dNil, ↓DL.dCons, ↓DL.dChain, ↓DL.dTup, ↓DL.dLst, ↓DL.dLstM, ↓DL.dCB, ↓DL.dFor, ↓DL.dLc, ↓DL.dLcM, ↓DL.lcLoop, ↓DL.dYes, ↓DL.diVal, ↓DL.diRng1, ↓DL.diRng2, ↓DL.diEnum, ↓DL.diZip, ↓DL.walkD, ↓DL.dCall, ↓DL.dSl, ↓DL.dDct0, ↓DL.dDctM0, ↓DL.rII, ↓DL.rLt, ↓DL.rLe, ↓DL.rGt, ↓DL.rGe, ↓DL.rSub, ↓DL.rMul, ↓DL.rDivP, ↓DL.rDiv, ↓DL.rModP, ↓DL.rPow, ↓DL.rNeg, ↓DL.rAdd, ↓DL.rEq, ↓DL.rNe, ↓DL.rIsN, ↓DL.rNotN, ↓DL.isN, ↓DL.cmp, ↓DL.rIn, ↓DL.rNotIn, ↓DL.rInB, ↓DL.rIx, ↓DL.rSl, ↓DL.rLen, ↓DL.rAbs, ↓DL.rMax2, ↓DL.rMin2, ↓DL.rInt1, ↓DL.rStr1, ↓DL.rDivmod, ↓DL.rListF, ↓DL.rListM, ↓DL.rTuple, ↓DL.rAll, ↓DL.rAny, ↓DL.rSum, ↓DL.rMaxL, ↓DL.rMinL, ↓DL.rIsi, ↓DL.rRepr, ↓DL.rSetD, ↓DL.itemsD, ↓DL.lstD, DL.slots, DL.dWipe, DL.rs_non, DL.rs_bl, DL.rs_i, DL.rs_s, DL.rs_ty, DL.rs_t, DL.rs_l, DL.rs_k, DL.rs_d, DL.rs_in, DL.rs_c, DL.rs_upl, DL.rs_upd, DL.rs_upi, DL.okQ, DL.isS, DL.okN_int, DL.okN_bl, DL.okN_non, DL.deq_ii, DL.okN_ii, DL.deq_int, DL.deq_bl, DL.deq_str, DL.tysB_bool, DL.tysB_int, DL.tysB_str, DL.tysB_tuple, DL.tysB_list, DL.tysB_dict, DL.isT_NoneType_bool, DL.isT_NoneType_int, DL.isT_NoneType_str, DL.isT_NoneType_tuple, DL.isT_NoneType_list, DL.isT_NoneType_dict, DL.isT_bool_bool, DL.isT_bool_int, DL.isT_bool_str, DL.isT_bool_tuple, DL.isT_bool_list, DL.isT_bool_dict, DL.isT_int_bool, DL.isT_int_int, DL.isT_int_str, DL.isT_int_tuple, DL.isT_int_list, DL.isT_int_dict, DL.isT_str_bool, DL.isT_str_int, DL.isT_str_str, DL.isT_str_tuple, DL.isT_str_list, DL.isT_str_dict, DL.isT_tuple_bool, DL.isT_tuple_int, DL.isT_tuple_str, DL.isT_tuple_tuple, DL.isT_tuple_list, DL.isT_tuple_dict, DL.isT_list_bool, DL.isT_list_int, DL.isT_list_str, DL.isT_list_tuple, DL.isT_list_list, DL.isT_list_dict, DL.isT_dict_bool, DL.isT_dict_int, DL.isT_dict_str, DL.isT_dict_tuple, DL.isT_dict_list, DL.isT_dict_dict, true_and, and_true, eq_self, Bool.or_true, Bool.true_or, Bool.or_false, Bool.false_or, Bool.and_true, Bool.true_and, Bool.and_false, Bool.false_and, Bool.false_eq_true, ↓reduceIte, decide_true, decide_false, DL.tyD, DL.kyD, DL.atD, DL.atI_0, DL.atI_1, DL.atI_2, DL.atI_3, DL.atI_4, DL.atI_5, DL.atI_6, DL.atI_7, DL.atI_8, DL.atI_9, DL.atI_10, DL.atI_11, DL.atI_12, DL.ixN_0, DL.ixN_1, DL.upG_same, DL.upG_upG, List.getElem?_cons_zero, List.getElem?_cons_succ, List.cons_append, List.nil_append, Nat.add_one_sub_one, Nat.reduceAdd, Nat.reduceSub, List.length_cons, List.length_nil, decide_eq_true_eq, Bool.not_true, Bool.not_false, List.replicate_succ, List.replicate_zero, List.set_cons_zero, List.set_cons_succ, List.map_cons, List.map_nil, rd__law_pot]
  have fin : ∀ c : Int, MulOk 101 k ∧ ((c % 2147483543 + 101 * k + 5).natAbs < 2 ^ 64) ∧ ∀ x z p, G p = none → (bodyEnds Q E).rt (.ref p) (upG G p (.lst [.int x, .int (z % 2147483497 + 1)])) := fun c => by
    have := mod_in (x := c) (m := 2147483543) (by decide)
    refine ⟨Bd.mulOk (n := 10) (m := 10) .lit (.range h0 (by omega)) (by decide), by omega, fun x z p hp => be_rt (h p _ hp ⟨x, _, rfl, ?_⟩)⟩
    have := mod_in (x := z) (m := 2147483497) (by decide)
    omega
  by_cases hk2 : k < (ns.map D.int).length
  · (refine br_pos hk2 ?_; try simp -dsimp only [↓DL.thn_nx, ↓DL.thn_rt, ↓DL.thn_ex, ↓DL.thn_bk, ↓DL.thn_ct, ↓DL.trn_nx, ↓DL.trn_rt, ↓DL.trn_ex, ↓DL.trn_bk, ↓DL.trn_ct, DL.Br_true, DL.Br_false, ↓DL.dSeq, ↓DL.dNext, ↓DL.dPass, ↓DL.dBrk, ↓DL.dCnt, ↓DL.dDrop, ↓DL.dRet, ↓DL.dRetN, ↓DL.dIfS, ↓DL.gdName, ↓DL.gdNil, ↓DL.gdCons, ↓DL.gdTup, ↓DL.gdSub, ↓DL.dAsg, ↓DL.dPar, ↓DL.dVar, ↓DL.dC, ↓DL.dUn, ↓DL.dBin, ↓DL.dTest, ↓DL.dNot, ↓DL.dAnd, ↓DL.dOr, ↓DL.dVal, ↓DL.dAndV, ↓DL.dOrV, ↓DL.dNotV, ↓DL.dIf, ↓DL.dNil, ↓DL.dCons, ↓DL.dChain, ↓DL.dTup, ↓DL.dLst, ↓DL.dLstM, ↓DL.dCB, ↓DL.dFor, ↓DL.dLc, ↓DL.dLcM, ↓DL.lcLoop, ↓DL.dYes, ↓DL.diVal, ↓DL.diRng1, ↓DL.diRng2, ↓DL.diEnum, ↓DL.diZip, ↓DL.walkD, ↓DL.dCall, ↓DL.dSl, ↓DL.dDct0, ↓DL.dDctM0, ↓DL.rII, ↓DL.rLt, ↓DL.rLe, ↓DL.rGt, ↓DL.rGe, ↓DL.rSub, ↓DL.rMul, ↓DL.rDivP, ↓DL.rDiv, ↓DL.rModP, ↓DL.rPow, ↓DL.rNeg, ↓DL.rAdd, ↓DL.rEq, ↓DL.rNe, ↓DL.rIsN, ↓DL.rNotN, ↓DL.isN, ↓DL.cmp, ↓DL.rIn, ↓DL.rNotIn, ↓DL.rInB, ↓DL.rIx, ↓DL.rSl, ↓DL.rLen, ↓DL.rAbs, ↓DL.rMax2, ↓DL.rMin2, ↓DL.rInt1, ↓DL.rStr1, ↓DL.rDivmod, ↓DL.rListF, ↓DL.rListM, ↓DL.rTuple, ↓DL.rAll, ↓DL.rAny, ↓DL.rSum, ↓DL.rMaxL, ↓DL.rMinL, ↓DL.rIsi, ↓DL.rRepr, ↓DL.rSetD, ↓DL.itemsD, ↓DL.lstD, DL.slots, DL.dWipe, DL.rs_non, DL.rs_bl, DL.rs_i, DL.rs_s, DL.rs_ty, DL.rs_t, DL.rs_l, DL.rs_k, DL.rs_d, DL.rs_in, DL.rs_c, DL.rs_upl, DL.rs_upd, DL.rs_upi, DL.okQ, DL.isS, DL.okN_int, DL.okN_bl, DL.okN_non, DL.deq_ii, DL.okN_ii, DL.deq_int, DL.deq_bl, DL.deq_str, DL.tysB_bool, DL.tysB_int, DL.tysB_str, DL.tysB_tuple, DL.tysB_list, DL.tysB_dict, DL.isT_NoneType_bool, DL.isT_NoneType_int, DL.isT_NoneType_str, DL.isT_NoneType_tuple, DL.isT_NoneType_list, DL.isT_NoneType_dict, DL.isT_bool_bool, DL.isT_bool_int, DL.isT_bool_str, DL.isT_bool_tuple, DL.isT_bool_list, DL.isT_bool_dict, DL.isT_int_bool, DL.isT_int_int, DL.isT_int_str, DL.isT_int_tuple, DL.isT_int_list, DL.isT_int_dict, DL.isT_str_bool, DL.isT_str_int, DL.isT_str_str, DL.isT_str_tuple, DL.isT_str_list, DL.isT_str_dict, DL.isT_tuple_bool, DL.isT_tuple_int, DL.isT_tuple_str, DL.isT_tuple_tuple, DL.isT_tuple_list, DL.isT_tuple_dict, DL.isT_list_bool, DL.isT_list_int, DL.isT_list_str, DL.isT_list_tuple, DL.isT_list_list, DL.isT_list_dict, DL.isT_dict_bool, DL.isT_dict_int, DL.isT_dict_str, DL.isT_dict_tuple, DL.isT_dict_list, DL.isT_dict_dict, true_and, and_true, eq_self, Bool.or_true, Bool.true_or, Bool.or_false, Bool.false_or, Bool.and_true, Bool.true_and, Bool.and_false, Bool.false_and, Bool.false_eq_true, ↓reduceIte, decide_true, decide_false, DL.tyD, DL.kyD, DL.atD, DL.atI_0, DL.atI_1, DL.atI_2, DL.atI_3, DL.atI_4, DL.atI_5, DL.atI_6, DL.atI_7, DL.atI_8, DL.atI_9, DL.atI_10, DL.atI_11, DL.atI_12, DL.ixN_0, DL.ixN_1, DL.upG_same, DL.upG_upG, List.getElem?_cons_zero, List.getElem?_cons_succ, List.cons_append, List.nil_append, Nat.add_one_sub_one, Nat.reduceAdd, Nat.reduceSub, List.length_cons, List.length_nil, decide_eq_true_eq, Bool.not_true, Bool.not_false, List.replicate_succ, List.replicate_zero, List.set_cons_zero, List.set_cons_succ, List.map_cons, List.map_nil])
    obtain ⟨z, _, ez⟩ := at_ints (ns := ns) h0 (by simpa using hk2)
    rw [ez]
    simp -dsimp only [↓DL.thn_nx, ↓DL.thn_rt, ↓DL.thn_ex, ↓DL.thn_bk, ↓DL.thn_ct, ↓DL.trn_nx, ↓DL.trn_rt, ↓DL.trn_ex, ↓DL.trn_bk, ↓DL.trn_ct, DL.Br_true, DL.Br_false, ↓DL.dSeq, ↓DL.dNext, ↓DL.dPass, ↓DL.dBrk, ↓DL.dCnt, ↓DL.dDrop, ↓DL.dRet, ↓DL.dRetN, ↓DL.dIfS, ↓DL.gdName, ↓DL.gdNil, ↓DL.gdCons, ↓DL.gdTup, ↓DL.gdSub, ↓DL.dAsg, ↓DL.dPar, ↓DL.dVar, ↓DL.dC, ↓DL.dUn, ↓DL.dBin, ↓DL.dTest, ↓DL.dNot, ↓DL.dAnd, ↓DL.dOr, ↓DL.dVal, ↓DL.dAndV, ↓DL.dOrV, ↓DL.dNotV, ↓DL.dIf, ↓DL.dNil, ↓DL.dCons, ↓DL.dChain, ↓DL.dTup, ↓DL.dLst, ↓DL.dLstM, ↓DL.dCB, ↓DL.dFor, ↓DL.dLc, ↓DL.dLcM, ↓DL.lcLoop, ↓DL.dYes, ↓DL.diVal, ↓DL.diRng1, ↓DL.diRng2, ↓DL.diEnum, ↓DL.diZip, ↓DL.walkD, ↓DL.dCall, ↓DL.dSl, ↓DL.dDct0, ↓DL.dDctM0, ↓DL.rII, ↓DL.rLt, ↓DL.rLe, ↓DL.rGt, ↓DL.rGe, ↓DL.rSub, ↓DL.rMul, ↓DL.rDivP, ↓DL.rDiv, ↓DL.rModP, ↓DL.rPow, ↓DL.rNeg, ↓DL.rAdd, ↓DL.rEq, ↓DL.rNe, ↓DL.rIsN, ↓DL.rNotN, ↓DL.isN, ↓DL.cmp, ↓DL.rIn, ↓DL.rNotIn, ↓DL.rInB, ↓DL.rIx, ↓DL.rSl, ↓DL.rLen, ↓DL.rAbs, ↓DL.rMax2, ↓DL.rMin2, ↓DL.rInt1, ↓DL.rStr1, ↓DL.rDivmod, ↓DL.rListF, ↓DL.rListM, ↓DL.rTuple, ↓DL.rAll, ↓DL.rAny, ↓DL.rSum, ↓DL.rMaxL, ↓DL.rMinL, ↓DL.rIsi, ↓DL.rRepr, ↓DL.rSetD, ↓DL.itemsD, ↓DL.lstD, DL.slots, DL.dWipe, DL.rs_non, DL.rs_bl, DL.rs_i, DL.rs_s, DL.rs_ty, DL.rs_t, DL.rs_l, DL.rs_k, DL.rs_d, DL.rs_in, DL.rs_c, DL.rs_upl, DL.rs_upd, DL.rs_upi, DL.okQ, DL.isS, DL.okN_int, DL.okN_bl, DL.okN_non, DL.deq_ii, DL.okN_ii, DL.deq_int, DL.deq_bl, DL.deq_str, DL.tysB_bool, DL.tysB_int, DL.tysB_str, DL.tysB_tuple, DL.tysB_list, DL.tysB_dict, DL.isT_NoneType_bool, DL.isT_NoneType_int, DL.isT_NoneType_str, DL.isT_NoneType_tuple, DL.isT_NoneType_list, DL.isT_NoneType_dict, DL.isT_bool_bool, DL.isT_bool_int, DL.isT_bool_str, DL.isT_bool_tuple, DL.isT_bool_list, DL.isT_bool_dict, DL.isT_int_bool, DL.isT_int_int, DL.isT_int_str, DL.isT_int_tuple, DL.isT_int_list, DL.isT_int_dict, DL.isT_str_bool, DL.isT_str_int, DL.isT_str_str, DL.isT_str_tuple, DL.isT_str_list, DL.isT_str_dict, DL.isT_tuple_bool, DL.isT_tuple_int, DL.isT_tuple_str, DL.isT_tuple_tuple, DL.isT_tuple_list, DL.isT_tuple_dict, DL.isT_list_bool, DL.isT_list_int, DL.isT_list_str, DL.isT_list_tuple, DL.isT_list_list, DL.isT_list_dict, DL.isT_dict_bool, DL.isT_dict_int, DL.isT_dict_str, DL.isT_dict_tuple, DL.isT_dict_list, DL.isT_dict_dict, true_and, and_true, eq_self, Bool.or_true, Bool.true_or, Bool.or_false, Bool.false_or, Bool.and_true, Bool.true_and, Bool.and_false, Bool.false_and, Bool.false_eq_true, ↓reduceIte, decide_true, decide_false, DL.tyD, DL.kyD, DL.atD, DL.atI_0, DL.atI_1, DL.atI_2, DL.atI_3, DL.atI_4, DL.atI_5, DL.atI_6, DL.atI_7, DL.atI_8, DL.atI_9, DL.atI_10, DL.atI_11, DL.atI_12, DL.ixN_0, DL.ixN_1, DL.upG_same, DL.upG_upG, List.getElem?_cons_zero, List.getElem?_cons_succ, List.cons_append, List.nil_append, Nat.add_one_sub_one, Nat.reduceAdd, Nat.reduceSub, List.length_cons, List.length_nil, decide_eq_true_eq, Bool.not_true, Bool.not_false, List.replicate_succ, List.replicate_zero, List.set_cons_zero, List.set_cons_succ, List.map_cons, List.map_nil]
    obtain ⟨f1, f2, f3⟩ := fin (if z < 0 then -z else z)
    exact ⟨by decide, by decide, f1, ⟨by decide, by decide, f2⟩, by decide, by decide, fun p hp => f3 _ _ p hp⟩
  · (refine br_neg hk2 ?_; try simp -dsimp only [↓DL.thn_nx, ↓DL.thn_rt, ↓DL.thn_ex, ↓DL.thn_bk, ↓DL.thn_ct, ↓DL.trn_nx, ↓DL.trn_rt, ↓DL.trn_ex, ↓DL.trn_bk, ↓DL.trn_ct, DL.Br_true, DL.Br_false, ↓DL.dSeq, ↓DL.dNext, ↓DL.dPass, ↓DL.dBrk, ↓DL.dCnt, ↓DL.dDrop, ↓DL.dRet, ↓DL.dRetN, ↓DL.dIfS, ↓DL.gdName, ↓DL.gdNil, ↓DL.gdCons, ↓DL.gdTup, ↓DL.gdSub, ↓DL.dAsg, ↓DL.dPar, ↓DL.dVar, ↓DL.dC, ↓DL.dUn, ↓DL.dBin, ↓DL.dTest, ↓DL.dNot, ↓DL.dAnd, ↓DL.dOr, ↓DL.dVal, ↓DL.dAndV, ↓DL.dOrV, ↓DL.dNotV, ↓DL.dIf, ↓DL.dNil, ↓DL.dCons, ↓DL.dChain, ↓DL.dTup, ↓DL.dLst, ↓DL.dLstM, ↓DL.dCB, ↓DL.dFor, ↓DL.dLc, ↓DL.dLcM, ↓DL.lcLoop, ↓DL.dYes, ↓DL.diVal, ↓DL.diRng1, ↓DL.diRng2, ↓DL.diEnum, ↓DL.diZip, ↓DL.walkD, ↓DL.dCall, ↓DL.dSl, ↓DL.dDct0, ↓DL.dDctM0, ↓DL.rII, ↓DL.rLt, ↓DL.rLe, ↓DL.rGt, ↓DL.rGe, ↓DL.rSub, ↓DL.rMul, ↓DL.rDivP, ↓DL.rDiv, ↓DL.rModP, ↓DL.rPow, ↓DL.rNeg, ↓DL.rAdd, ↓DL.rEq, ↓DL.rNe, ↓DL.rIsN, ↓DL.rNotN, ↓DL.isN, ↓DL.cmp, ↓DL.rIn, ↓DL.rNotIn, ↓DL.rInB, ↓DL.rIx, ↓DL.rSl, ↓DL.rLen, ↓DL.rAbs, ↓DL.rMax2, ↓DL.rMin2, ↓DL.rInt1, ↓DL.rStr1, ↓DL.rDivmod, ↓DL.rListF, ↓DL.rListM, ↓DL.rTuple, ↓DL.rAll, ↓DL.rAny, ↓DL.rSum, ↓DL.rMaxL, ↓DL.rMinL, ↓DL.rIsi, ↓DL.rRepr, ↓DL.rSetD, ↓DL.itemsD, ↓DL.lstD, DL.slots, DL.dWipe, DL.rs_non, DL.rs_bl, DL.rs_i, DL.rs_s, DL.rs_ty, DL.rs_t, DL.rs_l, DL.rs_k, DL.rs_d, DL.rs_in, DL.rs_c, DL.rs_upl, DL.rs_upd, DL.rs_upi, DL.okQ, DL.isS, DL.okN_int, DL.okN_bl, DL.okN_non, DL.deq_ii, DL.okN_ii, DL.deq_int, DL.deq_bl, DL.deq_str, DL.tysB_bool, DL.tysB_int, DL.tysB_str, DL.tysB_tuple, DL.tysB_list, DL.tysB_dict, DL.isT_NoneType_bool, DL.isT_NoneType_int, DL.isT_NoneType_str, DL.isT_NoneType_tuple, DL.isT_NoneType_list, DL.isT_NoneType_dict, DL.isT_bool_bool, DL.isT_bool_int, DL.isT_bool_str, DL.isT_bool_tuple, DL.isT_bool_list, DL.isT_bool_dict, DL.isT_int_bool, DL.isT_int_int, DL.isT_int_str, DL.isT_int_tuple, DL.isT_int_list, DL.isT_int_dict, DL.isT_str_bool, DL.isT_str_int, DL.isT_str_str, DL.isT_str_tuple, DL.isT_str_list, DL.isT_str_dict, DL.isT_tuple_bool, DL.isT_tuple_int, DL.isT_tuple_str, DL.isT_tuple_tuple, DL.isT_tuple_list, DL.isT_tuple_dict, DL.isT_list_bool, DL.isT_list_int, DL.isT_list_str, DL.isT_list_tuple, DL.isT_list_list, DL.isT_list_dict, DL.isT_dict_bool, DL.isT_dict_int, DL.isT_dict_str, DL.isT_dict_tuple, DL.isT_dict_list, DL.isT_dict_dict, true_and, and_true, eq_self, Bool.or_true, Bool.true_or, Bool.or_false, Bool.false_or, Bool.and_true, Bool.true_and, Bool.and_false, Bool.false_and, Bool.false_eq_true, ↓reduceIte, decide_true, decide_false, DL.tyD, DL.kyD, DL.atD, DL.atI_0, DL.atI_1, DL.atI_2, DL.atI_3, DL.atI_4, DL.atI_5, DL.atI_6, DL.atI_7, DL.atI_8, DL.atI_9, DL.atI_10, DL.atI_11, DL.atI_12, DL.ixN_0, DL.ixN_1, DL.upG_same, DL.upG_upG, List.getElem?_cons_zero, List.getElem?_cons_succ, List.cons_append, List.nil_append, Nat.add_one_sub_one, Nat.reduceAdd, Nat.reduceSub, List.length_cons, List.length_nil, decide_eq_true_eq, Bool.not_true, Bool.not_false, List.replicate_succ, List.replicate_zero, List.set_cons_zero, List.set_cons_succ, List.map_cons, List.map_nil])
    obtain ⟨f1, f2, f3⟩ := fin 0
    exact ⟨by decide, by decide, f1, ⟨by decide, by decide, f2⟩, by decide, by decide, fun p hp => f3 _ _ p hp⟩
def sp__law_take : DSp := fun ds G Q _ => ∃ (a : Addr) (m : Int), ds = [.ref a, .int m] ∧ Pot G a ∧ 0 < m ∧ Bd 250 m ∧ ∀ r G', 0 ≤ r → r < m → PotS a G G' → Q (.int r) G'
theorem fin_take {x m : Int} (hm : 0 < m) : 0 ≤ x % m ∧ x % m < m := mod_in hm
theorem ok__law_take : ∀ ds G Q E, sp__law_take ds G Q E → rd__law_take (bodyEnds Q E) (slots N__law_take ds) G := by
  rintro ds G Q E ⟨a, m, rfl, ⟨x, y, e, h0, h1⟩, hm, bm, h⟩
  rw [sl__law_take]
  simp -dsimp only [↓DL.thn_nx, ↓DL.thn_rt, ↓DL.thn_ex, ↓DL.thn_bk, ↓DL.thn_ct, ↓DL.trn_nx, ↓DL.trn_rt, ↓DL.trn_ex, ↓DL.trn_bk, ↓DL.trn_ct, DL.Br_true, DL.Br_false, ↓DL.dSeq, ↓DL.dNext, ↓DL.dPass, ↓DL.dBrk, ↓DL.dCnt, ↓DL.dDrop, ↓DL.dRet, ↓DL.dRetN, ↓DL.dIfS, ↓DL.gdName, ↓DL.gdNil, ↓DL.gdCons, ↓DL.gdTup, ↓DL.gdSub, ↓DL.dAsg, ↓DL.dPar, ↓DL.dVar, ↓DL.dC, ↓DL.dUn, ↓DL.dBin, ↓DL.dTest, ↓DL.dNot, ↓DL.dAnd, ↓DL.dOr, ↓DL.dVal, ↓DL.dAndV, ↓DL.dOrV, ↓DL.dNotV, ↓DL.dIf, ↓DL.dNil, ↓DL.dCons, ↓DL.dChain, ↓DL.dTup, ↓DL.dLst, ↓DL.dLstM, ↓DL.dCB, ↓DL.dFor, ↓DL.dLc, ↓DL.dLcM, ↓DL.lcLoop, ↓DL.dYes, ↓DL.diVal, ↓DL.diRng1, ↓DL.diRng2, ↓DL.diEnum, ↓DL.diZip, ↓DL.walkD, ↓DL.dCall, ↓DL.dSl, ↓DL.dDct0, ↓DL.dDctM0, ↓DL.rII, ↓DL.rLt, ↓DL.rLe, ↓DL.rGt, ↓DL.rGe, ↓DL.rSub, ↓DL.rMul, ↓DL.rDivP, ↓DL.rDiv, ↓DL.rModP, ↓DL.rPow, ↓DL.rNeg, ↓DL.rAdd, ↓DL.rEq, ↓DL.rNe, ↓DL.rIsN, ↓DL.rNotN, ↓DL.isN, ↓DL.cmp, ↓DL.rIn, ↓DL.rNotIn, ↓DL.rInB, ↓DL.rIx, ↓DL.rSl, ↓DL.rLen, ↓DL.rAbs, ↓DL.rMax2, ↓DL.rMin2, ↓DL.rInt1, ↓DL.rStr1, ↓DL.rDivmod, ↓DL.rListF, ↓DL.rListM, ↓DL.rTuple, ↓DL.rAll, ↓DL.rAny, ↓DL.rSum, ↓DL.rMaxL, ↓DL.rMinL, ↓DL.rIsi, ↓DL.rRepr, ↓DL.rSetD, ↓DL.itemsD, ↓DL.lstD, DL.slots, DL.dWipe, DL.rs_non, DL.rs_bl, DL.rs_i, DL.rs_s, DL.rs_ty, DL.rs_t, DL.rs_l, DL.rs_k, DL.rs_d, DL.rs_in, DL.rs_c, DL.rs_upl, DL.rs_upd, DL.rs_upi, DL.okQ, DL.isS, DL.okN_int, DL.okN_bl, DL.okN_non, DL.deq_ii, DL.okN_ii, DL.deq_int, DL.deq_bl, DL.deq_str, DL.tysB_bool, DL.tysB_int, DL.tysB_str, DL.tysB_tuple, DL.tysB_list, DL.tysB_dict, DL.isT_NoneType_bool, DL.isT_NoneType_int, DL.isT_NoneType_str, DL.isT_NoneType_tuple, DL.isT_NoneType_list, DL.isT_NoneType_dict, DL.isT_bool_bool, DL.isT_bool_int, DL.isT_bool_str, DL.isT_bool_tuple, DL.isT_bool_list, DL.isT_bool_dict, DL.isT_int_bool, DL.isT_int_int, DL.isT_int_str, DL.isT_int_tuple, DL.isT_int_list, DL.isT_int_dict, DL.isT_str_bool, DL.isT_str_int, DL.isT_str_str, DL.isT_str_tuple, DL.isT_str_list, DL.isT_str_dict, DL.isT_tuple_bool, DL.isT_tuple_int, DL.isT_tuple_str, DL.isT_tuple_tuple, DL.isT_tuple_list, DL.isT_tuple_dict, DL.isT_list_bool, DL.isT_list_int, DL.isT_list_str, DL.isT_list_tuple, DL.isT_list_list, DL.isT_list_dict, DL.isT_dict_bool, DL.isT_dict_int, DL.isT_dict_str, DL.isT_dict_tuple, DL.isT_dict_list, DL.isT_dict_dict, true_and, and_true, eq_self, Bool.or_true, Bool.true_or, Bool.or_false, Bool.false_or, Bool.and_true, Bool.true_and, Bool.and_false, Bool.false_and, Bool.false_eq_true, ↓reduceIte, decide_true, decide_false, DL.tyD, DL.kyD, DL.atD, DL.atI_0, DL.atI_1, DL.atI_2, DL.atI_3, DL.atI_4, DL.atI_5, DL.atI_6, DL.atI_7, DL.atI_8, DL.atI_9, DL.atI_10, DL.atI_11, DL.atI_12, DL.ixN_0, DL.ixN_1, DL.upG_same, DL.upG_upG, List.getElem?_cons_zero, List.getElem?_cons_succ, List.cons_append, List.nil_append, Nat.add_one_sub_one, Nat.reduceAdd, Nat.reduceSub, List.length_cons, List.length_nil, decide_eq_true_eq, Bool.not_true, Bool.not_false, List.replicate_succ, List.replicate_zero, List.set_cons_zero, List.set_cons_succ, List.map_cons, List.map_nil, rd__law_take, rs_rl e, e]
  have lm := bm.log2 (by decide)
  by_cases hx : 0 < x
  · (refine br_pos hx ?_; try simp -dsimp only [↓DL.thn_nx, ↓DL.thn_rt, ↓DL.thn_ex, ↓DL.thn_bk, ↓DL.thn_ct, ↓DL.trn_nx, ↓DL.trn_rt, ↓DL.trn_ex, ↓DL.trn_bk, ↓DL.trn_ct, DL.Br_true, DL.Br_false, ↓DL.dSeq, ↓DL.dNext, ↓DL.dPass, ↓DL.dBrk, ↓DL.dCnt, ↓DL.dDrop, ↓DL.dRet, ↓DL.dRetN, ↓DL.dIfS, ↓DL.gdName, ↓DL.gdNil, ↓DL.gdCons, ↓DL.gdTup, ↓DL.gdSub, ↓DL.dAsg, ↓DL.dPar, ↓DL.dVar, ↓DL.dC, ↓DL.dUn, ↓DL.dBin, ↓DL.dTest, ↓DL.dNot, ↓DL.dAnd, ↓DL.dOr, ↓DL.dVal, ↓DL.dAndV, ↓DL.dOrV, ↓DL.dNotV, ↓DL.dIf, ↓DL.dNil, ↓DL.dCons, ↓DL.dChain, ↓DL.dTup, ↓DL.dLst, ↓DL.dLstM, ↓DL.dCB, ↓DL.dFor, ↓DL.dLc, ↓DL.dLcM, ↓DL.lcLoop, ↓DL.dYes, ↓DL.diVal, ↓DL.diRng1, ↓DL.diRng2, ↓DL.diEnum, ↓DL.diZip, ↓DL.walkD, ↓DL.dCall, ↓DL.dSl, ↓DL.dDct0, ↓DL.dDctM0, ↓DL.rII, ↓DL.rLt, ↓DL.rLe, ↓DL.rGt, ↓DL.rGe, ↓DL.rSub, ↓DL.rMul, ↓DL.rDivP, ↓DL.rDiv, ↓DL.rModP, ↓DL.rPow, ↓DL.rNeg, ↓DL.rAdd, ↓DL.rEq, ↓DL.rNe, ↓DL.rIsN, ↓DL.rNotN, ↓DL.isN, ↓DL.cmp, ↓DL.rIn, ↓DL.rNotIn, ↓DL.rInB, ↓DL.rIx, ↓DL.rSl, ↓DL.rLen, ↓DL.rAbs, ↓DL.rMax2, ↓DL.rMin2, ↓DL.rInt1, ↓DL.rStr1, ↓DL.rDivmod, ↓DL.rListF, ↓DL.rListM, ↓DL.rTuple, ↓DL.rAll, ↓DL.rAny, ↓DL.rSum, ↓DL.rMaxL, ↓DL.rMinL, ↓DL.rIsi, ↓DL.rRepr, ↓DL.rSetD, ↓DL.itemsD, ↓DL.lstD, DL.slots, DL.dWipe, DL.rs_non, DL.rs_bl, DL.rs_i, DL.rs_s, DL.rs_ty, DL.rs_t, DL.rs_l, DL.rs_k, DL.rs_d, DL.rs_in, DL.rs_c, DL.rs_upl, DL.rs_upd, DL.rs_upi, DL.okQ, DL.isS, DL.okN_int, DL.okN_bl, DL.okN_non, DL.deq_ii, DL.okN_ii, DL.deq_int, DL.deq_bl, DL.deq_str, DL.tysB_bool, DL.tysB_int, DL.tysB_str, DL.tysB_tuple, DL.tysB_list, DL.tysB_dict, DL.isT_NoneType_bool, DL.isT_NoneType_int, DL.isT_NoneType_str, DL.isT_NoneType_tuple, DL.isT_NoneType_list, DL.isT_NoneType_dict, DL.isT_bool_bool, DL.isT_bool_int, DL.isT_bool_str, DL.isT_bool_tuple, DL.isT_bool_list, DL.isT_bool_dict, DL.isT_int_bool, DL.isT_int_int, DL.isT_int_str, DL.isT_int_tuple, DL.isT_int_list, DL.isT_int_dict, DL.isT_str_bool, DL.isT_str_int, DL.isT_str_str, DL.isT_str_tuple, DL.isT_str_list, DL.isT_str_dict, DL.isT_tuple_bool, DL.isT_tuple_int, DL.isT_tuple_str, DL.isT_tuple_tuple, DL.isT_tuple_list, DL.isT_tuple_dict, DL.isT_list_bool, DL.isT_list_int, DL.isT_list_str, DL.isT_list_tuple, DL.isT_list_list, DL.isT_list_dict, DL.isT_dict_bool, DL.isT_dict_int, DL.isT_dict_str, DL.isT_dict_tuple, DL.isT_dict_list, DL.isT_dict_dict, true_and, and_true, eq_self, Bool.or_true, Bool.true_or, Bool.or_false, Bool.false_or, Bool.and_true, Bool.true_and, Bool.and_false, Bool.false_and, Bool.false_eq_true, ↓reduceIte, decide_true, decide_false, DL.tyD, DL.kyD, DL.atD, DL.atI_0, DL.atI_1, DL.atI_2, DL.atI_3, DL.atI_4, DL.atI_5, DL.atI_6, DL.atI_7, DL.atI_8, DL.atI_9, DL.atI_10, DL.atI_11, DL.atI_12, DL.ixN_0, DL.ixN_1, DL.upG_same, DL.upG_upG, List.getElem?_cons_zero, List.getElem?_cons_succ, List.cons_append, List.nil_append, Nat.add_one_sub_one, Nat.reduceAdd, Nat.reduceSub, List.length_cons, List.length_nil, decide_eq_true_eq, Bool.not_true, Bool.not_false, List.replicate_succ, List.replicate_zero, List.set_cons_zero, List.set_cons_succ, List.map_cons, List.map_nil, rs_rl e, e])
    have hr := mod_in (x := x) hm
    exact ⟨⟨hm, by omega⟩, be_rt (h _ _ hr.1 hr.2 ⟨_, _, rfl, h0, h1⟩)⟩
  · (refine br_neg hx ?_; try simp -dsimp only [↓DL.thn_nx, ↓DL.thn_rt, ↓DL.thn_ex, ↓DL.thn_bk, ↓DL.thn_ct, ↓DL.trn_nx, ↓DL.trn_rt, ↓DL.trn_ex, ↓DL.trn_bk, ↓DL.trn_ct, DL.Br_true, DL.Br_false, ↓DL.dSeq, ↓DL.dNext, ↓DL.dPass, ↓DL.dBrk, ↓DL.dCnt, ↓DL.dDrop, ↓DL.dRet, ↓DL.dRetN, ↓DL.dIfS, ↓DL.gdName, ↓DL.gdNil, ↓DL.gdCons, ↓DL.gdTup, ↓DL.gdSub, ↓DL.dAsg, ↓DL.dPar, ↓DL.dVar, ↓DL.dC, ↓DL.dUn, ↓DL.dBin, ↓DL.dTest, ↓DL.dNot, ↓DL.dAnd, ↓DL.dOr, ↓DL.dVal, ↓DL.dAndV, ↓DL.dOrV, ↓DL.dNotV, ↓DL.dIf, ↓DL.dNil, ↓DL.dCons, ↓DL.dChain, ↓DL.dTup, ↓DL.dLst, ↓DL.dLstM, ↓DL.dCB, ↓DL.dFor, ↓DL.dLc, ↓DL.dLcM, ↓DL.lcLoop, ↓DL.dYes, ↓DL.diVal, ↓DL.diRng1, ↓DL.diRng2, ↓DL.diEnum, ↓DL.diZip, ↓DL.walkD, ↓DL.dCall, ↓DL.dSl, ↓DL.dDct0, ↓DL.dDctM0, ↓DL.rII, ↓DL.rLt, ↓DL.rLe, ↓DL.rGt, ↓DL.rGe, ↓DL.rSub, ↓DL.rMul, ↓DL.rDivP, ↓DL.rDiv, ↓DL.rModP, ↓DL.rPow, ↓DL.rNeg, ↓DL.rAdd, ↓DL.rEq, ↓DL.rNe, ↓DL.rIsN, ↓DL.rNotN, ↓DL.isN, ↓DL.cmp, ↓DL.rIn, ↓DL.rNotIn, ↓DL.rInB, ↓DL.rIx, ↓DL.rSl, ↓DL.rLen, ↓DL.rAbs, ↓DL.rMax2, ↓DL.rMin2, ↓DL.rInt1, ↓DL.rStr1, ↓DL.rDivmod, ↓DL.rListF, ↓DL.rListM, ↓DL.rTuple, ↓DL.rAll, ↓DL.rAny, ↓DL.rSum, ↓DL.rMaxL, ↓DL.rMinL, ↓DL.rIsi, ↓DL.rRepr, ↓DL.rSetD, ↓DL.itemsD, ↓DL.lstD, DL.slots, DL.dWipe, DL.rs_non, DL.rs_bl, DL.rs_i, DL.rs_s, DL.rs_ty, DL.rs_t, DL.rs_l, DL.rs_k, DL.rs_d, DL.rs_in, DL.rs_c, DL.rs_upl, DL.rs_upd, DL.rs_upi, DL.okQ, DL.isS, DL.okN_int, DL.okN_bl, DL.okN_non, DL.deq_ii, DL.okN_ii, DL.deq_int, DL.deq_bl, DL.deq_str, DL.tysB_bool, DL.tysB_int, DL.tysB_str, DL.tysB_tuple, DL.tysB_list, DL.tysB_dict, DL.isT_NoneType_bool, DL.isT_NoneType_int, DL.isT_NoneType_str, DL.isT_NoneType_tuple, DL.isT_NoneType_list, DL.isT_NoneType_dict, DL.isT_bool_bool, DL.isT_bool_int, DL.isT_bool_str, DL.isT_bool_tuple, DL.isT_bool_list, DL.isT_bool_dict, DL.isT_int_bool, DL.isT_int_int, DL.isT_int_str, DL.isT_int_tuple, DL.isT_int_list, DL.isT_int_dict, DL.isT_str_bool, DL.isT_str_int, DL.isT_str_str, DL.isT_str_tuple, DL.isT_str_list, DL.isT_str_dict, DL.isT_tuple_bool, DL.isT_tuple_int, DL.isT_tuple_str, DL.isT_tuple_tuple, DL.isT_tuple_list, DL.isT_tuple_dict, DL.isT_list_bool, DL.isT_list_int, DL.isT_list_str, DL.isT_list_tuple, DL.isT_list_list, DL.isT_list_dict, DL.isT_dict_bool, DL.isT_dict_int, DL.isT_dict_str, DL.isT_dict_tuple, DL.isT_dict_list, DL.isT_dict_dict, true_and, and_true, eq_self, Bool.or_true, Bool.true_or, Bool.or_false, Bool.false_or, Bool.and_true, Bool.true_and, Bool.and_false, Bool.false_and, Bool.false_eq_true, ↓reduceIte, decide_true, decide_false, DL.tyD, DL.kyD, DL.atD, DL.atI_0, DL.atI_1, DL.atI_2, DL.atI_3, DL.atI_4, DL.atI_5, DL.atI_6, DL.atI_7, DL.atI_8, DL.atI_9, DL.atI_10, DL.atI_11, DL.atI_12, DL.ixN_0, DL.ixN_1, DL.upG_same, DL.upG_upG, List.getElem?_cons_zero, List.getElem?_cons_succ, List.cons_append, List.nil_append, Nat.add_one_sub_one, Nat.reduceAdd, Nat.reduceSub, List.length_cons, List.length_nil, decide_eq_true_eq, Bool.not_true, Bool.not_false, List.replicate_succ, List.replicate_zero, List.set_cons_zero, List.set_cons_succ, List.map_cons, List.map_nil, rs_rl e, e])
    have hy := mod_in (x := y * 44029 + 10133) (m := 2147483587) (by decide)
    generalize (y * 44029 + 10133) % 2147483587 = z at *
    have hr := mod_in (x := (z * z % 2147483549).fdiv 11) hm
    have bz : Bd 40 z := .range hy.1 (by omega)
    refine ⟨Bd.mulOk (n := 40) (m := 40) (.range h0 (by omega)) .lit (by decide), by decide, bz.mulOk bz (by decide), by decide, by decide, hm, be_rt (h _ _ hr.1 hr.2 ⟨_, _, rfl, hy.1, by omega⟩)⟩
def sp__law_among : DSp := fun ds G Q _ => ∃ (a : Addr) (xs : List D), ds = [.ref a, .lst xs] ∧ Pot G a ∧ 0 < xs.length ∧ xs.length ≤ 1000 ∧ ∀ x ∈ xs, ∀ G', PotS a G G' → Q x G'
theorem ok__law_among : ∀ ds G Q E, sp__law_among ds G Q E → rd__law_among sp__law_take (bodyEnds Q E) (slots N__law_among ds) G := by
  rintro ds G Q E ⟨a, xs, rfl, hp, h0, h1, h⟩
  rw [sl__law_among]
  simp -dsimp only [↓DL.thn_nx, ↓DL.thn_rt, ↓DL.thn_ex, ↓DL.thn_bk, ↓DL.thn_ct, ↓DL.trn_nx, ↓DL.trn_rt, ↓DL.trn_ex, ↓DL.trn_bk, ↓DL.trn_ct, DL.Br_true, DL.Br_false, ↓DL.dSeq, ↓DL.dNext, ↓DL.dPass, ↓DL.dBrk, ↓DL.dCnt, ↓DL.dDrop, ↓DL.dRet, ↓DL.dRetN, ↓DL.dIfS, ↓DL.gdName, ↓DL.gdNil, ↓DL.gdCons, ↓DL.gdTup, ↓DL.gdSub, ↓DL.dAsg, ↓DL.dPar, ↓DL.dVar, ↓DL.dC, ↓DL.dUn, ↓DL.dBin, ↓DL.dTest, ↓DL.dNot, ↓DL.dAnd, ↓DL.dOr, ↓DL.dVal, ↓DL.dAndV, ↓DL.dOrV, ↓DL.dNotV, ↓DL.dIf, ↓DL.dNil, ↓DL.dCons, ↓DL.dChain, ↓DL.dTup, ↓DL.dLst, ↓DL.dLstM, ↓DL.dCB, ↓DL.dFor, ↓DL.dLc, ↓DL.dLcM, ↓DL.lcLoop, ↓DL.dYes, ↓DL.diVal, ↓DL.diRng1, ↓DL.diRng2, ↓DL.diEnum, ↓DL.diZip, ↓DL.walkD, ↓DL.dCall, ↓DL.dSl, ↓DL.dDct0, ↓DL.dDctM0, ↓DL.rII, ↓DL.rLt, ↓DL.rLe, ↓DL.rGt, ↓DL.rGe, ↓DL.rSub, ↓DL.rMul, ↓DL.rDivP, ↓DL.rDiv, ↓DL.rModP, ↓DL.rPow, ↓DL.rNeg, ↓DL.rAdd, ↓DL.rEq, ↓DL.rNe, ↓DL.rIsN, ↓DL.rNotN, ↓DL.isN, ↓DL.cmp, ↓DL.rIn, ↓DL.rNotIn, ↓DL.rInB, ↓DL.rIx, ↓DL.rSl, ↓DL.rLen, ↓DL.rAbs, ↓DL.rMax2, ↓DL.rMin2, ↓DL.rInt1, ↓DL.rStr1, ↓DL.rDivmod, ↓DL.rListF, ↓DL.rListM, ↓DL.rTuple, ↓DL.rAll, ↓DL.rAny, ↓DL.rSum, ↓DL.rMaxL, ↓DL.rMinL, ↓DL.rIsi, ↓DL.rRepr, ↓DL.rSetD, ↓DL.itemsD, ↓DL.lstD, DL.slots, DL.dWipe, DL.rs_non, DL.rs_bl, DL.rs_i, DL.rs_s, DL.rs_ty, DL.rs_t, DL.rs_l, DL.rs_k, DL.rs_d, DL.rs_in, DL.rs_c, DL.rs_upl, DL.rs_upd, DL.rs_upi, DL.okQ, DL.isS, DL.okN_int, DL.okN_bl, DL.okN_non, DL.deq_ii, DL.okN_ii, DL.deq_int, DL.deq_bl, DL.deq_str, DL.tysB_bool, DL.tysB_int, DL.tysB_str, DL.tysB_tuple, DL.tysB_list, DL.tysB_dict, DL.isT_NoneType_bool, DL.isT_NoneType_int, DL.isT_NoneType_str, DL.isT_NoneType_tuple, DL.isT_NoneType_list, DL.isT_NoneType_dict, DL.isT_bool_bool, DL.isT_bool_int, DL.isT_bool_str, DL.isT_bool_tuple, DL.isT_bool_list, DL.isT_bool_dict, DL.isT_int_bool, DL.isT_int_int, DL.isT_int_str, DL.isT_int_tuple, DL.isT_int_list, DL.isT_int_dict, DL.isT_str_bool, DL.isT_str_int, DL.isT_str_str, DL.isT_str_tuple, DL.isT_str_list, DL.isT_str_dict, DL.isT_tuple_bool, DL.isT_tuple_int, DL.isT_tuple_str, DL.isT_tuple_tuple, DL.isT_tuple_list, DL.isT_tuple_dict, DL.isT_list_bool, DL.isT_list_int, DL.isT_list_str, DL.isT_list_tuple, DL.isT_list_list, DL.isT_list_dict, DL.isT_dict_bool, DL.isT_dict_int, DL.isT_dict_str, DL.isT_dict_tuple, DL.isT_dict_list, DL.isT_dict_dict, true_and, and_true, eq_self, Bool.or_true, Bool.true_or, Bool.or_false, Bool.false_or, Bool.and_true, Bool.true_and, Bool.and_false, Bool.false_and, Bool.false_eq_true, ↓reduceIte, decide_true, decide_false, DL.tyD, DL.kyD, DL.atD, DL.atI_0, DL.atI_1, DL.atI_2, DL.atI_3, DL.atI_4, DL.atI_5, DL.atI_6, DL.atI_7, DL.atI_8, DL.atI_9, DL.atI_10, DL.atI_11, DL.atI_12, DL.ixN_0, DL.ixN_1, DL.upG_same, DL.upG_upG, List.getElem?_cons_zero, List.getElem?_cons_succ, List.cons_append, List.nil_append, Nat.add_one_sub_one, Nat.reduceAdd, Nat.reduceSub, List.length_cons, List.length_nil, decide_eq_true_eq, Bool.not_true, Bool.not_false, List.replicate_succ, List.replicate_zero, List.set_cons_zero, List.set_cons_succ, List.map_cons, List.map_nil, rd__law_among]
  refine ⟨a, _, rfl, hp, by omega, .range (by omega) (Int.lt_of_lt_of_le (b := 1001) (by omega) (by decide)), fun r G' hr hl hs => ?_⟩
  obtain ⟨x, hx, ex⟩ := atI_of hr hl
  simp -dsimp only [↓DL.thn_nx, ↓DL.thn_rt, ↓DL.thn_ex, ↓DL.thn_bk, ↓DL.thn_ct, ↓DL.trn_nx, ↓DL.trn_rt, ↓DL.trn_ex, ↓DL.trn_bk, ↓DL.trn_ct, DL.Br_true, DL.Br_false, ↓DL.dSeq, ↓DL.dNext, ↓DL.dPass, ↓DL.dBrk, ↓DL.dCnt, ↓DL.dDrop, ↓DL.dRet, ↓DL.dRetN, ↓DL.dIfS, ↓DL.gdName, ↓DL.gdNil, ↓DL.gdCons, ↓DL.gdTup, ↓DL.gdSub, ↓DL.dAsg, ↓DL.dPar, ↓DL.dVar, ↓DL.dC, ↓DL.dUn, ↓DL.dBin, ↓DL.dTest, ↓DL.dNot, ↓DL.dAnd, ↓DL.dOr, ↓DL.dVal, ↓DL.dAndV, ↓DL.dOrV, ↓DL.dNotV, ↓DL.dIf, ↓DL.dNil, ↓DL.dCons, ↓DL.dChain, ↓DL.dTup, ↓DL.dLst, ↓DL.dLstM, ↓DL.dCB, ↓DL.dFor, ↓DL.dLc, ↓DL.dLcM, ↓DL.lcLoop, ↓DL.dYes, ↓DL.diVal, ↓DL.diRng1, ↓DL.diRng2, ↓DL.diEnum, ↓DL.diZip, ↓DL.walkD, ↓DL.dCall, ↓DL.dSl, ↓DL.dDct0, ↓DL.dDctM0, ↓DL.rII, ↓DL.rLt, ↓DL.rLe, ↓DL.rGt, ↓DL.rGe, ↓DL.rSub, ↓DL.rMul, ↓DL.rDivP, ↓DL.rDiv, ↓DL.rModP, ↓DL.rPow, ↓DL.rNeg, ↓DL.rAdd, ↓DL.rEq, ↓DL.rNe, ↓DL.rIsN, ↓DL.rNotN, ↓DL.isN, ↓DL.cmp, ↓DL.rIn, ↓DL.rNotIn, ↓DL.rInB, ↓DL.rIx, ↓DL.rSl, ↓DL.rLen, ↓DL.rAbs, ↓DL.rMax2, ↓DL.rMin2, ↓DL.rInt1, ↓DL.rStr1, ↓DL.rDivmod, ↓DL.rListF, ↓DL.rListM, ↓DL.rTuple, ↓DL.rAll, ↓DL.rAny, ↓DL.rSum, ↓DL.rMaxL, ↓DL.rMinL, ↓DL.rIsi, ↓DL.rRepr, ↓DL.rSetD, ↓DL.itemsD, ↓DL.lstD, DL.slots, DL.dWipe, DL.rs_non, DL.rs_bl, DL.rs_i, DL.rs_s, DL.rs_ty, DL.rs_t, DL.rs_l, DL.rs_k, DL.rs_d, DL.rs_in, DL.rs_c, DL.rs_upl, DL.rs_upd, DL.rs_upi, DL.okQ, DL.isS, DL.okN_int, DL.okN_bl, DL.okN_non, DL.deq_ii, DL.okN_ii, DL.deq_int, DL.deq_bl, DL.deq_str, DL.tysB_bool, DL.tysB_int, DL.tysB_str, DL.tysB_tuple, DL.tysB_list, DL.tysB_dict, DL.isT_NoneType_bool, DL.isT_NoneType_int, DL.isT_NoneType_str, DL.isT_NoneType_tuple, DL.isT_NoneType_list, DL.isT_NoneType_dict, DL.isT_bool_bool, DL.isT_bool_int, DL.isT_bool_str, DL.isT_bool_tuple, DL.isT_bool_list, DL.isT_bool_dict, DL.isT_int_bool, DL.isT_int_int, DL.isT_int_str, DL.isT_int_tuple, DL.isT_int_list, DL.isT_int_dict, DL.isT_str_bool, DL.isT_str_int, DL.isT_str_str, DL.isT_str_tuple, DL.isT_str_list, DL.isT_str_dict, DL.isT_tuple_bool, DL.isT_tuple_int, DL.isT_tuple_str, DL.isT_tuple_tuple, DL.isT_tuple_list, DL.isT_tuple_dict, DL.isT_list_bool, DL.isT_list_int, DL.isT_list_str, DL.isT_list_tuple, DL.isT_list_list, DL.isT_list_dict, DL.isT_dict_bool, DL.isT_dict_int, DL.isT_dict_str, DL.isT_dict_tuple, DL.isT_dict_list, DL.isT_dict_dict, true_and, and_true, eq_self, Bool.or_true, Bool.true_or, Bool.or_false, Bool.false_or, Bool.and_true, Bool.true_and, Bool.and_false, Bool.false_and, Bool.false_eq_true, ↓reduceIte, decide_true, decide_false, DL.tyD, DL.kyD, DL.atD, DL.atI_0, DL.atI_1, DL.atI_2, DL.atI_3, DL.atI_4, DL.atI_5, DL.atI_6, DL.atI_7, DL.atI_8, DL.atI_9, DL.atI_10, DL.atI_11, DL.atI_12, DL.ixN_0, DL.ixN_1, DL.upG_same, DL.upG_upG, List.getElem?_cons_zero, List.getElem?_cons_succ, List.cons_append, List.nil_append, Nat.add_one_sub_one, Nat.reduceAdd, Nat.reduceSub, List.length_cons, List.length_nil, decide_eq_true_eq, Bool.not_true, Bool.not_false, List.replicate_succ, List.replicate_zero, List.set_cons_zero, List.set_cons_succ, List.map_cons, List.map_nil, ex]
  exact be_rt (h x hx G' hs)
/-- a whole number of the draws -/
def sp__law_whole : DSp := fun ds G Q _ => ∃ a : Addr, ds = [.ref a] ∧ Pot G a ∧ ∀ z G', Bd 110 z → PotS a G G' → Q (.int z) G'
theorem ok__law_whole : ∀ ds G Q E, sp__law_whole ds G Q E → rd__law_whole sp__law_take (bodyEnds Q E) (slots N__law_whole ds) G := by
  rintro ds G Q E ⟨a, rfl, hp, h⟩
  rw [sl__law_whole]
  simp -dsimp only [↓DL.thn_nx, ↓DL.thn_rt, ↓DL.thn_ex, ↓DL.thn_bk, ↓DL.thn_ct, ↓DL.trn_nx, ↓DL.trn_rt, ↓DL.trn_ex, ↓DL.trn_bk, ↓DL.trn_ct, DL.Br_true, DL.Br_false, ↓DL.dSeq, ↓DL.dNext, ↓DL.dPass, ↓DL.dBrk, ↓DL.dCnt, ↓DL.dDrop, ↓DL.dRet, ↓DL.dRetN, ↓DL.dIfS, ↓DL.gdName, ↓DL.gdNil, ↓DL.gdCons, ↓DL.gdTup, ↓DL.gdSub, ↓DL.dAsg, ↓DL.dPar, ↓DL.dVar, ↓DL.dC, ↓DL.dUn, ↓DL.dBin, ↓DL.dTest, ↓DL.dNot, ↓DL.dAnd, ↓DL.dOr, ↓DL.dVal, ↓DL.dAndV, ↓DL.dOrV, ↓DL.dNotV, ↓DL.dIf, ↓DL.dNil, ↓DL.dCons, ↓DL.dChain, ↓DL.dTup, ↓DL.dLst, ↓DL.dLstM, ↓DL.dCB, ↓DL.dFor, ↓DL.dLc, ↓DL.dLcM, ↓DL.lcLoop, ↓DL.dYes, ↓DL.diVal, ↓DL.diRng1, ↓DL.diRng2, ↓DL.diEnum, ↓DL.diZip, ↓DL.walkD, ↓DL.dCall, ↓DL.dSl, ↓DL.dDct0, ↓DL.dDctM0, ↓DL.rII, ↓DL.rLt, ↓DL.rLe, ↓DL.rGt, ↓DL.rGe, ↓DL.rSub, ↓DL.rMul, ↓DL.rDivP, ↓DL.rDiv, ↓DL.rModP, ↓DL.rPow, ↓DL.rNeg, ↓DL.rAdd, ↓DL.rEq, ↓DL.rNe, ↓DL.rIsN, ↓DL.rNotN, ↓DL.isN, ↓DL.cmp, ↓DL.rIn, ↓DL.rNotIn, ↓DL.rInB, ↓DL.rIx, ↓DL.rSl, ↓DL.rLen, ↓DL.rAbs, ↓DL.rMax2, ↓DL.rMin2, ↓DL.rInt1, ↓DL.rStr1, ↓DL.rDivmod, ↓DL.rListF, ↓DL.rListM, ↓DL.rTuple, ↓DL.rAll, ↓DL.rAny, ↓DL.rSum, ↓DL.rMaxL, ↓DL.rMinL, ↓DL.rIsi, ↓DL.rRepr, ↓DL.rSetD, ↓DL.itemsD, ↓DL.lstD, DL.slots, DL.dWipe, DL.rs_non, DL.rs_bl, DL.rs_i, DL.rs_s, DL.rs_ty, DL.rs_t, DL.rs_l, DL.rs_k, DL.rs_d, DL.rs_in, DL.rs_c, DL.rs_upl, DL.rs_upd, DL.rs_upi, DL.okQ, DL.isS, DL.okN_int, DL.okN_bl, DL.okN_non, DL.deq_ii, DL.okN_ii, DL.deq_int, DL.deq_bl, DL.deq_str, DL.tysB_bool, DL.tysB_int, DL.tysB_str, DL.tysB_tuple, DL.tysB_list, DL.tysB_dict, DL.isT_NoneType_bool, DL.isT_NoneType_int, DL.isT_NoneType_str, DL.isT_NoneType_tuple, DL.isT_NoneType_list, DL.isT_NoneType_dict, DL.isT_bool_bool, DL.isT_bool_int, DL.isT_bool_str, DL.isT_bool_tuple, DL.isT_bool_list, DL.isT_bool_dict, DL.isT_int_bool, DL.isT_int_int, DL.isT_int_str, DL.isT_int_tuple, DL.isT_int_list, DL.isT_int_dict, DL.isT_str_bool, DL.isT_str_int, DL.isT_str_str, DL.isT_str_tuple, DL.isT_str_list, DL.isT_str_dict, DL.isT_tuple_bool, DL.isT_tuple_int, DL.isT_tuple_str, DL.isT_tuple_tuple, DL.isT_tuple_list, DL.isT_tuple_dict, DL.isT_list_bool, DL.isT_list_int, DL.isT_list_str, DL.isT_list_tuple, DL.isT_list_list, DL.isT_list_dict, DL.isT_dict_bool, DL.isT_dict_int, DL.isT_dict_str, DL.isT_dict_tuple, DL.isT_dict_list, DL.isT_dict_dict, true_and, and_true, eq_self, Bool.or_true, Bool.true_or, Bool.or_false, Bool.false_or, Bool.and_true, Bool.true_and, Bool.and_false, Bool.false_and, Bool.false_eq_true, ↓reduceIte, decide_true, decide_false, DL.tyD, DL.kyD, DL.atD, DL.atI_0, DL.atI_1, DL.atI_2, DL.atI_3, DL.atI_4, DL.atI_5, DL.atI_6, DL.atI_7, DL.atI_8, DL.atI_9, DL.atI_10, DL.atI_11, DL.atI_12, DL.ixN_0, DL.ixN_1, DL.upG_same, DL.upG_upG, List.getElem?_cons_zero, List.getElem?_cons_succ, List.cons_append, List.nil_append, Nat.add_one_sub_one, Nat.reduceAdd, Nat.reduceSub, List.length_cons, List.length_nil, decide_eq_true_eq, Bool.not_true, Bool.not_false, List.replicate_succ, List.replicate_zero, List.set_cons_zero, List.set_cons_succ, List.map_cons, List.map_nil, rd__law_whole]
  refine ⟨a, 30, rfl, hp, by decide, .lit, fun r1 G1 h1 k1 s1 => ?_⟩
  simp -dsimp only [↓DL.thn_nx, ↓DL.thn_rt, ↓DL.thn_ex, ↓DL.thn_bk, ↓DL.thn_ct, ↓DL.trn_nx, ↓DL.trn_rt, ↓DL.trn_ex, ↓DL.trn_bk, ↓DL.trn_ct, DL.Br_true, DL.Br_false, ↓DL.dSeq, ↓DL.dNext, ↓DL.dPass, ↓DL.dBrk, ↓DL.dCnt, ↓DL.dDrop, ↓DL.dRet, ↓DL.dRetN, ↓DL.dIfS, ↓DL.gdName, ↓DL.gdNil, ↓DL.gdCons, ↓DL.gdTup, ↓DL.gdSub, ↓DL.dAsg, ↓DL.dPar, ↓DL.dVar, ↓DL.dC, ↓DL.dUn, ↓DL.dBin, ↓DL.dTest, ↓DL.dNot, ↓DL.dAnd, ↓DL.dOr, ↓DL.dVal, ↓DL.dAndV, ↓DL.dOrV, ↓DL.dNotV, ↓DL.dIf, ↓DL.dNil, ↓DL.dCons, ↓DL.dChain, ↓DL.dTup, ↓DL.dLst, ↓DL.dLstM, ↓DL.dCB, ↓DL.dFor, ↓DL.dLc, ↓DL.dLcM, ↓DL.lcLoop, ↓DL.dYes, ↓DL.diVal, ↓DL.diRng1, ↓DL.diRng2, ↓DL.diEnum, ↓DL.diZip, ↓DL.walkD, ↓DL.dCall, ↓DL.dSl, ↓DL.dDct0, ↓DL.dDctM0, ↓DL.rII, ↓DL.rLt, ↓DL.rLe, ↓DL.rGt, ↓DL.rGe, ↓DL.rSub, ↓DL.rMul, ↓DL.rDivP, ↓DL.rDiv, ↓DL.rModP, ↓DL.rPow, ↓DL.rNeg, ↓DL.rAdd, ↓DL.rEq, ↓DL.rNe, ↓DL.rIsN, ↓DL.rNotN, ↓DL.isN, ↓DL.cmp, ↓DL.rIn, ↓DL.rNotIn, ↓DL.rInB, ↓DL.rIx, ↓DL.rSl, ↓DL.rLen, ↓DL.rAbs, ↓DL.rMax2, ↓DL.rMin2, ↓DL.rInt1, ↓DL.rStr1, ↓DL.rDivmod, ↓DL.rListF, ↓DL.rListM, ↓DL.rTuple, ↓DL.rAll, ↓DL.rAny, ↓DL.rSum, ↓DL.rMaxL, ↓DL.rMinL, ↓DL.rIsi, ↓DL.rRepr, ↓DL.rSetD, ↓DL.itemsD, ↓DL.lstD, DL.slots, DL.dWipe, DL.rs_non, DL.rs_bl, DL.rs_i, DL.rs_s, DL.rs_ty, DL.rs_t, DL.rs_l, DL.rs_k, DL.rs_d, DL.rs_in, DL.rs_c, DL.rs_upl, DL.rs_upd, DL.rs_upi, DL.okQ, DL.isS, DL.okN_int, DL.okN_bl, DL.okN_non, DL.deq_ii, DL.okN_ii, DL.deq_int, DL.deq_bl, DL.deq_str, DL.tysB_bool, DL.tysB_int, DL.tysB_str, DL.tysB_tuple, DL.tysB_list, DL.tysB_dict, DL.isT_NoneType_bool, DL.isT_NoneType_int, DL.isT_NoneType_str, DL.isT_NoneType_tuple, DL.isT_NoneType_list, DL.isT_NoneType_dict, DL.isT_bool_bool, DL.isT_bool_int, DL.isT_bool_str, DL.isT_bool_tuple, DL.isT_bool_list, DL.isT_bool_dict, DL.isT_int_bool, DL.isT_int_int, DL.isT_int_str, DL.isT_int_tuple, DL.isT_int_list, DL.isT_int_dict, DL.isT_str_bool, DL.isT_str_int, DL.isT_str_str, DL.isT_str_tuple, DL.isT_str_list, DL.isT_str_dict, DL.isT_tuple_bool, DL.isT_tuple_int, DL.isT_tuple_str, DL.isT_tuple_tuple, DL.isT_tuple_list, DL.isT_tuple_dict, DL.isT_list_bool, DL.isT_list_int, DL.isT_list_str, DL.isT_list_tuple, DL.isT_list_list, DL.isT_list_dict, DL.isT_dict_bool, DL.isT_dict_int, DL.isT_dict_str, DL.isT_dict_tuple, DL.isT_dict_list, DL.isT_dict_dict, true_and, and_true, eq_self, Bool.or_true, Bool.true_or, Bool.or_false, Bool.false_or, Bool.and_true, Bool.true_and, Bool.and_false, Bool.false_and, Bool.false_eq_true, ↓reduceIte, decide_true, decide_false, DL.tyD, DL.kyD, DL.atD, DL.atI_0, DL.atI_1, DL.atI_2, DL.atI_3, DL.atI_4, DL.atI_5, DL.atI_6, DL.atI_7, DL.atI_8, DL.atI_9, DL.atI_10, DL.atI_11, DL.atI_12, DL.ixN_0, DL.ixN_1, DL.upG_same, DL.upG_upG, List.getElem?_cons_zero, List.getElem?_cons_succ, List.cons_append, List.nil_append, Nat.add_one_sub_one, Nat.reduceAdd, Nat.reduceSub, List.length_cons, List.length_nil, decide_eq_true_eq, Bool.not_true, Bool.not_false, List.replicate_succ, List.replicate_zero, List.set_cons_zero, List.set_cons_succ, List.map_cons, List.map_nil]
  refine ⟨a, 400, rfl, s1.pot, by decide, .lit, fun r2 G2 h2 k2 s2 => ?_⟩
  simp -dsimp only [↓DL.thn_nx, ↓DL.thn_rt, ↓DL.thn_ex, ↓DL.thn_bk, ↓DL.thn_ct, ↓DL.trn_nx, ↓DL.trn_rt, ↓DL.trn_ex, ↓DL.trn_bk, ↓DL.trn_ct, DL.Br_true, DL.Br_false, ↓DL.dSeq, ↓DL.dNext, ↓DL.dPass, ↓DL.dBrk, ↓DL.dCnt, ↓DL.dDrop, ↓DL.dRet, ↓DL.dRetN, ↓DL.dIfS, ↓DL.gdName, ↓DL.gdNil, ↓DL.gdCons, ↓DL.gdTup, ↓DL.gdSub, ↓DL.dAsg, ↓DL.dPar, ↓DL.dVar, ↓DL.dC, ↓DL.dUn, ↓DL.dBin, ↓DL.dTest, ↓DL.dNot, ↓DL.dAnd, ↓DL.dOr, ↓DL.dVal, ↓DL.dAndV, ↓DL.dOrV, ↓DL.dNotV, ↓DL.dIf, ↓DL.dNil, ↓DL.dCons, ↓DL.dChain, ↓DL.dTup, ↓DL.dLst, ↓DL.dLstM, ↓DL.dCB, ↓DL.dFor, ↓DL.dLc, ↓DL.dLcM, ↓DL.lcLoop, ↓DL.dYes, ↓DL.diVal, ↓DL.diRng1, ↓DL.diRng2, ↓DL.diEnum, ↓DL.diZip, ↓DL.walkD, ↓DL.dCall, ↓DL.dSl, ↓DL.dDct0, ↓DL.dDctM0, ↓DL.rII, ↓DL.rLt, ↓DL.rLe, ↓DL.rGt, ↓DL.rGe, ↓DL.rSub, ↓DL.rMul, ↓DL.rDivP, ↓DL.rDiv, ↓DL.rModP, ↓DL.rPow, ↓DL.rNeg, ↓DL.rAdd, ↓DL.rEq, ↓DL.rNe, ↓DL.rIsN, ↓DL.rNotN, ↓DL.isN, ↓DL.cmp, ↓DL.rIn, ↓DL.rNotIn, ↓DL.rInB, ↓DL.rIx, ↓DL.rSl, ↓DL.rLen, ↓DL.rAbs, ↓DL.rMax2, ↓DL.rMin2, ↓DL.rInt1, ↓DL.rStr1, ↓DL.rDivmod, ↓DL.rListF, ↓DL.rListM, ↓DL.rTuple, ↓DL.rAll, ↓DL.rAny, ↓DL.rSum, ↓DL.rMaxL, ↓DL.rMinL, ↓DL.rIsi, ↓DL.rRepr, ↓DL.rSetD, ↓DL.itemsD, ↓DL.lstD, DL.slots, DL.dWipe, DL.rs_non, DL.rs_bl, DL.rs_i, DL.rs_s, DL.rs_ty, DL.rs_t, DL.rs_l, DL.rs_k, DL.rs_d, DL.rs_in, DL.rs_c, DL.rs_upl, DL.rs_upd, DL.rs_upi, DL.okQ, DL.isS, DL.okN_int, DL.okN_bl, DL.okN_non, DL.deq_ii, DL.okN_ii, DL.deq_int, DL.deq_bl, DL.deq_str, DL.tysB_bool, DL.tysB_int, DL.tysB_str, DL.tysB_tuple, DL.tysB_list, DL.tysB_dict, DL.isT_NoneType_bool, DL.isT_NoneType_int, DL.isT_NoneType_str, DL.isT_NoneType_tuple, DL.isT_NoneType_list, DL.isT_NoneType_dict, DL.isT_bool_bool, DL.isT_bool_int, DL.isT_bool_str, DL.isT_bool_tuple, DL.isT_bool_list, DL.isT_bool_dict, DL.isT_int_bool, DL.isT_int_int, DL.isT_int_str, DL.isT_int_tuple, DL.isT_int_list, DL.isT_int_dict, DL.isT_str_bool, DL.isT_str_int, DL.isT_str_str, DL.isT_str_tuple, DL.isT_str_list, DL.isT_str_dict, DL.isT_tuple_bool, DL.isT_tuple_int, DL.isT_tuple_str, DL.isT_tuple_tuple, DL.isT_tuple_list, DL.isT_tuple_dict, DL.isT_list_bool, DL.isT_list_int, DL.isT_list_str, DL.isT_list_tuple, DL.isT_list_list, DL.isT_list_dict, DL.isT_dict_bool, DL.isT_dict_int, DL.isT_dict_str, DL.isT_dict_tuple, DL.isT_dict_list, DL.isT_dict_dict, true_and, and_true, eq_self, Bool.or_true, Bool.true_or, Bool.or_false, Bool.false_or, Bool.and_true, Bool.true_and, Bool.and_false, Bool.false_and, Bool.false_eq_true, ↓reduceIte, decide_true, decide_false, DL.tyD, DL.kyD, DL.atD, DL.atI_0, DL.atI_1, DL.atI_2, DL.atI_3, DL.atI_4, DL.atI_5, DL.atI_6, DL.atI_7, DL.atI_8, DL.atI_9, DL.atI_10, DL.atI_11, DL.atI_12, DL.ixN_0, DL.ixN_1, DL.upG_same, DL.upG_upG, List.getElem?_cons_zero, List.getElem?_cons_succ, List.cons_append, List.nil_append, Nat.add_one_sub_one, Nat.reduceAdd, Nat.reduceSub, List.length_cons, List.length_nil, decide_eq_true_eq, Bool.not_true, Bool.not_false, List.replicate_succ, List.replicate_zero, List.set_cons_zero, List.set_cons_succ, List.map_cons, List.map_nil]
  refine ⟨by decide, Bd.mulOk (n := 2) (m := 110) .lit .lit (by decide), a, _, rfl, s2.pot, by decide, .lit, fun r3 G3 h3 k3 s3 => ?_⟩
  simp -dsimp only [↓DL.thn_nx, ↓DL.thn_rt, ↓DL.thn_ex, ↓DL.thn_bk, ↓DL.thn_ct, ↓DL.trn_nx, ↓DL.trn_rt, ↓DL.trn_ex, ↓DL.trn_bk, ↓DL.trn_ct, DL.Br_true, DL.Br_false, ↓DL.dSeq, ↓DL.dNext, ↓DL.dPass, ↓DL.dBrk, ↓DL.dCnt, ↓DL.dDrop, ↓DL.dRet, ↓DL.dRetN, ↓DL.dIfS, ↓DL.gdName, ↓DL.gdNil, ↓DL.gdCons, ↓DL.gdTup, ↓DL.gdSub, ↓DL.dAsg, ↓DL.dPar, ↓DL.dVar, ↓DL.dC, ↓DL.dUn, ↓DL.dBin, ↓DL.dTest, ↓DL.dNot, ↓DL.dAnd, ↓DL.dOr, ↓DL.dVal, ↓DL.dAndV, ↓DL.dOrV, ↓DL.dNotV, ↓DL.dIf, ↓DL.dNil, ↓DL.dCons, ↓DL.dChain, ↓DL.dTup, ↓DL.dLst, ↓DL.dLstM, ↓DL.dCB, ↓DL.dFor, ↓DL.dLc, ↓DL.dLcM, ↓DL.lcLoop, ↓DL.dYes, ↓DL.diVal, ↓DL.diRng1, ↓DL.diRng2, ↓DL.diEnum, ↓DL.diZip, ↓DL.walkD, ↓DL.dCall, ↓DL.dSl, ↓DL.dDct0, ↓DL.dDctM0, ↓DL.rII, ↓DL.rLt, ↓DL.rLe, ↓DL.rGt, ↓DL.rGe, ↓DL.rSub, ↓DL.rMul, ↓DL.rDivP, ↓DL.rDiv, ↓DL.rModP, ↓DL.rPow, ↓DL.rNeg, ↓DL.rAdd, ↓DL.rEq, ↓DL.rNe, ↓DL.rIsN, ↓DL.rNotN, ↓DL.isN, ↓DL.cmp, ↓DL.rIn, ↓DL.rNotIn, ↓DL.rInB, ↓DL.rIx, ↓DL.rSl, ↓DL.rLen, ↓DL.rAbs, ↓DL.rMax2, ↓DL.rMin2, ↓DL.rInt1, ↓DL.rStr1, ↓DL.rDivmod, ↓DL.rListF, ↓DL.rListM, ↓DL.rTuple, ↓DL.rAll, ↓DL.rAny, ↓DL.rSum, ↓DL.rMaxL, ↓DL.rMinL, ↓DL.rIsi, ↓DL.rRepr, ↓DL.rSetD, ↓DL.itemsD, ↓DL.lstD, DL.slots, DL.dWipe, DL.rs_non, DL.rs_bl, DL.rs_i, DL.rs_s, DL.rs_ty, DL.rs_t, DL.rs_l, DL.rs_k, DL.rs_d, DL.rs_in, DL.rs_c, DL.rs_upl, DL.rs_upd, DL.rs_upi, DL.okQ, DL.isS, DL.okN_int, DL.okN_bl, DL.okN_non, DL.deq_ii, DL.okN_ii, DL.deq_int, DL.deq_bl, DL.deq_str, DL.tysB_bool, DL.tysB_int, DL.tysB_str, DL.tysB_tuple, DL.tysB_list, DL.tysB_dict, DL.isT_NoneType_bool, DL.isT_NoneType_int, DL.isT_NoneType_str, DL.isT_NoneType_tuple, DL.isT_NoneType_list, DL.isT_NoneType_dict, DL.isT_bool_bool, DL.isT_bool_int, DL.isT_bool_str, DL.isT_bool_tuple, DL.isT_bool_list, DL.isT_bool_dict, DL.isT_int_bool, DL.isT_int_int, DL.isT_int_str, DL.isT_int_tuple, DL.isT_int_list, DL.isT_int_dict, DL.isT_str_bool, DL.isT_str_int, DL.isT_str_str, DL.isT_str_tuple, DL.isT_str_list, DL.isT_str_dict, DL.isT_tuple_bool, DL.isT_tuple_int, DL.isT_tuple_str, DL.isT_tuple_tuple, DL.isT_tuple_list, DL.isT_tuple_dict, DL.isT_list_bool, DL.isT_list_int, DL.isT_list_str, DL.isT_list_tuple, DL.isT_list_list, DL.isT_list_dict, DL.isT_dict_bool, DL.isT_dict_int, DL.isT_dict_str, DL.isT_dict_tuple, DL.isT_dict_list, DL.isT_dict_dict, true_and, and_true, eq_self, Bool.or_true, Bool.true_or, Bool.or_false, Bool.false_or, Bool.and_true, Bool.true_and, Bool.and_false, Bool.false_and, Bool.false_eq_true, ↓reduceIte, decide_true, decide_false, DL.tyD, DL.kyD, DL.atD, DL.atI_0, DL.atI_1, DL.atI_2, DL.atI_3, DL.atI_4, DL.atI_5, DL.atI_6, DL.atI_7, DL.atI_8, DL.atI_9, DL.atI_10, DL.atI_11, DL.atI_12, DL.ixN_0, DL.ixN_1, DL.upG_same, DL.upG_upG, List.getElem?_cons_zero, List.getElem?_cons_succ, List.cons_append, List.nil_append, Nat.add_one_sub_one, Nat.reduceAdd, Nat.reduceSub, List.length_cons, List.length_nil, decide_eq_true_eq, Bool.not_true, Bool.not_false, List.replicate_succ, List.replicate_zero, List.set_cons_zero, List.set_cons_succ, List.map_cons, List.map_nil]
  refine ⟨by decide, by decide, a, 6, rfl, s3.pot, by decide, .lit, fun r G4 hr kr s4 => ?_⟩
  simp -dsimp only [↓DL.thn_nx, ↓DL.thn_rt, ↓DL.thn_ex, ↓DL.thn_bk, ↓DL.thn_ct, ↓DL.trn_nx, ↓DL.trn_rt, ↓DL.trn_ex, ↓DL.trn_bk, ↓DL.trn_ct, DL.Br_true, DL.Br_false, ↓DL.dSeq, ↓DL.dNext, ↓DL.dPass, ↓DL.dBrk, ↓DL.dCnt, ↓DL.dDrop, ↓DL.dRet, ↓DL.dRetN, ↓DL.dIfS, ↓DL.gdName, ↓DL.gdNil, ↓DL.gdCons, ↓DL.gdTup, ↓DL.gdSub, ↓DL.dAsg, ↓DL.dPar, ↓DL.dVar, ↓DL.dC, ↓DL.dUn, ↓DL.dBin, ↓DL.dTest, ↓DL.dNot, ↓DL.dAnd, ↓DL.dOr, ↓DL.dVal, ↓DL.dAndV, ↓DL.dOrV, ↓DL.dNotV, ↓DL.dIf, ↓DL.dNil, ↓DL.dCons, ↓DL.dChain, ↓DL.dTup, ↓DL.dLst, ↓DL.dLstM, ↓DL.dCB, ↓DL.dFor, ↓DL.dLc, ↓DL.dLcM, ↓DL.lcLoop, ↓DL.dYes, ↓DL.diVal, ↓DL.diRng1, ↓DL.diRng2, ↓DL.diEnum, ↓DL.diZip, ↓DL.walkD, ↓DL.dCall, ↓DL.dSl, ↓DL.dDct0, ↓DL.dDctM0, ↓DL.rII, ↓DL.rLt, ↓DL.rLe, ↓DL.rGt, ↓DL.rGe, ↓DL.rSub, ↓DL.rMul, ↓DL.rDivP, ↓DL.rDiv, ↓DL.rModP, ↓DL.rPow, ↓DL.rNeg, ↓DL.rAdd, ↓DL.rEq, ↓DL.rNe, ↓DL.rIsN, ↓DL.rNotN, ↓DL.isN, ↓DL.cmp, ↓DL.rIn, ↓DL.rNotIn, ↓DL.rInB, ↓DL.rIx, ↓DL.rSl, ↓DL.rLen, ↓DL.rAbs, ↓DL.rMax2, ↓DL.rMin2, ↓DL.rInt1, ↓DL.rStr1, ↓DL.rDivmod, ↓DL.rListF, ↓DL.rListM, ↓DL.rTuple, ↓DL.rAll, ↓DL.rAny, ↓DL.rSum, ↓DL.rMaxL, ↓DL.rMinL, ↓DL.rIsi, ↓DL.rRepr, ↓DL.rSetD, ↓DL.itemsD, ↓DL.lstD, DL.slots, DL.dWipe, DL.rs_non, DL.rs_bl, DL.rs_i, DL.rs_s, DL.rs_ty, DL.rs_t, DL.rs_l, DL.rs_k, DL.rs_d, DL.rs_in, DL.rs_c, DL.rs_upl, DL.rs_upd, DL.rs_upi, DL.okQ, DL.isS, DL.okN_int, DL.okN_bl, DL.okN_non, DL.deq_ii, DL.okN_ii, DL.deq_int, DL.deq_bl, DL.deq_str, DL.tysB_bool, DL.tysB_int, DL.tysB_str, DL.tysB_tuple, DL.tysB_list, DL.tysB_dict, DL.isT_NoneType_bool, DL.isT_NoneType_int, DL.isT_NoneType_str, DL.isT_NoneType_tuple, DL.isT_NoneType_list, DL.isT_NoneType_dict, DL.isT_bool_bool, DL.isT_bool_int, DL.isT_bool_str, DL.isT_bool_tuple, DL.isT_bool_list, DL.isT_bool_dict, DL.isT_int_bool, DL.isT_int_int, DL.isT_int_str, DL.isT_int_tuple, DL.isT_int_list, DL.isT_int_dict, DL.isT_str_bool, DL.isT_str_int, DL.isT_str_str, DL.isT_str_tuple, DL.isT_str_list, DL.isT_str_dict, DL.isT_tuple_bool, DL.isT_tuple_int, DL.isT_tuple_str, DL.isT_tuple_tuple, DL.isT_tuple_list, DL.isT_tuple_dict, DL.isT_list_bool, DL.isT_list_int, DL.isT_list_str, DL.isT_list_tuple, DL.isT_list_list, DL.isT_list_dict, DL.isT_dict_bool, DL.isT_dict_int, DL.isT_dict_str, DL.isT_dict_tuple, DL.isT_dict_list, DL.isT_dict_dict, true_and, and_true, eq_self, Bool.or_true, Bool.true_or, Bool.or_false, Bool.false_or, Bool.and_true, Bool.true_and, Bool.and_false, Bool.false_and, Bool.false_eq_true, ↓reduceIte, decide_true, decide_false, DL.tyD, DL.kyD, DL.atD, DL.atI_0, DL.atI_1, DL.atI_2, DL.atI_3, DL.atI_4, DL.atI_5, DL.atI_6, DL.atI_7, DL.atI_8, DL.atI_9, DL.atI_10, DL.atI_11, DL.atI_12, DL.ixN_0, DL.ixN_1, DL.upG_same, DL.upG_upG, List.getElem?_cons_zero, List.getElem?_cons_succ, List.cons_append, List.nil_append, Nat.add_one_sub_one, Nat.reduceAdd, Nat.reduceSub, List.length_cons, List.length_nil, decide_eq_true_eq, Bool.not_true, Bool.not_false, List.replicate_succ, List.replicate_zero, List.set_cons_zero, List.set_cons_succ, List.map_cons, List.map_nil]
  have s14 := ((s1.trans s2).trans s3).trans s4
  have hs : r = 0 ∨ r = 1 ∨ r = 2 ∨ r = 3 ∨ r = 4 ∨ r = 5 := by omega
  rcases hs with rfl | rfl | rfl | rfl | rfl | rfl
  · simp -dsimp only [↓DL.thn_nx, ↓DL.thn_rt, ↓DL.thn_ex, ↓DL.thn_bk, ↓DL.thn_ct, ↓DL.trn_nx, ↓DL.trn_rt, ↓DL.trn_ex, ↓DL.trn_bk, ↓DL.trn_ct, DL.Br_true, DL.Br_false, ↓DL.dSeq, ↓DL.dNext, ↓DL.dPass, ↓DL.dBrk, ↓DL.dCnt, ↓DL.dDrop, ↓DL.dRet, ↓DL.dRetN, ↓DL.dIfS, ↓DL.gdName, ↓DL.gdNil, ↓DL.gdCons, ↓DL.gdTup, ↓DL.gdSub, ↓DL.dAsg, ↓DL.dPar, ↓DL.dVar, ↓DL.dC, ↓DL.dUn, ↓DL.dBin, ↓DL.dTest, ↓DL.dNot, ↓DL.dAnd, ↓DL.dOr, ↓DL.dVal, ↓DL.dAndV, ↓DL.dOrV, ↓DL.dNotV, ↓DL.dIf, ↓DL.dNil, ↓DL.dCons, ↓DL.dChain, ↓DL.dTup, ↓DL.dLst, ↓DL.dLstM, ↓DL.dCB, ↓DL.dFor, ↓DL.dLc, ↓DL.dLcM, ↓DL.lcLoop, ↓DL.dYes, ↓DL.diVal, ↓DL.diRng1, ↓DL.diRng2, ↓DL.diEnum, ↓DL.diZip, ↓DL.walkD, ↓DL.dCall, ↓DL.dSl, ↓DL.dDct0, ↓DL.dDctM0, ↓DL.rII, ↓DL.rLt, ↓DL.rLe, ↓DL.rGt, ↓DL.rGe, ↓DL.rSub, ↓DL.rMul, ↓DL.rDivP, ↓DL.rDiv, ↓DL.rModP, ↓DL.rPow, ↓DL.rNeg, ↓DL.rAdd, ↓DL.rEq, ↓DL.rNe, ↓DL.rIsN, ↓DL.rNotN, ↓DL.isN, ↓DL.cmp, ↓DL.rIn, ↓DL.rNotIn, ↓DL.rInB, ↓DL.rIx, ↓DL.rSl, ↓DL.rLen, ↓DL.rAbs, ↓DL.rMax2, ↓DL.rMin2, ↓DL.rInt1, ↓DL.rStr1, ↓DL.rDivmod, ↓DL.rListF, ↓DL.rListM, ↓DL.rTuple, ↓DL.rAll, ↓DL.rAny, ↓DL.rSum, ↓DL.rMaxL, ↓DL.rMinL, ↓DL.rIsi, ↓DL.rRepr, ↓DL.rSetD, ↓DL.itemsD, ↓DL.lstD, DL.slots, DL.dWipe, DL.rs_non, DL.rs_bl, DL.rs_i, DL.rs_s, DL.rs_ty, DL.rs_t, DL.rs_l, DL.rs_k, DL.rs_d, DL.rs_in, DL.rs_c, DL.rs_upl, DL.rs_upd, DL.rs_upi, DL.okQ, DL.isS, DL.okN_int, DL.okN_bl, DL.okN_non, DL.deq_ii, DL.okN_ii, DL.deq_int, DL.deq_bl, DL.deq_str, DL.tysB_bool, DL.tysB_int, DL.tysB_str, DL.tysB_tuple, DL.tysB_list, DL.tysB_dict, DL.isT_NoneType_bool, DL.isT_NoneType_int, DL.isT_NoneType_str, DL.isT_NoneType_tuple, DL.isT_NoneType_list, DL.isT_NoneType_dict, DL.isT_bool_bool, DL.isT_bool_int, DL.isT_bool_str, DL.isT_bool_tuple, DL.isT_bool_list, DL.isT_bool_dict, DL.isT_int_bool, DL.isT_int_int, DL.isT_int_str, DL.isT_int_tuple, DL.isT_int_list, DL.isT_int_dict, DL.isT_str_bool, DL.isT_str_int, DL.isT_str_str, DL.isT_str_tuple, DL.isT_str_list, DL.isT_str_dict, DL.isT_tuple_bool, DL.isT_tuple_int, DL.isT_tuple_str, DL.isT_tuple_tuple, DL.isT_tuple_list, DL.isT_tuple_dict, DL.isT_list_bool, DL.isT_list_int, DL.isT_list_str, DL.isT_list_tuple, DL.isT_list_list, DL.isT_list_dict, DL.isT_dict_bool, DL.isT_dict_int, DL.isT_dict_str, DL.isT_dict_tuple, DL.isT_dict_list, DL.isT_dict_dict, true_and, and_true, eq_self, Bool.or_true, Bool.true_or, Bool.or_false, Bool.false_or, Bool.and_true, Bool.true_and, Bool.and_false, Bool.false_and, Bool.false_eq_true, ↓reduceIte, decide_true, decide_false, DL.tyD, DL.kyD, DL.atD, DL.atI_0, DL.atI_1, DL.atI_2, DL.atI_3, DL.atI_4, DL.atI_5, DL.atI_6, DL.atI_7, DL.atI_8, DL.atI_9, DL.atI_10, DL.atI_11, DL.atI_12, DL.ixN_0, DL.ixN_1, DL.upG_same, DL.upG_upG, List.getElem?_cons_zero, List.getElem?_cons_succ, List.cons_append, List.nil_append, Nat.add_one_sub_one, Nat.reduceAdd, Nat.reduceSub, List.length_cons, List.length_nil, decide_eq_true_eq, Bool.not_true, Bool.not_false, List.replicate_succ, List.replicate_zero, List.set_cons_zero, List.set_cons_succ, List.map_cons, List.map_nil]
    exact be_rt (h _ _ .lit s14)
  · simp -dsimp only [↓DL.thn_nx, ↓DL.thn_rt, ↓DL.thn_ex, ↓DL.thn_bk, ↓DL.thn_ct, ↓DL.trn_nx, ↓DL.trn_rt, ↓DL.trn_ex, ↓DL.trn_bk, ↓DL.trn_ct, DL.Br_true, DL.Br_false, ↓DL.dSeq, ↓DL.dNext, ↓DL.dPass, ↓DL.dBrk, ↓DL.dCnt, ↓DL.dDrop, ↓DL.dRet, ↓DL.dRetN, ↓DL.dIfS, ↓DL.gdName, ↓DL.gdNil, ↓DL.gdCons, ↓DL.gdTup, ↓DL.gdSub, ↓DL.dAsg, ↓DL.dPar, ↓DL.dVar, ↓DL.dC, ↓DL.dUn, ↓DL.dBin, ↓DL.dTest, ↓DL.dNot, ↓DL.dAnd, ↓DL.dOr, ↓DL.dVal, ↓DL.dAndV, ↓DL.dOrV, ↓DL.dNotV, ↓DL.dIf, ↓DL.dNil, ↓DL.dCons, ↓DL.dChain, ↓DL.dTup, ↓DL.dLst, ↓DL.dLstM, ↓DL.dCB, ↓DL.dFor, ↓DL.dLc, ↓DL.dLcM, ↓DL.lcLoop, ↓DL.dYes, ↓DL.diVal, ↓DL.diRng1, ↓DL.diRng2, ↓DL.diEnum, ↓DL.diZip, ↓DL.walkD, ↓DL.dCall, ↓DL.dSl, ↓DL.dDct0, ↓DL.dDctM0, ↓DL.rII, ↓DL.rLt, ↓DL.rLe, ↓DL.rGt, ↓DL.rGe, ↓DL.rSub, ↓DL.rMul, ↓DL.rDivP, ↓DL.rDiv, ↓DL.rModP, ↓DL.rPow, ↓DL.rNeg, ↓DL.rAdd, ↓DL.rEq, ↓DL.rNe, ↓DL.rIsN, ↓DL.rNotN, ↓DL.isN, ↓DL.cmp, ↓DL.rIn, ↓DL.rNotIn, ↓DL.rInB, ↓DL.rIx, ↓DL.rSl, ↓DL.rLen, ↓DL.rAbs, ↓DL.rMax2, ↓DL.rMin2, ↓DL.rInt1, ↓DL.rStr1, ↓DL.rDivmod, ↓DL.rListF, ↓DL.rListM, ↓DL.rTuple, ↓DL.rAll, ↓DL.rAny, ↓DL.rSum, ↓DL.rMaxL, ↓DL.rMinL, ↓DL.rIsi, ↓DL.rRepr, ↓DL.rSetD, ↓DL.itemsD, ↓DL.lstD, DL.slots, DL.dWipe, DL.rs_non, DL.rs_bl, DL.rs_i, DL.rs_s, DL.rs_ty, DL.rs_t, DL.rs_l, DL.rs_k, DL.rs_d, DL.rs_in, DL.rs_c, DL.rs_upl, DL.rs_upd, DL.rs_upi, DL.okQ, DL.isS, DL.okN_int, DL.okN_bl, DL.okN_non, DL.deq_ii, DL.okN_ii, DL.deq_int, DL.deq_bl, DL.deq_str, DL.tysB_bool, DL.tysB_int, DL.tysB_str, DL.tysB_tuple, DL.tysB_list, DL.tysB_dict, DL.isT_NoneType_bool, DL.isT_NoneType_int, DL.isT_NoneType_str, DL.isT_NoneType_tuple, DL.isT_NoneType_list, DL.isT_NoneType_dict, DL.isT_bool_bool, DL.isT_bool_int, DL.isT_bool_str, DL.isT_bool_tuple, DL.isT_bool_list, DL.isT_bool_dict, DL.isT_int_bool, DL.isT_int_int, DL.isT_int_str, DL.isT_int_tuple, DL.isT_int_list, DL.isT_int_dict, DL.isT_str_bool, DL.isT_str_int, DL.isT_str_str, DL.isT_str_tuple, DL.isT_str_list, DL.isT_str_dict, DL.isT_tuple_bool, DL.isT_tuple_int, DL.isT_tuple_str, DL.isT_tuple_tuple, DL.isT_tuple_list, DL.isT_tuple_dict, DL.isT_list_bool, DL.isT_list_int, DL.isT_list_str, DL.isT_list_tuple, DL.isT_list_list, DL.isT_list_dict, DL.isT_dict_bool, DL.isT_dict_int, DL.isT_dict_str, DL.isT_dict_tuple, DL.isT_dict_list, DL.isT_dict_dict, true_and, and_true, eq_self, Bool.or_true, Bool.true_or, Bool.or_false, Bool.false_or, Bool.and_true, Bool.true_and, Bool.and_false, Bool.false_and, Bool.false_eq_true, ↓reduceIte, decide_true, decide_false, DL.tyD, DL.kyD, DL.atD, DL.atI_0, DL.atI_1, DL.atI_2, DL.atI_3, DL.atI_4, DL.atI_5, DL.atI_6, DL.atI_7, DL.atI_8, DL.atI_9, DL.atI_10, DL.atI_11, DL.atI_12, DL.ixN_0, DL.ixN_1, DL.upG_same, DL.upG_upG, List.getElem?_cons_zero, List.getElem?_cons_succ, List.cons_append, List.nil_append, Nat.add_one_sub_one, Nat.reduceAdd, Nat.reduceSub, List.length_cons, List.length_nil, decide_eq_true_eq, Bool.not_true, Bool.not_false, List.replicate_succ, List.replicate_zero, List.set_cons_zero, List.set_cons_succ, List.map_cons, List.map_nil]
    exact be_rt (h _ _ .lit s14)
  · simp -dsimp only [↓DL.thn_nx, ↓DL.thn_rt, ↓DL.thn_ex, ↓DL.thn_bk, ↓DL.thn_ct, ↓DL.trn_nx, ↓DL.trn_rt, ↓DL.trn_ex, ↓DL.trn_bk, ↓DL.trn_ct, DL.Br_true, DL.Br_false, ↓DL.dSeq, ↓DL.dNext, ↓DL.dPass, ↓DL.dBrk, ↓DL.dCnt, ↓DL.dDrop, ↓DL.dRet, ↓DL.dRetN, ↓DL.dIfS, ↓DL.gdName, ↓DL.gdNil, ↓DL.gdCons, ↓DL.gdTup, ↓DL.gdSub, ↓DL.dAsg, ↓DL.dPar, ↓DL.dVar, ↓DL.dC, ↓DL.dUn, ↓DL.dBin, ↓DL.dTest, ↓DL.dNot, ↓DL.dAnd, ↓DL.dOr, ↓DL.dVal, ↓DL.dAndV, ↓DL.dOrV, ↓DL.dNotV, ↓DL.dIf, ↓DL.dNil, ↓DL.dCons, ↓DL.dChain, ↓DL.dTup, ↓DL.dLst, ↓DL.dLstM, ↓DL.dCB, ↓DL.dFor, ↓DL.dLc, ↓DL.dLcM, ↓DL.lcLoop, ↓DL.dYes, ↓DL.diVal, ↓DL.diRng1, ↓DL.diRng2, ↓DL.diEnum, ↓DL.diZip, ↓DL.walkD, ↓DL.dCall, ↓DL.dSl, ↓DL.dDct0, ↓DL.dDctM0, ↓DL.rII, ↓DL.rLt, ↓DL.rLe, ↓DL.rGt, ↓DL.rGe, ↓DL.rSub, ↓DL.rMul, ↓DL.rDivP, ↓DL.rDiv, ↓DL.rModP, ↓DL.rPow, ↓DL.rNeg, ↓DL.rAdd, ↓DL.rEq, ↓DL.rNe, ↓DL.rIsN, ↓DL.rNotN, ↓DL.isN, ↓DL.cmp, ↓DL.rIn, ↓DL.rNotIn, ↓DL.rInB, ↓DL.rIx, ↓DL.rSl, ↓DL.rLen, ↓DL.rAbs, ↓DL.rMax2, ↓DL.rMin2, ↓DL.rInt1, ↓DL.rStr1, ↓DL.rDivmod, ↓DL.rListF, ↓DL.rListM, ↓DL.rTuple, ↓DL.rAll, ↓DL.rAny, ↓DL.rSum, ↓DL.rMaxL, ↓DL.rMinL, ↓DL.rIsi, ↓DL.rRepr, ↓DL.rSetD, ↓DL.itemsD, ↓DL.lstD, DL.slots, DL.dWipe, DL.rs_non, DL.rs_bl, DL.rs_i, DL.rs_s, DL.rs_ty, DL.rs_t, DL.rs_l, DL.rs_k, DL.rs_d, DL.rs_in, DL.rs_c, DL.rs_upl, DL.rs_upd, DL.rs_upi, DL.okQ, DL.isS, DL.okN_int, DL.okN_bl, DL.okN_non, DL.deq_ii, DL.okN_ii, DL.deq_int, DL.deq_bl, DL.deq_str, DL.tysB_bool, DL.tysB_int, DL.tysB_str, DL.tysB_tuple, DL.tysB_list, DL.tysB_dict, DL.isT_NoneType_bool, DL.isT_NoneType_int, DL.isT_NoneType_str, DL.isT_NoneType_tuple, DL.isT_NoneType_list, DL.isT_NoneType_dict, DL.isT_bool_bool, DL.isT_bool_int, DL.isT_bool_str, DL.isT_bool_tuple, DL.isT_bool_list, DL.isT_bool_dict, DL.isT_int_bool, DL.isT_int_int, DL.isT_int_str, DL.isT_int_tuple, DL.isT_int_list, DL.isT_int_dict, DL.isT_str_bool, DL.isT_str_int, DL.isT_str_str, DL.isT_str_tuple, DL.isT_str_list, DL.isT_str_dict, DL.isT_tuple_bool, DL.isT_tuple_int, DL.isT_tuple_str, DL.isT_tuple_tuple, DL.isT_tuple_list, DL.isT_tuple_dict, DL.isT_list_bool, DL.isT_list_int, DL.isT_list_str, DL.isT_list_tuple, DL.isT_list_list, DL.isT_list_dict, DL.isT_dict_bool, DL.isT_dict_int, DL.isT_dict_str, DL.isT_dict_tuple, DL.isT_dict_list, DL.isT_dict_dict, true_and, and_true, eq_self, Bool.or_true, Bool.true_or, Bool.or_false, Bool.false_or, Bool.and_true, Bool.true_and, Bool.and_false, Bool.false_and, Bool.false_eq_true, ↓reduceIte, decide_true, decide_false, DL.tyD, DL.kyD, DL.atD, DL.atI_0, DL.atI_1, DL.atI_2, DL.atI_3, DL.atI_4, DL.atI_5, DL.atI_6, DL.atI_7, DL.atI_8, DL.atI_9, DL.atI_10, DL.atI_11, DL.atI_12, DL.ixN_0, DL.ixN_1, DL.upG_same, DL.upG_upG, List.getElem?_cons_zero, List.getElem?_cons_succ, List.cons_append, List.nil_append, Nat.add_one_sub_one, Nat.reduceAdd, Nat.reduceSub, List.length_cons, List.length_nil, decide_eq_true_eq, Bool.not_true, Bool.not_false, List.replicate_succ, List.replicate_zero, List.set_cons_zero, List.set_cons_succ, List.map_cons, List.map_nil]
    exact be_rt (h _ _ .lit s14)
  · simp -dsimp only [↓DL.thn_nx, ↓DL.thn_rt, ↓DL.thn_ex, ↓DL.thn_bk, ↓DL.thn_ct, ↓DL.trn_nx, ↓DL.trn_rt, ↓DL.trn_ex, ↓DL.trn_bk, ↓DL.trn_ct, DL.Br_true, DL.Br_false, ↓DL.dSeq, ↓DL.dNext, ↓DL.dPass, ↓DL.dBrk, ↓DL.dCnt, ↓DL.dDrop, ↓DL.dRet, ↓DL.dRetN, ↓DL.dIfS, ↓DL.gdName, ↓DL.gdNil, ↓DL.gdCons, ↓DL.gdTup, ↓DL.gdSub, ↓DL.dAsg, ↓DL.dPar, ↓DL.dVar, ↓DL.dC, ↓DL.dUn, ↓DL.dBin, ↓DL.dTest, ↓DL.dNot, ↓DL.dAnd, ↓DL.dOr, ↓DL.dVal, ↓DL.dAndV, ↓DL.dOrV, ↓DL.dNotV, ↓DL.dIf, ↓DL.dNil, ↓DL.dCons, ↓DL.dChain, ↓DL.dTup, ↓DL.dLst, ↓DL.dLstM, ↓DL.dCB, ↓DL.dFor, ↓DL.dLc, ↓DL.dLcM, ↓DL.lcLoop, ↓DL.dYes, ↓DL.diVal, ↓DL.diRng1, ↓DL.diRng2, ↓DL.diEnum, ↓DL.diZip, ↓DL.walkD, ↓DL.dCall, ↓DL.dSl, ↓DL.dDct0, ↓DL.dDctM0, ↓DL.rII, ↓DL.rLt, ↓DL.rLe, ↓DL.rGt, ↓DL.rGe, ↓DL.rSub, ↓DL.rMul, ↓DL.rDivP, ↓DL.rDiv, ↓DL.rModP, ↓DL.rPow, ↓DL.rNeg, ↓DL.rAdd, ↓DL.rEq, ↓DL.rNe, ↓DL.rIsN, ↓DL.rNotN, ↓DL.isN, ↓DL.cmp, ↓DL.rIn, ↓DL.rNotIn, ↓DL.rInB, ↓DL.rIx, ↓DL.rSl, ↓DL.rLen, ↓DL.rAbs, ↓DL.rMax2, ↓DL.rMin2, ↓DL.rInt1, ↓DL.rStr1, ↓DL.rDivmod, ↓DL.rListF, ↓DL.rListM, ↓DL.rTuple, ↓DL.rAll, ↓DL.rAny, ↓DL.rSum, ↓DL.rMaxL, ↓DL.rMinL, ↓DL.rIsi, ↓DL.rRepr, ↓DL.rSetD, ↓DL.itemsD, ↓DL.lstD, DL.slots, DL.dWipe, DL.rs_non, DL.rs_bl, DL.rs_i, DL.rs_s, DL.rs_ty, DL.rs_t, DL.rs_l, DL.rs_k, DL.rs_d, DL.rs_in, DL.rs_c, DL.rs_upl, DL.rs_upd, DL.rs_upi, DL.okQ, DL.isS, DL.okN_int, DL.okN_bl, DL.okN_non, DL.deq_ii, DL.okN_ii, DL.deq_int, DL.deq_bl, DL.deq_str, DL.tysB_bool, DL.tysB_int, DL.tysB_str, DL.tysB_tuple, DL.tysB_list, DL.tysB_dict, DL.isT_NoneType_bool, DL.isT_NoneType_int, DL.isT_NoneType_str, DL.isT_NoneType_tuple, DL.isT_NoneType_list, DL.isT_NoneType_dict, DL.isT_bool_bool, DL.isT_bool_int, DL.isT_bool_str, DL.isT_bool_tuple, DL.isT_bool_list, DL.isT_bool_dict, DL.isT_int_bool, DL.isT_int_int, DL.isT_int_str, DL.isT_int_tuple, DL.isT_int_list, DL.isT_int_dict, DL.isT_str_bool, DL.isT_str_int, DL.isT_str_str, DL.isT_str_tuple, DL.isT_str_list, DL.isT_str_dict, DL.isT_tuple_bool, DL.isT_tuple_int, DL.isT_tuple_str, DL.isT_tuple_tuple, DL.isT_tuple_list, DL.isT_tuple_dict, DL.isT_list_bool, DL.isT_list_int, DL.isT_list_str, DL.isT_list_tuple, DL.isT_list_list, DL.isT_list_dict, DL.isT_dict_bool, DL.isT_dict_int, DL.isT_dict_str, DL.isT_dict_tuple, DL.isT_dict_list, DL.isT_dict_dict, true_and, and_true, eq_self, Bool.or_true, Bool.true_or, Bool.or_false, Bool.false_or, Bool.and_true, Bool.true_and, Bool.and_false, Bool.false_and, Bool.false_eq_true, ↓reduceIte, decide_true, decide_false, DL.tyD, DL.kyD, DL.atD, DL.atI_0, DL.atI_1, DL.atI_2, DL.atI_3, DL.atI_4, DL.atI_5, DL.atI_6, DL.atI_7, DL.atI_8, DL.atI_9, DL.atI_10, DL.atI_11, DL.atI_12, DL.ixN_0, DL.ixN_1, DL.upG_same, DL.upG_upG, List.getElem?_cons_zero, List.getElem?_cons_succ, List.cons_append, List.nil_append, Nat.add_one_sub_one, Nat.reduceAdd, Nat.reduceSub, List.length_cons, List.length_nil, decide_eq_true_eq, Bool.not_true, Bool.not_false, List.replicate_succ, List.replicate_zero, List.set_cons_zero, List.set_cons_succ, List.map_cons, List.map_nil]
    exact be_rt (h _ _ (Bd.mono (n := 12) (by unfold Bd; omega) (by decide)) s14)
  · simp -dsimp only [↓DL.thn_nx, ↓DL.thn_rt, ↓DL.thn_ex, ↓DL.thn_bk, ↓DL.thn_ct, ↓DL.trn_nx, ↓DL.trn_rt, ↓DL.trn_ex, ↓DL.trn_bk, ↓DL.trn_ct, DL.Br_true, DL.Br_false, ↓DL.dSeq, ↓DL.dNext, ↓DL.dPass, ↓DL.dBrk, ↓DL.dCnt, ↓DL.dDrop, ↓DL.dRet, ↓DL.dRetN, ↓DL.dIfS, ↓DL.gdName, ↓DL.gdNil, ↓DL.gdCons, ↓DL.gdTup, ↓DL.gdSub, ↓DL.dAsg, ↓DL.dPar, ↓DL.dVar, ↓DL.dC, ↓DL.dUn, ↓DL.dBin, ↓DL.dTest, ↓DL.dNot, ↓DL.dAnd, ↓DL.dOr, ↓DL.dVal, ↓DL.dAndV, ↓DL.dOrV, ↓DL.dNotV, ↓DL.dIf, ↓DL.dNil, ↓DL.dCons, ↓DL.dChain, ↓DL.dTup, ↓DL.dLst, ↓DL.dLstM, ↓DL.dCB, ↓DL.dFor, ↓DL.dLc, ↓DL.dLcM, ↓DL.lcLoop, ↓DL.dYes, ↓DL.diVal, ↓DL.diRng1, ↓DL.diRng2, ↓DL.diEnum, ↓DL.diZip, ↓DL.walkD, ↓DL.dCall, ↓DL.dSl, ↓DL.dDct0, ↓DL.dDctM0, ↓DL.rII, ↓DL.rLt, ↓DL.rLe, ↓DL.rGt, ↓DL.rGe, ↓DL.rSub, ↓DL.rMul, ↓DL.rDivP, ↓DL.rDiv, ↓DL.rModP, ↓DL.rPow, ↓DL.rNeg, ↓DL.rAdd, ↓DL.rEq, ↓DL.rNe, ↓DL.rIsN, ↓DL.rNotN, ↓DL.isN, ↓DL.cmp, ↓DL.rIn, ↓DL.rNotIn, ↓DL.rInB, ↓DL.rIx, ↓DL.rSl, ↓DL.rLen, ↓DL.rAbs, ↓DL.rMax2, ↓DL.rMin2, ↓DL.rInt1, ↓DL.rStr1, ↓DL.rDivmod, ↓DL.rListF, ↓DL.rListM, ↓DL.rTuple, ↓DL.rAll, ↓DL.rAny, ↓DL.rSum, ↓DL.rMaxL, ↓DL.rMinL, ↓DL.rIsi, ↓DL.rRepr, ↓DL.rSetD, ↓DL.itemsD, ↓DL.lstD, DL.slots, DL.dWipe, DL.rs_non, DL.rs_bl, DL.rs_i, DL.rs_s, DL.rs_ty, DL.rs_t, DL.rs_l, DL.rs_k, DL.rs_d, DL.rs_in, DL.rs_c, DL.rs_upl, DL.rs_upd, DL.rs_upi, DL.okQ, DL.isS, DL.okN_int, DL.okN_bl, DL.okN_non, DL.deq_ii, DL.okN_ii, DL.deq_int, DL.deq_bl, DL.deq_str, DL.tysB_bool, DL.tysB_int, DL.tysB_str, DL.tysB_tuple, DL.tysB_list, DL.tysB_dict, DL.isT_NoneType_bool, DL.isT_NoneType_int, DL.isT_NoneType_str, DL.isT_NoneType_tuple, DL.isT_NoneType_list, DL.isT_NoneType_dict, DL.isT_bool_bool, DL.isT_bool_int, DL.isT_bool_str, DL.isT_bool_tuple, DL.isT_bool_list, DL.isT_bool_dict, DL.isT_int_bool, DL.isT_int_int, DL.isT_int_str, DL.isT_int_tuple, DL.isT_int_list, DL.isT_int_dict, DL.isT_str_bool, DL.isT_str_int, DL.isT_str_str, DL.isT_str_tuple, DL.isT_str_list, DL.isT_str_dict, DL.isT_tuple_bool, DL.isT_tuple_int, DL.isT_tuple_str, DL.isT_tuple_tuple, DL.isT_tuple_list, DL.isT_tuple_dict, DL.isT_list_bool, DL.isT_list_int, DL.isT_list_str, DL.isT_list_tuple, DL.isT_list_list, DL.isT_list_dict, DL.isT_dict_bool, DL.isT_dict_int, DL.isT_dict_str, DL.isT_dict_tuple, DL.isT_dict_list, DL.isT_dict_dict, true_and, and_true, eq_self, Bool.or_true, Bool.true_or, Bool.or_false, Bool.false_or, Bool.and_true, Bool.true_and, Bool.and_false, Bool.false_and, Bool.false_eq_true, ↓reduceIte, decide_true, decide_false, DL.tyD, DL.kyD, DL.atD, DL.atI_0, DL.atI_1, DL.atI_2, DL.atI_3, DL.atI_4, DL.atI_5, DL.atI_6, DL.atI_7, DL.atI_8, DL.atI_9, DL.atI_10, DL.atI_11, DL.atI_12, DL.ixN_0, DL.ixN_1, DL.upG_same, DL.upG_upG, List.getElem?_cons_zero, List.getElem?_cons_succ, List.cons_append, List.nil_append, Nat.add_one_sub_one, Nat.reduceAdd, Nat.reduceSub, List.length_cons, List.length_nil, decide_eq_true_eq, Bool.not_true, Bool.not_false, List.replicate_succ, List.replicate_zero, List.set_cons_zero, List.set_cons_succ, List.map_cons, List.map_nil]
    exact be_rt (h _ _ (Bd.mono (n := 12) (by unfold Bd; omega) (by decide)) s14)
  · simp -dsimp only [↓DL.thn_nx, ↓DL.thn_rt, ↓DL.thn_ex, ↓DL.thn_bk, ↓DL.thn_ct, ↓DL.trn_nx, ↓DL.trn_rt, ↓DL.trn_ex, ↓DL.trn_bk, ↓DL.trn_ct, DL.Br_true, DL.Br_false, ↓DL.dSeq, ↓DL.dNext, ↓DL.dPass, ↓DL.dBrk, ↓DL.dCnt, ↓DL.dDrop, ↓DL.dRet, ↓DL.dRetN, ↓DL.dIfS, ↓DL.gdName, ↓DL.gdNil, ↓DL.gdCons, ↓DL.gdTup, ↓DL.gdSub, ↓DL.dAsg, ↓DL.dPar, ↓DL.dVar, ↓DL.dC, ↓DL.dUn, ↓DL.dBin, ↓DL.dTest, ↓DL.dNot, ↓DL.dAnd, ↓DL.dOr, ↓DL.dVal, ↓DL.dAndV, ↓DL.dOrV, ↓DL.dNotV, ↓DL.dIf, ↓DL.dNil, ↓DL.dCons, ↓DL.dChain, ↓DL.dTup, ↓DL.dLst, ↓DL.dLstM, ↓DL.dCB, ↓DL.dFor, ↓DL.dLc, ↓DL.dLcM, ↓DL.lcLoop, ↓DL.dYes, ↓DL.diVal, ↓DL.diRng1, ↓DL.diRng2, ↓DL.diEnum, ↓DL.diZip, ↓DL.walkD, ↓DL.dCall, ↓DL.dSl, ↓DL.dDct0, ↓DL.dDctM0, ↓DL.rII, ↓DL.rLt, ↓DL.rLe, ↓DL.rGt, ↓DL.rGe, ↓DL.rSub, ↓DL.rMul, ↓DL.rDivP, ↓DL.rDiv, ↓DL.rModP, ↓DL.rPow, ↓DL.rNeg, ↓DL.rAdd, ↓DL.rEq, ↓DL.rNe, ↓DL.rIsN, ↓DL.rNotN, ↓DL.isN, ↓DL.cmp, ↓DL.rIn, ↓DL.rNotIn, ↓DL.rInB, ↓DL.rIx, ↓DL.rSl, ↓DL.rLen, ↓DL.rAbs, ↓DL.rMax2, ↓DL.rMin2, ↓DL.rInt1, ↓DL.rStr1, ↓DL.rDivmod, ↓DL.rListF, ↓DL.rListM, ↓DL.rTuple, ↓DL.rAll, ↓DL.rAny, ↓DL.rSum, ↓DL.rMaxL, ↓DL.rMinL, ↓DL.rIsi, ↓DL.rRepr, ↓DL.rSetD, ↓DL.itemsD, ↓DL.lstD, DL.slots, DL.dWipe, DL.rs_non, DL.rs_bl, DL.rs_i, DL.rs_s, DL.rs_ty, DL.rs_t, DL.rs_l, DL.rs_k, DL.rs_d, DL.rs_in, DL.rs_c, DL.rs_upl, DL.rs_upd, DL.rs_upi, DL.okQ, DL.isS, DL.okN_int, DL.okN_bl, DL.okN_non, DL.deq_ii, DL.okN_ii, DL.deq_int, DL.deq_bl, DL.deq_str, DL.tysB_bool, DL.tysB_int, DL.tysB_str, DL.tysB_tuple, DL.tysB_list, DL.tysB_dict, DL.isT_NoneType_bool, DL.isT_NoneType_int, DL.isT_NoneType_str, DL.isT_NoneType_tuple, DL.isT_NoneType_list, DL.isT_NoneType_dict, DL.isT_bool_bool, DL.isT_bool_int, DL.isT_bool_str, DL.isT_bool_tuple, DL.isT_bool_list, DL.isT_bool_dict, DL.isT_int_bool, DL.isT_int_int, DL.isT_int_str, DL.isT_int_tuple, DL.isT_int_list, DL.isT_int_dict, DL.isT_str_bool, DL.isT_str_int, DL.isT_str_str, DL.isT_str_tuple, DL.isT_str_list, DL.isT_str_dict, DL.isT_tuple_bool, DL.isT_tuple_int, DL.isT_tuple_str, DL.isT_tuple_tuple, DL.isT_tuple_list, DL.isT_tuple_dict, DL.isT_list_bool, DL.isT_list_int, DL.isT_list_str, DL.isT_list_tuple, DL.isT_list_list, DL.isT_list_dict, DL.isT_dict_bool, DL.isT_dict_int, DL.isT_dict_str, DL.isT_dict_tuple, DL.isT_dict_list, DL.isT_dict_dict, true_and, and_true, eq_self, Bool.or_true, Bool.true_or, Bool.or_false, Bool.false_or, Bool.and_true, Bool.true_and, Bool.and_false, Bool.false_and, Bool.false_eq_true, ↓reduceIte, decide_true, decide_false, DL.tyD, DL.kyD, DL.atD, DL.atI_0, DL.atI_1, DL.atI_2, DL.atI_3, DL.atI_4, DL.atI_5, DL.atI_6, DL.atI_7, DL.atI_8, DL.atI_9, DL.atI_10, DL.atI_11, DL.atI_12, DL.ixN_0, DL.ixN_1, DL.upG_same, DL.upG_upG, List.getElem?_cons_zero, List.getElem?_cons_succ, List.cons_append, List.nil_append, Nat.add_one_sub_one, Nat.reduceAdd, Nat.reduceSub, List.length_cons, List.length_nil, decide_eq_true_eq, Bool.not_true, Bool.not_false, List.replicate_succ, List.replicate_zero, List.set_cons_zero, List.set_cons_succ, List.map_cons, List.map_nil]
    refine be_rt (h _ _ (Bd.mono (n := 105) ?_ (by decide)) s14)
    have e : (10 : Int) ^ Int.toNat 30 = 1000000000000000000000000000000 := by decide
    rw [e] at k3 ⊢
    unfold Bd
    have : (2 : Nat) ^ 105 = 40564819207303340847894502572032 := by decide
    omega
/-- .. and one that is not 0 -/
def sp__law_lower : DSp := fun ds G Q _ => ∃ a : Addr, ds = [.ref a] ∧ Pot G a ∧ ∀ z G', Bd 110 z → z ≠ 0 → PotS a G G' → Q (.int z) G'
theorem ok__law_lower : ∀ ds G Q E, sp__law_lower ds G Q E → rd__law_lower sp__law_whole sp__law_take (bodyEnds Q E) (slots N__law_lower ds) G := by
  rintro ds G Q E ⟨a, rfl, hp, h⟩
  rw [sl__law_lower]
  simp -dsimp only [↓DL.thn_nx, ↓DL.thn_rt, ↓DL.thn_ex, ↓DL.thn_bk, ↓DL.thn_ct, ↓DL.trn_nx, ↓DL.trn_rt, ↓DL.trn_ex, ↓DL.trn_bk, ↓DL.trn_ct, DL.Br_true, DL.Br_false, ↓DL.dSeq, ↓DL.dNext, ↓DL.dPass, ↓DL.dBrk, ↓DL.dCnt, ↓DL.dDrop, ↓DL.dRet, ↓DL.dRetN, ↓DL.dIfS, ↓DL.gdName, ↓DL.gdNil, ↓DL.gdCons, ↓DL.gdTup, ↓DL.gdSub, ↓DL.dAsg, ↓DL.dPar, ↓DL.dVar, ↓DL.dC, ↓DL.dUn, ↓DL.dBin, ↓DL.dTest, ↓DL.dNot, ↓DL.dAnd, ↓DL.dOr, ↓DL.dVal, ↓DL.dAndV, ↓DL.dOrV, ↓DL.dNotV, ↓DL.dIf, ↓DL.dNil, ↓DL.dCons, ↓DL.dChain, ↓DL.dTup, ↓DL.dLst, ↓DL.dLstM, ↓DL.dCB, ↓DL.dFor, ↓DL.dLc, ↓DL.dLcM, ↓DL.lcLoop, ↓DL.dYes, ↓DL.diVal, ↓DL.diRng1, ↓DL.diRng2, ↓DL.diEnum, ↓DL.diZip, ↓DL.walkD, ↓DL.dCall, ↓DL.dSl, ↓DL.dDct0, ↓DL.dDctM0, ↓DL.rII, ↓DL.rLt, ↓DL.rLe, ↓DL.rGt, ↓DL.rGe, ↓DL.rSub, ↓DL.rMul, ↓DL.rDivP, ↓DL.rDiv, ↓DL.rModP, ↓DL.rPow, ↓DL.rNeg, ↓DL.rAdd, ↓DL.rEq, ↓DL.rNe, ↓DL.rIsN, ↓DL.rNotN, ↓DL.isN, ↓DL.cmp, ↓DL.rIn, ↓DL.rNotIn, ↓DL.rInB, ↓DL.rIx, ↓DL.rSl, ↓DL.rLen, ↓DL.rAbs, ↓DL.rMax2, ↓DL.rMin2, ↓DL.rInt1, ↓DL.rStr1, ↓DL.rDivmod, ↓DL.rListF, ↓DL.rListM, ↓DL.rTuple, ↓DL.rAll, ↓DL.rAny, ↓DL.rSum, ↓DL.rMaxL, ↓DL.rMinL, ↓DL.rIsi, ↓DL.rRepr, ↓DL.rSetD, ↓DL.itemsD, ↓DL.lstD, DL.slots, DL.dWipe, DL.rs_non, DL.rs_bl, DL.rs_i, DL.rs_s, DL.rs_ty, DL.rs_t, DL.rs_l, DL.rs_k, DL.rs_d, DL.rs_in, DL.rs_c, DL.rs_upl, DL.rs_upd, DL.rs_upi, DL.okQ, DL.isS, DL.okN_int, DL.okN_bl, DL.okN_non, DL.deq_ii, DL.okN_ii, DL.deq_int, DL.deq_bl, DL.deq_str, DL.tysB_bool, DL.tysB_int, DL.tysB_str, DL.tysB_tuple, DL.tysB_list, DL.tysB_dict, DL.isT_NoneType_bool, DL.isT_NoneType_int, DL.isT_NoneType_str, DL.isT_NoneType_tuple, DL.isT_NoneType_list, DL.isT_NoneType_dict, DL.isT_bool_bool, DL.isT_bool_int, DL.isT_bool_str, DL.isT_bool_tuple, DL.isT_bool_list, DL.isT_bool_dict, DL.isT_int_bool, DL.isT_int_int, DL.isT_int_str, DL.isT_int_tuple, DL.isT_int_list, DL.isT_int_dict, DL.isT_str_bool, DL.isT_str_int, DL.isT_str_str, DL.isT_str_tuple, DL.isT_str_list, DL.isT_str_dict, DL.isT_tuple_bool, DL.isT_tuple_int, DL.isT_tuple_str, DL.isT_tuple_tuple, DL.isT_tuple_list, DL.isT_tuple_dict, DL.isT_list_bool, DL.isT_list_int, DL.isT_list_str, DL.isT_list_tuple, DL.isT_list_list, DL.isT_list_dict, DL.isT_dict_bool, DL.isT_dict_int, DL.isT_dict_str, DL.isT_dict_tuple, DL.isT_dict_list, DL.isT_dict_dict, true_and, and_true, eq_self, Bool.or_true, Bool.true_or, Bool.or_false, Bool.false_or, Bool.and_true, Bool.true_and, Bool.and_false, Bool.false_and, Bool.false_eq_true, ↓reduceIte, decide_true, decide_false, DL.tyD, DL.kyD, DL.atD, DL.atI_0, DL.atI_1, DL.atI_2, DL.atI_3, DL.atI_4, DL.atI_5, DL.atI_6, DL.atI_7, DL.atI_8, DL.atI_9, DL.atI_10, DL.atI_11, DL.atI_12, DL.ixN_0, DL.ixN_1, DL.upG_same, DL.upG_upG, List.getElem?_cons_zero, List.getElem?_cons_succ, List.cons_append, List.nil_append, Nat.add_one_sub_one, Nat.reduceAdd, Nat.reduceSub, List.length_cons, List.length_nil, decide_eq_true_eq, Bool.not_true, Bool.not_false, List.replicate_succ, List.replicate_zero, List.set_cons_zero, List.set_cons_succ, List.map_cons, List.map_nil, rd__law_lower]
  refine ⟨a, rfl, hp, fun z G1 bz s1 => ?_⟩
  simp -dsimp only [↓DL.thn_nx, ↓DL.thn_rt, ↓DL.thn_ex, ↓DL.thn_bk, ↓DL.thn_ct, ↓DL.trn_nx, ↓DL.trn_rt, ↓DL.trn_ex, ↓DL.trn_bk, ↓DL.trn_ct, DL.Br_true, DL.Br_false, ↓DL.dSeq, ↓DL.dNext, ↓DL.dPass, ↓DL.dBrk, ↓DL.dCnt, ↓DL.dDrop, ↓DL.dRet, ↓DL.dRetN, ↓DL.dIfS, ↓DL.gdName, ↓DL.gdNil, ↓DL.gdCons, ↓DL.gdTup, ↓DL.gdSub, ↓DL.dAsg, ↓DL.dPar, ↓DL.dVar, ↓DL.dC, ↓DL.dUn, ↓DL.dBin, ↓DL.dTest, ↓DL.dNot, ↓DL.dAnd, ↓DL.dOr, ↓DL.dVal, ↓DL.dAndV, ↓DL.dOrV, ↓DL.dNotV, ↓DL.dIf, ↓DL.dNil, ↓DL.dCons, ↓DL.dChain, ↓DL.dTup, ↓DL.dLst, ↓DL.dLstM, ↓DL.dCB, ↓DL.dFor, ↓DL.dLc, ↓DL.dLcM, ↓DL.lcLoop, ↓DL.dYes, ↓DL.diVal, ↓DL.diRng1, ↓DL.diRng2, ↓DL.diEnum, ↓DL.diZip, ↓DL.walkD, ↓DL.dCall, ↓DL.dSl, ↓DL.dDct0, ↓DL.dDctM0, ↓DL.rII, ↓DL.rLt, ↓DL.rLe, ↓DL.rGt, ↓DL.rGe, ↓DL.rSub, ↓DL.rMul, ↓DL.rDivP, ↓DL.rDiv, ↓DL.rModP, ↓DL.rPow, ↓DL.rNeg, ↓DL.rAdd, ↓DL.rEq, ↓DL.rNe, ↓DL.rIsN, ↓DL.rNotN, ↓DL.isN, ↓DL.cmp, ↓DL.rIn, ↓DL.rNotIn, ↓DL.rInB, ↓DL.rIx, ↓DL.rSl, ↓DL.rLen, ↓DL.rAbs, ↓DL.rMax2, ↓DL.rMin2, ↓DL.rInt1, ↓DL.rStr1, ↓DL.rDivmod, ↓DL.rListF, ↓DL.rListM, ↓DL.rTuple, ↓DL.rAll, ↓DL.rAny, ↓DL.rSum, ↓DL.rMaxL, ↓DL.rMinL, ↓DL.rIsi, ↓DL.rRepr, ↓DL.rSetD, ↓DL.itemsD, ↓DL.lstD, DL.slots, DL.dWipe, DL.rs_non, DL.rs_bl, DL.rs_i, DL.rs_s, DL.rs_ty, DL.rs_t, DL.rs_l, DL.rs_k, DL.rs_d, DL.rs_in, DL.rs_c, DL.rs_upl, DL.rs_upd, DL.rs_upi, DL.okQ, DL.isS, DL.okN_int, DL.okN_bl, DL.okN_non, DL.deq_ii, DL.okN_ii, DL.deq_int, DL.deq_bl, DL.deq_str, DL.tysB_bool, DL.tysB_int, DL.tysB_str, DL.tysB_tuple, DL.tysB_list, DL.tysB_dict, DL.isT_NoneType_bool, DL.isT_NoneType_int, DL.isT_NoneType_str, DL.isT_NoneType_tuple, DL.isT_NoneType_list, DL.isT_NoneType_dict, DL.isT_bool_bool, DL.isT_bool_int, DL.isT_bool_str, DL.isT_bool_tuple, DL.isT_bool_list, DL.isT_bool_dict, DL.isT_int_bool, DL.isT_int_int, DL.isT_int_str, DL.isT_int_tuple, DL.isT_int_list, DL.isT_int_dict, DL.isT_str_bool, DL.isT_str_int, DL.isT_str_str, DL.isT_str_tuple, DL.isT_str_list, DL.isT_str_dict, DL.isT_tuple_bool, DL.isT_tuple_int, DL.isT_tuple_str, DL.isT_tuple_tuple, DL.isT_tuple_list, DL.isT_tuple_dict, DL.isT_list_bool, DL.isT_list_int, DL.isT_list_str, DL.isT_list_tuple, DL.isT_list_list, DL.isT_list_dict, DL.isT_dict_bool, DL.isT_dict_int, DL.isT_dict_str, DL.isT_dict_tuple, DL.isT_dict_list, DL.isT_dict_dict, true_and, and_true, eq_self, Bool.or_true, Bool.true_or, Bool.or_false, Bool.false_or, Bool.and_true, Bool.true_and, Bool.and_false, Bool.false_and, Bool.false_eq_true, ↓reduceIte, decide_true, decide_false, DL.tyD, DL.kyD, DL.atD, DL.atI_0, DL.atI_1, DL.atI_2, DL.atI_3, DL.atI_4, DL.atI_5, DL.atI_6, DL.atI_7, DL.atI_8, DL.atI_9, DL.atI_10, DL.atI_11, DL.atI_12, DL.ixN_0, DL.ixN_1, DL.upG_same, DL.upG_upG, List.getElem?_cons_zero, List.getElem?_cons_succ, List.cons_append, List.nil_append, Nat.add_one_sub_one, Nat.reduceAdd, Nat.reduceSub, List.length_cons, List.length_nil, decide_eq_true_eq, Bool.not_true, Bool.not_false, List.replicate_succ, List.replicate_zero, List.set_cons_zero, List.set_cons_succ, List.map_cons, List.map_nil]
  by_cases hz : z = 0
  · (refine br_npos hz ?_; try simp -dsimp only [↓DL.thn_nx, ↓DL.thn_rt, ↓DL.thn_ex, ↓DL.thn_bk, ↓DL.thn_ct, ↓DL.trn_nx, ↓DL.trn_rt, ↓DL.trn_ex, ↓DL.trn_bk, ↓DL.trn_ct, DL.Br_true, DL.Br_false, ↓DL.dSeq, ↓DL.dNext, ↓DL.dPass, ↓DL.dBrk, ↓DL.dCnt, ↓DL.dDrop, ↓DL.dRet, ↓DL.dRetN, ↓DL.dIfS, ↓DL.gdName, ↓DL.gdNil, ↓DL.gdCons, ↓DL.gdTup, ↓DL.gdSub, ↓DL.dAsg, ↓DL.dPar, ↓DL.dVar, ↓DL.dC, ↓DL.dUn, ↓DL.dBin, ↓DL.dTest, ↓DL.dNot, ↓DL.dAnd, ↓DL.dOr, ↓DL.dVal, ↓DL.dAndV, ↓DL.dOrV, ↓DL.dNotV, ↓DL.dIf, ↓DL.dNil, ↓DL.dCons, ↓DL.dChain, ↓DL.dTup, ↓DL.dLst, ↓DL.dLstM, ↓DL.dCB, ↓DL.dFor, ↓DL.dLc, ↓DL.dLcM, ↓DL.lcLoop, ↓DL.dYes, ↓DL.diVal, ↓DL.diRng1, ↓DL.diRng2, ↓DL.diEnum, ↓DL.diZip, ↓DL.walkD, ↓DL.dCall, ↓DL.dSl, ↓DL.dDct0, ↓DL.dDctM0, ↓DL.rII, ↓DL.rLt, ↓DL.rLe, ↓DL.rGt, ↓DL.rGe, ↓DL.rSub, ↓DL.rMul, ↓DL.rDivP, ↓DL.rDiv, ↓DL.rModP, ↓DL.rPow, ↓DL.rNeg, ↓DL.rAdd, ↓DL.rEq, ↓DL.rNe, ↓DL.rIsN, ↓DL.rNotN, ↓DL.isN, ↓DL.cmp, ↓DL.rIn, ↓DL.rNotIn, ↓DL.rInB, ↓DL.rIx, ↓DL.rSl, ↓DL.rLen, ↓DL.rAbs, ↓DL.rMax2, ↓DL.rMin2, ↓DL.rInt1, ↓DL.rStr1, ↓DL.rDivmod, ↓DL.rListF, ↓DL.rListM, ↓DL.rTuple, ↓DL.rAll, ↓DL.rAny, ↓DL.rSum, ↓DL.rMaxL, ↓DL.rMinL, ↓DL.rIsi, ↓DL.rRepr, ↓DL.rSetD, ↓DL.itemsD, ↓DL.lstD, DL.slots, DL.dWipe, DL.rs_non, DL.rs_bl, DL.rs_i, DL.rs_s, DL.rs_ty, DL.rs_t, DL.rs_l, DL.rs_k, DL.rs_d, DL.rs_in, DL.rs_c, DL.rs_upl, DL.rs_upd, DL.rs_upi, DL.okQ, DL.isS, DL.okN_int, DL.okN_bl, DL.okN_non, DL.deq_ii, DL.okN_ii, DL.deq_int, DL.deq_bl, DL.deq_str, DL.tysB_bool, DL.tysB_int, DL.tysB_str, DL.tysB_tuple, DL.tysB_list, DL.tysB_dict, DL.isT_NoneType_bool, DL.isT_NoneType_int, DL.isT_NoneType_str, DL.isT_NoneType_tuple, DL.isT_NoneType_list, DL.isT_NoneType_dict, DL.isT_bool_bool, DL.isT_bool_int, DL.isT_bool_str, DL.isT_bool_tuple, DL.isT_bool_list, DL.isT_bool_dict, DL.isT_int_bool, DL.isT_int_int, DL.isT_int_str, DL.isT_int_tuple, DL.isT_int_list, DL.isT_int_dict, DL.isT_str_bool, DL.isT_str_int, DL.isT_str_str, DL.isT_str_tuple, DL.isT_str_list, DL.isT_str_dict, DL.isT_tuple_bool, DL.isT_tuple_int, DL.isT_tuple_str, DL.isT_tuple_tuple, DL.isT_tuple_list, DL.isT_tuple_dict, DL.isT_list_bool, DL.isT_list_int, DL.isT_list_str, DL.isT_list_tuple, DL.isT_list_list, DL.isT_list_dict, DL.isT_dict_bool, DL.isT_dict_int, DL.isT_dict_str, DL.isT_dict_tuple, DL.isT_dict_list, DL.isT_dict_dict, true_and, and_true, eq_self, Bool.or_true, Bool.true_or, Bool.or_false, Bool.false_or, Bool.and_true, Bool.true_and, Bool.and_false, Bool.false_and, Bool.false_eq_true, ↓reduceIte, decide_true, decide_false, DL.tyD, DL.kyD, DL.atD, DL.atI_0, DL.atI_1, DL.atI_2, DL.atI_3, DL.atI_4, DL.atI_5, DL.atI_6, DL.atI_7, DL.atI_8, DL.atI_9, DL.atI_10, DL.atI_11, DL.atI_12, DL.ixN_0, DL.ixN_1, DL.upG_same, DL.upG_upG, List.getElem?_cons_zero, List.getElem?_cons_succ, List.cons_append, List.nil_append, Nat.add_one_sub_one, Nat.reduceAdd, Nat.reduceSub, List.length_cons, List.length_nil, decide_eq_true_eq, Bool.not_true, Bool.not_false, List.replicate_succ, List.replicate_zero, List.set_cons_zero, List.set_cons_succ, List.map_cons, List.map_nil])
    refine ⟨a, 9, rfl, s1.pot, by decide, .lit, fun r G2 hr kr s2 => ?_⟩
    simp -dsimp only [↓DL.thn_nx, ↓DL.thn_rt, ↓DL.thn_ex, ↓DL.thn_bk, ↓DL.thn_ct, ↓DL.trn_nx, ↓DL.trn_rt, ↓DL.trn_ex, ↓DL.trn_bk, ↓DL.trn_ct, DL.Br_true, DL.Br_false, ↓DL.dSeq, ↓DL.dNext, ↓DL.dPass, ↓DL.dBrk, ↓DL.dCnt, ↓DL.dDrop, ↓DL.dRet, ↓DL.dRetN, ↓DL.dIfS, ↓DL.gdName, ↓DL.gdNil, ↓DL.gdCons, ↓DL.gdTup, ↓DL.gdSub, ↓DL.dAsg, ↓DL.dPar, ↓DL.dVar, ↓DL.dC, ↓DL.dUn, ↓DL.dBin, ↓DL.dTest, ↓DL.dNot, ↓DL.dAnd, ↓DL.dOr, ↓DL.dVal, ↓DL.dAndV, ↓DL.dOrV, ↓DL.dNotV, ↓DL.dIf, ↓DL.dNil, ↓DL.dCons, ↓DL.dChain, ↓DL.dTup, ↓DL.dLst, ↓DL.dLstM, ↓DL.dCB, ↓DL.dFor, ↓DL.dLc, ↓DL.dLcM, ↓DL.lcLoop, ↓DL.dYes, ↓DL.diVal, ↓DL.diRng1, ↓DL.diRng2, ↓DL.diEnum, ↓DL.diZip, ↓DL.walkD, ↓DL.dCall, ↓DL.dSl, ↓DL.dDct0, ↓DL.dDctM0, ↓DL.rII, ↓DL.rLt, ↓DL.rLe, ↓DL.rGt, ↓DL.rGe, ↓DL.rSub, ↓DL.rMul, ↓DL.rDivP, ↓DL.rDiv, ↓DL.rModP, ↓DL.rPow, ↓DL.rNeg, ↓DL.rAdd, ↓DL.rEq, ↓DL.rNe, ↓DL.rIsN, ↓DL.rNotN, ↓DL.isN, ↓DL.cmp, ↓DL.rIn, ↓DL.rNotIn, ↓DL.rInB, ↓DL.rIx, ↓DL.rSl, ↓DL.rLen, ↓DL.rAbs, ↓DL.rMax2, ↓DL.rMin2, ↓DL.rInt1, ↓DL.rStr1, ↓DL.rDivmod, ↓DL.rListF, ↓DL.rListM, ↓DL.rTuple, ↓DL.rAll, ↓DL.rAny, ↓DL.rSum, ↓DL.rMaxL, ↓DL.rMinL, ↓DL.rIsi, ↓DL.rRepr, ↓DL.rSetD, ↓DL.itemsD, ↓DL.lstD, DL.slots, DL.dWipe, DL.rs_non, DL.rs_bl, DL.rs_i, DL.rs_s, DL.rs_ty, DL.rs_t, DL.rs_l, DL.rs_k, DL.rs_d, DL.rs_in, DL.rs_c, DL.rs_upl, DL.rs_upd, DL.rs_upi, DL.okQ, DL.isS, DL.okN_int, DL.okN_bl, DL.okN_non, DL.deq_ii, DL.okN_ii, DL.deq_int, DL.deq_bl, DL.deq_str, DL.tysB_bool, DL.tysB_int, DL.tysB_str, DL.tysB_tuple, DL.tysB_list, DL.tysB_dict, DL.isT_NoneType_bool, DL.isT_NoneType_int, DL.isT_NoneType_str, DL.isT_NoneType_tuple, DL.isT_NoneType_list, DL.isT_NoneType_dict, DL.isT_bool_bool, DL.isT_bool_int, DL.isT_bool_str, DL.isT_bool_tuple, DL.isT_bool_list, DL.isT_bool_dict, DL.isT_int_bool, DL.isT_int_int, DL.isT_int_str, DL.isT_int_tuple, DL.isT_int_list, DL.isT_int_dict, DL.isT_str_bool, DL.isT_str_int, DL.isT_str_str, DL.isT_str_tuple, DL.isT_str_list, DL.isT_str_dict, DL.isT_tuple_bool, DL.isT_tuple_int, DL.isT_tuple_str, DL.isT_tuple_tuple, DL.isT_tuple_list, DL.isT_tuple_dict, DL.isT_list_bool, DL.isT_list_int, DL.isT_list_str, DL.isT_list_tuple, DL.isT_list_list, DL.isT_list_dict, DL.isT_dict_bool, DL.isT_dict_int, DL.isT_dict_str, DL.isT_dict_tuple, DL.isT_dict_list, DL.isT_dict_dict, true_and, and_true, eq_self, Bool.or_true, Bool.true_or, Bool.or_false, Bool.false_or, Bool.and_true, Bool.true_and, Bool.and_false, Bool.false_and, Bool.false_eq_true, ↓reduceIte, decide_true, decide_false, DL.tyD, DL.kyD, DL.atD, DL.atI_0, DL.atI_1, DL.atI_2, DL.atI_3, DL.atI_4, DL.atI_5, DL.atI_6, DL.atI_7, DL.atI_8, DL.atI_9, DL.atI_10, DL.atI_11, DL.atI_12, DL.ixN_0, DL.ixN_1, DL.upG_same, DL.upG_upG, List.getElem?_cons_zero, List.getElem?_cons_succ, List.cons_append, List.nil_append, Nat.add_one_sub_one, Nat.reduceAdd, Nat.reduceSub, List.length_cons, List.length_nil, decide_eq_true_eq, Bool.not_true, Bool.not_false, List.replicate_succ, List.replicate_zero, List.set_cons_zero, List.set_cons_succ, List.map_cons, List.map_nil]
    exact be_rt (h _ _ (Bd.mono (n := 12) (by unfold Bd; omega) (by decide)) (by omega) (s1.trans s2))
  · (refine br_nneg hz ?_; try simp -dsimp only [↓DL.thn_nx, ↓DL.thn_rt, ↓DL.thn_ex, ↓DL.thn_bk, ↓DL.thn_ct, ↓DL.trn_nx, ↓DL.trn_rt, ↓DL.trn_ex, ↓DL.trn_bk, ↓DL.trn_ct, DL.Br_true, DL.Br_false, ↓DL.dSeq, ↓DL.dNext, ↓DL.dPass, ↓DL.dBrk, ↓DL.dCnt, ↓DL.dDrop, ↓DL.dRet, ↓DL.dRetN, ↓DL.dIfS, ↓DL.gdName, ↓DL.gdNil, ↓DL.gdCons, ↓DL.gdTup, ↓DL.gdSub, ↓DL.dAsg, ↓DL.dPar, ↓DL.dVar, ↓DL.dC, ↓DL.dUn, ↓DL.dBin, ↓DL.dTest, ↓DL.dNot, ↓DL.dAnd, ↓DL.dOr, ↓DL.dVal, ↓DL.dAndV, ↓DL.dOrV, ↓DL.dNotV, ↓DL.dIf, ↓DL.dNil, ↓DL.dCons, ↓DL.dChain, ↓DL.dTup, ↓DL.dLst, ↓DL.dLstM, ↓DL.dCB, ↓DL.dFor, ↓DL.dLc, ↓DL.dLcM, ↓DL.lcLoop, ↓DL.dYes, ↓DL.diVal, ↓DL.diRng1, ↓DL.diRng2, ↓DL.diEnum, ↓DL.diZip, ↓DL.walkD, ↓DL.dCall, ↓DL.dSl, ↓DL.dDct0, ↓DL.dDctM0, ↓DL.rII, ↓DL.rLt, ↓DL.rLe, ↓DL.rGt, ↓DL.rGe, ↓DL.rSub, ↓DL.rMul, ↓DL.rDivP, ↓DL.rDiv, ↓DL.rModP, ↓DL.rPow, ↓DL.rNeg, ↓DL.rAdd, ↓DL.rEq, ↓DL.rNe, ↓DL.rIsN, ↓DL.rNotN, ↓DL.isN, ↓DL.cmp, ↓DL.rIn, ↓DL.rNotIn, ↓DL.rInB, ↓DL.rIx, ↓DL.rSl, ↓DL.rLen, ↓DL.rAbs, ↓DL.rMax2, ↓DL.rMin2, ↓DL.rInt1, ↓DL.rStr1, ↓DL.rDivmod, ↓DL.rListF, ↓DL.rListM, ↓DL.rTuple, ↓DL.rAll, ↓DL.rAny, ↓DL.rSum, ↓DL.rMaxL, ↓DL.rMinL, ↓DL.rIsi, ↓DL.rRepr, ↓DL.rSetD, ↓DL.itemsD, ↓DL.lstD, DL.slots, DL.dWipe, DL.rs_non, DL.rs_bl, DL.rs_i, DL.rs_s, DL.rs_ty, DL.rs_t, DL.rs_l, DL.rs_k, DL.rs_d, DL.rs_in, DL.rs_c, DL.rs_upl, DL.rs_upd, DL.rs_upi, DL.okQ, DL.isS, DL.okN_int, DL.okN_bl, DL.okN_non, DL.deq_ii, DL.okN_ii, DL.deq_int, DL.deq_bl, DL.deq_str, DL.tysB_bool, DL.tysB_int, DL.tysB_str, DL.tysB_tuple, DL.tysB_list, DL.tysB_dict, DL.isT_NoneType_bool, DL.isT_NoneType_int, DL.isT_NoneType_str, DL.isT_NoneType_tuple, DL.isT_NoneType_list, DL.isT_NoneType_dict, DL.isT_bool_bool, DL.isT_bool_int, DL.isT_bool_str, DL.isT_bool_tuple, DL.isT_bool_list, DL.isT_bool_dict, DL.isT_int_bool, DL.isT_int_int, DL.isT_int_str, DL.isT_int_tuple, DL.isT_int_list, DL.isT_int_dict, DL.isT_str_bool, DL.isT_str_int, DL.isT_str_str, DL.isT_str_tuple, DL.isT_str_list, DL.isT_str_dict, DL.isT_tuple_bool, DL.isT_tuple_int, DL.isT_tuple_str, DL.isT_tuple_tuple, DL.isT_tuple_list, DL.isT_tuple_dict, DL.isT_list_bool, DL.isT_list_int, DL.isT_list_str, DL.isT_list_tuple, DL.isT_list_list, DL.isT_list_dict, DL.isT_dict_bool, DL.isT_dict_int, DL.isT_dict_str, DL.isT_dict_tuple, DL.isT_dict_list, DL.isT_dict_dict, true_and, and_true, eq_self, Bool.or_true, Bool.true_or, Bool.or_false, Bool.false_or, Bool.and_true, Bool.true_and, Bool.and_false, Bool.false_and, Bool.false_eq_true, ↓reduceIte, decide_true, decide_false, DL.tyD, DL.kyD, DL.atD, DL.atI_0, DL.atI_1, DL.atI_2, DL.atI_3, DL.atI_4, DL.atI_5, DL.atI_6, DL.atI_7, DL.atI_8, DL.atI_9, DL.atI_10, DL.atI_11, DL.atI_12, DL.ixN_0, DL.ixN_1, DL.upG_same, DL.upG_upG, List.getElem?_cons_zero, List.getElem?_cons_succ, List.cons_append, List.nil_append, Nat.add_one_sub_one, Nat.reduceAdd, Nat.reduceSub, List.length_cons, List.length_nil, decide_eq_true_eq, Bool.not_true, Bool.not_false, List.replicate_succ, List.replicate_zero, List.set_cons_zero, List.set_cons_succ, List.map_cons, List.map_nil])
    exact be_rt (h _ _ bz hz s1)
/-! ### lowest terms by the law itself -/
def sp__law_is_lowest : DSp := sp_is_fraction
theorem ok__law_is_lowest : ∀ ds G Q E, sp__law_is_lowest ds G Q E → rd__law_is_lowest sp_common_part (bodyEnds Q E) (slots N__law_is_lowest ds) G := by
  rintro ds G Q E ⟨n, d, rfl, hd, h⟩
  rw [sl__law_is_lowest]
  simp -dsimp only [↓DL.thn_nx, ↓DL.thn_rt, ↓DL.thn_ex, ↓DL.thn_bk, ↓DL.thn_ct, ↓DL.trn_nx, ↓DL.trn_rt, ↓DL.trn_ex, ↓DL.trn_bk, ↓DL.trn_ct, DL.Br_true, DL.Br_false, ↓DL.dSeq, ↓DL.dNext, ↓DL.dPass, ↓DL.dBrk, ↓DL.dCnt, ↓DL.dDrop, ↓DL.dRet, ↓DL.dRetN, ↓DL.dIfS, ↓DL.gdName, ↓DL.gdNil, ↓DL.gdCons, ↓DL.gdTup, ↓DL.gdSub, ↓DL.dAsg, ↓DL.dPar, ↓DL.dVar, ↓DL.dC, ↓DL.dUn, ↓DL.dBin, ↓DL.dTest, ↓DL.dNot, ↓DL.dAnd, ↓DL.dOr, ↓DL.dVal, ↓DL.dAndV, ↓DL.dOrV, ↓DL.dNotV, ↓DL.dIf, ↓DL.dNil, ↓DL.dCons, ↓DL.dChain, ↓DL.dTup, ↓DL.dLst, ↓DL.dLstM, ↓DL.dCB, ↓DL.dFor, ↓DL.dLc, ↓DL.dLcM, ↓DL.lcLoop, ↓DL.dYes, ↓DL.diVal, ↓DL.diRng1, ↓DL.diRng2, ↓DL.diEnum, ↓DL.diZip, ↓DL.walkD, ↓DL.dCall, ↓DL.dSl, ↓DL.dDct0, ↓DL.dDctM0, ↓DL.rII, ↓DL.rLt, ↓DL.rLe, ↓DL.rGt, ↓DL.rGe, ↓DL.rSub, ↓DL.rMul, ↓DL.rDivP, ↓DL.rDiv, ↓DL.rModP, ↓DL.rPow, ↓DL.rNeg, ↓DL.rAdd, ↓DL.rEq, ↓DL.rNe, ↓DL.rIsN, ↓DL.rNotN, ↓DL.isN, ↓DL.cmp, ↓DL.rIn, ↓DL.rNotIn, ↓DL.rInB, ↓DL.rIx, ↓DL.rSl, ↓DL.rLen, ↓DL.rAbs, ↓DL.rMax2, ↓DL.rMin2, ↓DL.rInt1, ↓DL.rStr1, ↓DL.rDivmod, ↓DL.rListF, ↓DL.rListM, ↓DL.rTuple, ↓DL.rAll, ↓DL.rAny, ↓DL.rSum, ↓DL.rMaxL, ↓DL.rMinL, ↓DL.rIsi, ↓DL.rRepr, ↓DL.rSetD, ↓DL.itemsD, ↓DL.lstD, DL.slots, DL.dWipe, DL.rs_non, DL.rs_bl, DL.rs_i, DL.rs_s, DL.rs_ty, DL.rs_t, DL.rs_l, DL.rs_k, DL.rs_d, DL.rs_in, DL.rs_c, DL.rs_upl, DL.rs_upd, DL.rs_upi, DL.okQ, DL.isS, DL.okN_int, DL.okN_bl, DL.okN_non, DL.deq_ii, DL.okN_ii, DL.deq_int, DL.deq_bl, DL.deq_str, DL.tysB_bool, DL.tysB_int, DL.tysB_str, DL.tysB_tuple, DL.tysB_list, DL.tysB_dict, DL.isT_NoneType_bool, DL.isT_NoneType_int, DL.isT_NoneType_str, DL.isT_NoneType_tuple, DL.isT_NoneType_list, DL.isT_NoneType_dict, DL.isT_bool_bool, DL.isT_bool_int, DL.isT_bool_str, DL.isT_bool_tuple, DL.isT_bool_list, DL.isT_bool_dict, DL.isT_int_bool, DL.isT_int_int, DL.isT_int_str, DL.isT_int_tuple, DL.isT_int_list, DL.isT_int_dict, DL.isT_str_bool, DL.isT_str_int, DL.isT_str_str, DL.isT_str_tuple, DL.isT_str_list, DL.isT_str_dict, DL.isT_tuple_bool, DL.isT_tuple_int, DL.isT_tuple_str, DL.isT_tuple_tuple, DL.isT_tuple_list, DL.isT_tuple_dict, DL.isT_list_bool, DL.isT_list_int, DL.isT_list_str, DL.isT_list_tuple, DL.isT_list_list, DL.isT_list_dict, DL.isT_dict_bool, DL.isT_dict_int, DL.isT_dict_str, DL.isT_dict_tuple, DL.isT_dict_list, DL.isT_dict_dict, true_and, and_true, eq_self, Bool.or_true, Bool.true_or, Bool.or_false, Bool.false_or, Bool.and_true, Bool.true_and, Bool.and_false, Bool.false_and, Bool.false_eq_true, ↓reduceIte, decide_true, decide_false, DL.tyD, DL.kyD, DL.atD, DL.atI_0, DL.atI_1, DL.atI_2, DL.atI_3, DL.atI_4, DL.atI_5, DL.atI_6, DL.atI_7, DL.atI_8, DL.atI_9, DL.atI_10, DL.atI_11, DL.atI_12, DL.ixN_0, DL.ixN_1, DL.upG_same, DL.upG_upG, List.getElem?_cons_zero, List.getElem?_cons_succ, List.cons_append, List.nil_append, Nat.add_one_sub_one, Nat.reduceAdd, Nat.reduceSub, List.length_cons, List.length_nil, decide_eq_true_eq, Bool.not_true, Bool.not_false, List.replicate_succ, List.replicate_zero, List.set_cons_zero, List.set_cons_succ, List.map_cons, List.map_nil, rd__law_is_lowest]
  cases d with
  | ty a => simp [okS] at hd
  | ins a b => simp [okS] at hd
  | cls a => simp [okS] at hd
  | ref a => simp [okS] at hd
  | tup xs =>
    simp -dsimp only [↓DL.thn_nx, ↓DL.thn_rt, ↓DL.thn_ex, ↓DL.thn_bk, ↓DL.thn_ct, ↓DL.trn_nx, ↓DL.trn_rt, ↓DL.trn_ex, ↓DL.trn_bk, ↓DL.trn_ct, DL.Br_true, DL.Br_false, ↓DL.dSeq, ↓DL.dNext, ↓DL.dPass, ↓DL.dBrk, ↓DL.dCnt, ↓DL.dDrop, ↓DL.dRet, ↓DL.dRetN, ↓DL.dIfS, ↓DL.gdName, ↓DL.gdNil, ↓DL.gdCons, ↓DL.gdTup, ↓DL.gdSub, ↓DL.dAsg, ↓DL.dPar, ↓DL.dVar, ↓DL.dC, ↓DL.dUn, ↓DL.dBin, ↓DL.dTest, ↓DL.dNot, ↓DL.dAnd, ↓DL.dOr, ↓DL.dVal, ↓DL.dAndV, ↓DL.dOrV, ↓DL.dNotV, ↓DL.dIf, ↓DL.dNil, ↓DL.dCons, ↓DL.dChain, ↓DL.dTup, ↓DL.dLst, ↓DL.dLstM, ↓DL.dCB, ↓DL.dFor, ↓DL.dLc, ↓DL.dLcM, ↓DL.lcLoop, ↓DL.dYes, ↓DL.diVal, ↓DL.diRng1, ↓DL.diRng2, ↓DL.diEnum, ↓DL.diZip, ↓DL.walkD, ↓DL.dCall, ↓DL.dSl, ↓DL.dDct0, ↓DL.dDctM0, ↓DL.rII, ↓DL.rLt, ↓DL.rLe, ↓DL.rGt, ↓DL.rGe, ↓DL.rSub, ↓DL.rMul, ↓DL.rDivP, ↓DL.rDiv, ↓DL.rModP, ↓DL.rPow, ↓DL.rNeg, ↓DL.rAdd, ↓DL.rEq, ↓DL.rNe, ↓DL.rIsN, ↓DL.rNotN, ↓DL.isN, ↓DL.cmp, ↓DL.rIn, ↓DL.rNotIn, ↓DL.rInB, ↓DL.rIx, ↓DL.rSl, ↓DL.rLen, ↓DL.rAbs, ↓DL.rMax2, ↓DL.rMin2, ↓DL.rInt1, ↓DL.rStr1, ↓DL.rDivmod, ↓DL.rListF, ↓DL.rListM, ↓DL.rTuple, ↓DL.rAll, ↓DL.rAny, ↓DL.rSum, ↓DL.rMaxL, ↓DL.rMinL, ↓DL.rIsi, ↓DL.rRepr, ↓DL.rSetD, ↓DL.itemsD, ↓DL.lstD, DL.slots, DL.dWipe, DL.rs_non, DL.rs_bl, DL.rs_i, DL.rs_s, DL.rs_ty, DL.rs_t, DL.rs_l, DL.rs_k, DL.rs_d, DL.rs_in, DL.rs_c, DL.rs_upl, DL.rs_upd, DL.rs_upi, DL.okQ, DL.isS, DL.okN_int, DL.okN_bl, DL.okN_non, DL.deq_ii, DL.okN_ii, DL.deq_int, DL.deq_bl, DL.deq_str, DL.tysB_bool, DL.tysB_int, DL.tysB_str, DL.tysB_tuple, DL.tysB_list, DL.tysB_dict, DL.isT_NoneType_bool, DL.isT_NoneType_int, DL.isT_NoneType_str, DL.isT_NoneType_tuple, DL.isT_NoneType_list, DL.isT_NoneType_dict, DL.isT_bool_bool, DL.isT_bool_int, DL.isT_bool_str, DL.isT_bool_tuple, DL.isT_bool_list, DL.isT_bool_dict, DL.isT_int_bool, DL.isT_int_int, DL.isT_int_str, DL.isT_int_tuple, DL.isT_int_list, DL.isT_int_dict, DL.isT_str_bool, DL.isT_str_int, DL.isT_str_str, DL.isT_str_tuple, DL.isT_str_list, DL.isT_str_dict, DL.isT_tuple_bool, DL.isT_tuple_int, DL.isT_tuple_str, DL.isT_tuple_tuple, DL.isT_tuple_list, DL.isT_tuple_dict, DL.isT_list_bool, DL.isT_list_int, DL.isT_list_str, DL.isT_list_tuple, DL.isT_list_list, DL.isT_list_dict, DL.isT_dict_bool, DL.isT_dict_int, DL.isT_dict_str, DL.isT_dict_tuple, DL.isT_dict_list, DL.isT_dict_dict, true_and, and_true, eq_self, Bool.or_true, Bool.true_or, Bool.or_false, Bool.false_or, Bool.and_true, Bool.true_and, Bool.and_false, Bool.false_and, Bool.false_eq_true, ↓reduceIte, decide_true, decide_false, DL.tyD, DL.kyD, DL.atD, DL.atI_0, DL.atI_1, DL.atI_2, DL.atI_3, DL.atI_4, DL.atI_5, DL.atI_6, DL.atI_7, DL.atI_8, DL.atI_9, DL.atI_10, DL.atI_11, DL.atI_12, DL.ixN_0, DL.ixN_1, DL.upG_same, DL.upG_upG, List.getElem?_cons_zero, List.getElem?_cons_succ, List.cons_append, List.nil_append, Nat.add_one_sub_one, Nat.reduceAdd, Nat.reduceSub, List.length_cons, List.length_nil, decide_eq_true_eq, Bool.not_true, Bool.not_false, List.replicate_succ, List.replicate_zero, List.set_cons_zero, List.set_cons_succ, List.map_cons, List.map_nil]
    by_cases h2 : (xs.length : Int) = 2
    · obtain ⟨x, y, rfl⟩ : ∃ x y, xs = [x, y] := by
        match xs, h2 with
        | [x, y], _ => exact ⟨x, y, rfl⟩
        | [], h => simp at h
        | [_], h => simp at h
        | _ :: _ :: _ :: _, h => simp at h; omega
      simp only [okS, okSL, Bool.and_eq_true, Bool.and_true] at hd
      simp -dsimp only [↓DL.thn_nx, ↓DL.thn_rt, ↓DL.thn_ex, ↓DL.thn_bk, ↓DL.thn_ct, ↓DL.trn_nx, ↓DL.trn_rt, ↓DL.trn_ex, ↓DL.trn_bk, ↓DL.trn_ct, DL.Br_true, DL.Br_false, ↓DL.dSeq, ↓DL.dNext, ↓DL.dPass, ↓DL.dBrk, ↓DL.dCnt, ↓DL.dDrop, ↓DL.dRet, ↓DL.dRetN, ↓DL.dIfS, ↓DL.gdName, ↓DL.gdNil, ↓DL.gdCons, ↓DL.gdTup, ↓DL.gdSub, ↓DL.dAsg, ↓DL.dPar, ↓DL.dVar, ↓DL.dC, ↓DL.dUn, ↓DL.dBin, ↓DL.dTest, ↓DL.dNot, ↓DL.dAnd, ↓DL.dOr, ↓DL.dVal, ↓DL.dAndV, ↓DL.dOrV, ↓DL.dNotV, ↓DL.dIf, ↓DL.dNil, ↓DL.dCons, ↓DL.dChain, ↓DL.dTup, ↓DL.dLst, ↓DL.dLstM, ↓DL.dCB, ↓DL.dFor, ↓DL.dLc, ↓DL.dLcM, ↓DL.lcLoop, ↓DL.dYes, ↓DL.diVal, ↓DL.diRng1, ↓DL.diRng2, ↓DL.diEnum, ↓DL.diZip, ↓DL.walkD, ↓DL.dCall, ↓DL.dSl, ↓DL.dDct0, ↓DL.dDctM0, ↓DL.rII, ↓DL.rLt, ↓DL.rLe, ↓DL.rGt, ↓DL.rGe, ↓DL.rSub, ↓DL.rMul, ↓DL.rDivP, ↓DL.rDiv, ↓DL.rModP, ↓DL.rPow, ↓DL.rNeg, ↓DL.rAdd, ↓DL.rEq, ↓DL.rNe, ↓DL.rIsN, ↓DL.rNotN, ↓DL.isN, ↓DL.cmp, ↓DL.rIn, ↓DL.rNotIn, ↓DL.rInB, ↓DL.rIx, ↓DL.rSl, ↓DL.rLen, ↓DL.rAbs, ↓DL.rMax2, ↓DL.rMin2, ↓DL.rInt1, ↓DL.rStr1, ↓DL.rDivmod, ↓DL.rListF, ↓DL.rListM, ↓DL.rTuple, ↓DL.rAll, ↓DL.rAny, ↓DL.rSum, ↓DL.rMaxL, ↓DL.rMinL, ↓DL.rIsi, ↓DL.rRepr, ↓DL.rSetD, ↓DL.itemsD, ↓DL.lstD, DL.slots, DL.dWipe, DL.rs_non, DL.rs_bl, DL.rs_i, DL.rs_s, DL.rs_ty, DL.rs_t, DL.rs_l, DL.rs_k, DL.rs_d, DL.rs_in, DL.rs_c, DL.rs_upl, DL.rs_upd, DL.rs_upi, DL.okQ, DL.isS, DL.okN_int, DL.okN_bl, DL.okN_non, DL.deq_ii, DL.okN_ii, DL.deq_int, DL.deq_bl, DL.deq_str, DL.tysB_bool, DL.tysB_int, DL.tysB_str, DL.tysB_tuple, DL.tysB_list, DL.tysB_dict, DL.isT_NoneType_bool, DL.isT_NoneType_int, DL.isT_NoneType_str, DL.isT_NoneType_tuple, DL.isT_NoneType_list, DL.isT_NoneType_dict, DL.isT_bool_bool, DL.isT_bool_int, DL.isT_bool_str, DL.isT_bool_tuple, DL.isT_bool_list, DL.isT_bool_dict, DL.isT_int_bool, DL.isT_int_int, DL.isT_int_str, DL.isT_int_tuple, DL.isT_int_list, DL.isT_int_dict, DL.isT_str_bool, DL.isT_str_int, DL.isT_str_str, DL.isT_str_tuple, DL.isT_str_list, DL.isT_str_dict, DL.isT_tuple_bool, DL.isT_tuple_int, DL.isT_tuple_str, DL.isT_tuple_tuple, DL.isT_tuple_list, DL.isT_tuple_dict, DL.isT_list_bool, DL.isT_list_int, DL.isT_list_str, DL.isT_list_tuple, DL.isT_list_list, DL.isT_list_dict, DL.isT_dict_bool, DL.isT_dict_int, DL.isT_dict_str, DL.isT_dict_tuple, DL.isT_dict_list, DL.isT_dict_dict, true_and, and_true, eq_self, Bool.or_true, Bool.true_or, Bool.or_false, Bool.false_or, Bool.and_true, Bool.true_and, Bool.and_false, Bool.false_and, Bool.false_eq_true, ↓reduceIte, decide_true, decide_false, DL.tyD, DL.kyD, DL.atD, DL.atI_0, DL.atI_1, DL.atI_2, DL.atI_3, DL.atI_4, DL.atI_5, DL.atI_6, DL.atI_7, DL.atI_8, DL.atI_9, DL.atI_10, DL.atI_11, DL.atI_12, DL.ixN_0, DL.ixN_1, DL.upG_same, DL.upG_upG, List.getElem?_cons_zero, List.getElem?_cons_succ, List.cons_append, List.nil_append, Nat.add_one_sub_one, Nat.reduceAdd, Nat.reduceSub, List.length_cons, List.length_nil, decide_eq_true_eq, Bool.not_true, Bool.not_false, List.replicate_succ, List.replicate_zero, List.set_cons_zero, List.set_cons_succ, List.map_cons, List.map_nil]
      (refine br_npos (by simp) ?_; try simp -dsimp only [↓DL.thn_nx, ↓DL.thn_rt, ↓DL.thn_ex, ↓DL.thn_bk, ↓DL.thn_ct, ↓DL.trn_nx, ↓DL.trn_rt, ↓DL.trn_ex, ↓DL.trn_bk, ↓DL.trn_ct, DL.Br_true, DL.Br_false, ↓DL.dSeq, ↓DL.dNext, ↓DL.dPass, ↓DL.dBrk, ↓DL.dCnt, ↓DL.dDrop, ↓DL.dRet, ↓DL.dRetN, ↓DL.dIfS, ↓DL.gdName, ↓DL.gdNil, ↓DL.gdCons, ↓DL.gdTup, ↓DL.gdSub, ↓DL.dAsg, ↓DL.dPar, ↓DL.dVar, ↓DL.dC, ↓DL.dUn, ↓DL.dBin, ↓DL.dTest, ↓DL.dNot, ↓DL.dAnd, ↓DL.dOr, ↓DL.dVal, ↓DL.dAndV, ↓DL.dOrV, ↓DL.dNotV, ↓DL.dIf, ↓DL.dNil, ↓DL.dCons, ↓DL.dChain, ↓DL.dTup, ↓DL.dLst, ↓DL.dLstM, ↓DL.dCB, ↓DL.dFor, ↓DL.dLc, ↓DL.dLcM, ↓DL.lcLoop, ↓DL.dYes, ↓DL.diVal, ↓DL.diRng1, ↓DL.diRng2, ↓DL.diEnum, ↓DL.diZip, ↓DL.walkD, ↓DL.dCall, ↓DL.dSl, ↓DL.dDct0, ↓DL.dDctM0, ↓DL.rII, ↓DL.rLt, ↓DL.rLe, ↓DL.rGt, ↓DL.rGe, ↓DL.rSub, ↓DL.rMul, ↓DL.rDivP, ↓DL.rDiv, ↓DL.rModP, ↓DL.rPow, ↓DL.rNeg, ↓DL.rAdd, ↓DL.rEq, ↓DL.rNe, ↓DL.rIsN, ↓DL.rNotN, ↓DL.isN, ↓DL.cmp, ↓DL.rIn, ↓DL.rNotIn, ↓DL.rInB, ↓DL.rIx, ↓DL.rSl, ↓DL.rLen, ↓DL.rAbs, ↓DL.rMax2, ↓DL.rMin2, ↓DL.rInt1, ↓DL.rStr1, ↓DL.rDivmod, ↓DL.rListF, ↓DL.rListM, ↓DL.rTuple, ↓DL.rAll, ↓DL.rAny, ↓DL.rSum, ↓DL.rMaxL, ↓DL.rMinL, ↓DL.rIsi, ↓DL.rRepr, ↓DL.rSetD, ↓DL.itemsD, ↓DL.lstD, DL.slots, DL.dWipe, DL.rs_non, DL.rs_bl, DL.rs_i, DL.rs_s, DL.rs_ty, DL.rs_t, DL.rs_l, DL.rs_k, DL.rs_d, DL.rs_in, DL.rs_c, DL.rs_upl, DL.rs_upd, DL.rs_upi, DL.okQ, DL.isS, DL.okN_int, DL.okN_bl, DL.okN_non, DL.deq_ii, DL.okN_ii, DL.deq_int, DL.deq_bl, DL.deq_str, DL.tysB_bool, DL.tysB_int, DL.tysB_str, DL.tysB_tuple, DL.tysB_list, DL.tysB_dict, DL.isT_NoneType_bool, DL.isT_NoneType_int, DL.isT_NoneType_str, DL.isT_NoneType_tuple, DL.isT_NoneType_list, DL.isT_NoneType_dict, DL.isT_bool_bool, DL.isT_bool_int, DL.isT_bool_str, DL.isT_bool_tuple, DL.isT_bool_list, DL.isT_bool_dict, DL.isT_int_bool, DL.isT_int_int, DL.isT_int_str, DL.isT_int_tuple, DL.isT_int_list, DL.isT_int_dict, DL.isT_str_bool, DL.isT_str_int, DL.isT_str_str, DL.isT_str_tuple, DL.isT_str_list, DL.isT_str_dict, DL.isT_tuple_bool, DL.isT_tuple_int, DL.isT_tuple_str, DL.isT_tuple_tuple, DL.isT_tuple_list, DL.isT_tuple_dict, DL.isT_list_bool, DL.isT_list_int, DL.isT_list_str, DL.isT_list_tuple, DL.isT_list_list, DL.isT_list_dict, DL.isT_dict_bool, DL.isT_dict_int, DL.isT_dict_str, DL.isT_dict_tuple, DL.isT_dict_list, DL.isT_dict_dict, true_and, and_true, eq_self, Bool.or_true, Bool.true_or, Bool.or_false, Bool.false_or, Bool.and_true, Bool.true_and, Bool.and_false, Bool.false_and, Bool.false_eq_true, ↓reduceIte, decide_true, decide_false, DL.tyD, DL.kyD, DL.atD, DL.atI_0, DL.atI_1, DL.atI_2, DL.atI_3, DL.atI_4, DL.atI_5, DL.atI_6, DL.atI_7, DL.atI_8, DL.atI_9, DL.atI_10, DL.atI_11, DL.atI_12, DL.ixN_0, DL.ixN_1, DL.upG_same, DL.upG_upG, List.getElem?_cons_zero, List.getElem?_cons_succ, List.cons_append, List.nil_append, Nat.add_one_sub_one, Nat.reduceAdd, Nat.reduceSub, List.length_cons, List.length_nil, decide_eq_true_eq, Bool.not_true, Bool.not_false, List.replicate_succ, List.replicate_zero, List.set_cons_zero, List.set_cons_succ, List.map_cons, List.map_nil])
      refine lcK_map (fun d => .bl (isI d)) (show 2 < sizeLine by decide) (fun _ _ => trivial) (fun z hz G2 R _ hr => ?_) ?_
      · simp -dsimp only [↓DL.thn_nx, ↓DL.thn_rt, ↓DL.thn_ex, ↓DL.thn_bk, ↓DL.thn_ct, ↓DL.trn_nx, ↓DL.trn_rt, ↓DL.trn_ex, ↓DL.trn_bk, ↓DL.trn_ct, DL.Br_true, DL.Br_false, ↓DL.dSeq, ↓DL.dNext, ↓DL.dPass, ↓DL.dBrk, ↓DL.dCnt, ↓DL.dDrop, ↓DL.dRet, ↓DL.dRetN, ↓DL.dIfS, ↓DL.gdName, ↓DL.gdNil, ↓DL.gdCons, ↓DL.gdTup, ↓DL.gdSub, ↓DL.dAsg, ↓DL.dPar, ↓DL.dVar, ↓DL.dC, ↓DL.dUn, ↓DL.dBin, ↓DL.dTest, ↓DL.dNot, ↓DL.dAnd, ↓DL.dOr, ↓DL.dVal, ↓DL.dAndV, ↓DL.dOrV, ↓DL.dNotV, ↓DL.dIf, ↓DL.dNil, ↓DL.dCons, ↓DL.dChain, ↓DL.dTup, ↓DL.dLst, ↓DL.dLstM, ↓DL.dCB, ↓DL.dFor, ↓DL.dLc, ↓DL.dLcM, ↓DL.lcLoop, ↓DL.dYes, ↓DL.diVal, ↓DL.diRng1, ↓DL.diRng2, ↓DL.diEnum, ↓DL.diZip, ↓DL.walkD, ↓DL.dCall, ↓DL.dSl, ↓DL.dDct0, ↓DL.dDctM0, ↓DL.rII, ↓DL.rLt, ↓DL.rLe, ↓DL.rGt, ↓DL.rGe, ↓DL.rSub, ↓DL.rMul, ↓DL.rDivP, ↓DL.rDiv, ↓DL.rModP, ↓DL.rPow, ↓DL.rNeg, ↓DL.rAdd, ↓DL.rEq, ↓DL.rNe, ↓DL.rIsN, ↓DL.rNotN, ↓DL.isN, ↓DL.cmp, ↓DL.rIn, ↓DL.rNotIn, ↓DL.rInB, ↓DL.rIx, ↓DL.rSl, ↓DL.rLen, ↓DL.rAbs, ↓DL.rMax2, ↓DL.rMin2, ↓DL.rInt1, ↓DL.rStr1, ↓DL.rDivmod, ↓DL.rListF, ↓DL.rListM, ↓DL.rTuple, ↓DL.rAll, ↓DL.rAny, ↓DL.rSum, ↓DL.rMaxL, ↓DL.rMinL, ↓DL.rIsi, ↓DL.rRepr, ↓DL.rSetD, ↓DL.itemsD, ↓DL.lstD, DL.slots, DL.dWipe, DL.rs_non, DL.rs_bl, DL.rs_i, DL.rs_s, DL.rs_ty, DL.rs_t, DL.rs_l, DL.rs_k, DL.rs_d, DL.rs_in, DL.rs_c, DL.rs_upl, DL.rs_upd, DL.rs_upi, DL.okQ, DL.isS, DL.okN_int, DL.okN_bl, DL.okN_non, DL.deq_ii, DL.okN_ii, DL.deq_int, DL.deq_bl, DL.deq_str, DL.tysB_bool, DL.tysB_int, DL.tysB_str, DL.tysB_tuple, DL.tysB_list, DL.tysB_dict, DL.isT_NoneType_bool, DL.isT_NoneType_int, DL.isT_NoneType_str, DL.isT_NoneType_tuple, DL.isT_NoneType_list, DL.isT_NoneType_dict, DL.isT_bool_bool, DL.isT_bool_int, DL.isT_bool_str, DL.isT_bool_tuple, DL.isT_bool_list, DL.isT_bool_dict, DL.isT_int_bool, DL.isT_int_int, DL.isT_int_str, DL.isT_int_tuple, DL.isT_int_list, DL.isT_int_dict, DL.isT_str_bool, DL.isT_str_int, DL.isT_str_str, DL.isT_str_tuple, DL.isT_str_list, DL.isT_str_dict, DL.isT_tuple_bool, DL.isT_tuple_int, DL.isT_tuple_str, DL.isT_tuple_tuple, DL.isT_tuple_list, DL.isT_tuple_dict, DL.isT_list_bool, DL.isT_list_int, DL.isT_list_str, DL.isT_list_tuple, DL.isT_list_list, DL.isT_list_dict, DL.isT_dict_bool, DL.isT_dict_int, DL.isT_dict_str, DL.isT_dict_tuple, DL.isT_dict_list, DL.isT_dict_dict, true_and, and_true, eq_self, Bool.or_true, Bool.true_or, Bool.or_false, Bool.false_or, Bool.and_true, Bool.true_and, Bool.and_false, Bool.false_and, Bool.false_eq_true, ↓reduceIte, decide_true, decide_false, DL.tyD, DL.kyD, DL.atD, DL.atI_0, DL.atI_1, DL.atI_2, DL.atI_3, DL.atI_4, DL.atI_5, DL.atI_6, DL.atI_7, DL.atI_8, DL.atI_9, DL.atI_10, DL.atI_11, DL.atI_12, DL.ixN_0, DL.ixN_1, DL.upG_same, DL.upG_upG, List.getElem?_cons_zero, List.getElem?_cons_succ, List.cons_append, List.nil_append, Nat.add_one_sub_one, Nat.reduceAdd, Nat.reduceSub, List.length_cons, List.length_nil, decide_eq_true_eq, Bool.not_true, Bool.not_false, List.replicate_succ, List.replicate_zero, List.set_cons_zero, List.set_cons_succ, List.map_cons, List.map_nil]
        simp only [List.mem_cons, List.not_mem_nil, or_false] at hz
        have hz' : okS (n - 1) z = true := by
          rcases hz with e | e
          · rw [e]; exact hd.2.1
          · rw [e]; exact hd.2.2
        cases z with
        | ty a => simp [okS] at hz'
        | ins a b => simp [okS] at hz'
        | cls a => simp [okS] at hz'
        | ref a => simp [okS] at hz'
        | _ =>
          simp -dsimp only [↓DL.thn_nx, ↓DL.thn_rt, ↓DL.thn_ex, ↓DL.thn_bk, ↓DL.thn_ct, ↓DL.trn_nx, ↓DL.trn_rt, ↓DL.trn_ex, ↓DL.trn_bk, ↓DL.trn_ct, DL.Br_true, DL.Br_false, ↓DL.dSeq, ↓DL.dNext, ↓DL.dPass, ↓DL.dBrk, ↓DL.dCnt, ↓DL.dDrop, ↓DL.dRet, ↓DL.dRetN, ↓DL.dIfS, ↓DL.gdName, ↓DL.gdNil, ↓DL.gdCons, ↓DL.gdTup, ↓DL.gdSub, ↓DL.dAsg, ↓DL.dPar, ↓DL.dVar, ↓DL.dC, ↓DL.dUn, ↓DL.dBin, ↓DL.dTest, ↓DL.dNot, ↓DL.dAnd, ↓DL.dOr, ↓DL.dVal, ↓DL.dAndV, ↓DL.dOrV, ↓DL.dNotV, ↓DL.dIf, ↓DL.dNil, ↓DL.dCons, ↓DL.dChain, ↓DL.dTup, ↓DL.dLst, ↓DL.dLstM, ↓DL.dCB, ↓DL.dFor, ↓DL.dLc, ↓DL.dLcM, ↓DL.lcLoop, ↓DL.dYes, ↓DL.diVal, ↓DL.diRng1, ↓DL.diRng2, ↓DL.diEnum, ↓DL.diZip, ↓DL.walkD, ↓DL.dCall, ↓DL.dSl, ↓DL.dDct0, ↓DL.dDctM0, ↓DL.rII, ↓DL.rLt, ↓DL.rLe, ↓DL.rGt, ↓DL.rGe, ↓DL.rSub, ↓DL.rMul, ↓DL.rDivP, ↓DL.rDiv, ↓DL.rModP, ↓DL.rPow, ↓DL.rNeg, ↓DL.rAdd, ↓DL.rEq, ↓DL.rNe, ↓DL.rIsN, ↓DL.rNotN, ↓DL.isN, ↓DL.cmp, ↓DL.rIn, ↓DL.rNotIn, ↓DL.rInB, ↓DL.rIx, ↓DL.rSl, ↓DL.rLen, ↓DL.rAbs, ↓DL.rMax2, ↓DL.rMin2, ↓DL.rInt1, ↓DL.rStr1, ↓DL.rDivmod, ↓DL.rListF, ↓DL.rListM, ↓DL.rTuple, ↓DL.rAll, ↓DL.rAny, ↓DL.rSum, ↓DL.rMaxL, ↓DL.rMinL, ↓DL.rIsi, ↓DL.rRepr, ↓DL.rSetD, ↓DL.itemsD, ↓DL.lstD, DL.slots, DL.dWipe, DL.rs_non, DL.rs_bl, DL.rs_i, DL.rs_s, DL.rs_ty, DL.rs_t, DL.rs_l, DL.rs_k, DL.rs_d, DL.rs_in, DL.rs_c, DL.rs_upl, DL.rs_upd, DL.rs_upi, DL.okQ, DL.isS, DL.okN_int, DL.okN_bl, DL.okN_non, DL.deq_ii, DL.okN_ii, DL.deq_int, DL.deq_bl, DL.deq_str, DL.tysB_bool, DL.tysB_int, DL.tysB_str, DL.tysB_tuple, DL.tysB_list, DL.tysB_dict, DL.isT_NoneType_bool, DL.isT_NoneType_int, DL.isT_NoneType_str, DL.isT_NoneType_tuple, DL.isT_NoneType_list, DL.isT_NoneType_dict, DL.isT_bool_bool, DL.isT_bool_int, DL.isT_bool_str, DL.isT_bool_tuple, DL.isT_bool_list, DL.isT_bool_dict, DL.isT_int_bool, DL.isT_int_int, DL.isT_int_str, DL.isT_int_tuple, DL.isT_int_list, DL.isT_int_dict, DL.isT_str_bool, DL.isT_str_int, DL.isT_str_str, DL.isT_str_tuple, DL.isT_str_list, DL.isT_str_dict, DL.isT_tuple_bool, DL.isT_tuple_int, DL.isT_tuple_str, DL.isT_tuple_tuple, DL.isT_tuple_list, DL.isT_tuple_dict, DL.isT_list_bool, DL.isT_list_int, DL.isT_list_str, DL.isT_list_tuple, DL.isT_list_list, DL.isT_list_dict, DL.isT_dict_bool, DL.isT_dict_int, DL.isT_dict_str, DL.isT_dict_tuple, DL.isT_dict_list, DL.isT_dict_dict, true_and, and_true, eq_self, Bool.or_true, Bool.true_or, Bool.or_false, Bool.false_or, Bool.and_true, Bool.true_and, Bool.and_false, Bool.false_and, Bool.false_eq_true, ↓reduceIte, decide_true, decide_false, DL.tyD, DL.kyD, DL.atD, DL.atI_0, DL.atI_1, DL.atI_2, DL.atI_3, DL.atI_4, DL.atI_5, DL.atI_6, DL.atI_7, DL.atI_8, DL.atI_9, DL.atI_10, DL.atI_11, DL.atI_12, DL.ixN_0, DL.ixN_1, DL.upG_same, DL.upG_upG, List.getElem?_cons_zero, List.getElem?_cons_succ, List.cons_append, List.nil_append, Nat.add_one_sub_one, Nat.reduceAdd, Nat.reduceSub, List.length_cons, List.length_nil, decide_eq_true_eq, Bool.not_true, Bool.not_false, List.replicate_succ, List.replicate_zero, List.set_cons_zero, List.set_cons_succ, List.map_cons, List.map_nil]
          exact hr
      · simp -dsimp only [↓DL.thn_nx, ↓DL.thn_rt, ↓DL.thn_ex, ↓DL.thn_bk, ↓DL.thn_ct, ↓DL.trn_nx, ↓DL.trn_rt, ↓DL.trn_ex, ↓DL.trn_bk, ↓DL.trn_ct, DL.Br_true, DL.Br_false, ↓DL.dSeq, ↓DL.dNext, ↓DL.dPass, ↓DL.dBrk, ↓DL.dCnt, ↓DL.dDrop, ↓DL.dRet, ↓DL.dRetN, ↓DL.dIfS, ↓DL.gdName, ↓DL.gdNil, ↓DL.gdCons, ↓DL.gdTup, ↓DL.gdSub, ↓DL.dAsg, ↓DL.dPar, ↓DL.dVar, ↓DL.dC, ↓DL.dUn, ↓DL.dBin, ↓DL.dTest, ↓DL.dNot, ↓DL.dAnd, ↓DL.dOr, ↓DL.dVal, ↓DL.dAndV, ↓DL.dOrV, ↓DL.dNotV, ↓DL.dIf, ↓DL.dNil, ↓DL.dCons, ↓DL.dChain, ↓DL.dTup, ↓DL.dLst, ↓DL.dLstM, ↓DL.dCB, ↓DL.dFor, ↓DL.dLc, ↓DL.dLcM, ↓DL.lcLoop, ↓DL.dYes, ↓DL.diVal, ↓DL.diRng1, ↓DL.diRng2, ↓DL.diEnum, ↓DL.diZip, ↓DL.walkD, ↓DL.dCall, ↓DL.dSl, ↓DL.dDct0, ↓DL.dDctM0, ↓DL.rII, ↓DL.rLt, ↓DL.rLe, ↓DL.rGt, ↓DL.rGe, ↓DL.rSub, ↓DL.rMul, ↓DL.rDivP, ↓DL.rDiv, ↓DL.rModP, ↓DL.rPow, ↓DL.rNeg, ↓DL.rAdd, ↓DL.rEq, ↓DL.rNe, ↓DL.rIsN, ↓DL.rNotN, ↓DL.isN, ↓DL.cmp, ↓DL.rIn, ↓DL.rNotIn, ↓DL.rInB, ↓DL.rIx, ↓DL.rSl, ↓DL.rLen, ↓DL.rAbs, ↓DL.rMax2, ↓DL.rMin2, ↓DL.rInt1, ↓DL.rStr1, ↓DL.rDivmod, ↓DL.rListF, ↓DL.rListM, ↓DL.rTuple, ↓DL.rAll, ↓DL.rAny, ↓DL.rSum, ↓DL.rMaxL, ↓DL.rMinL, ↓DL.rIsi, ↓DL.rRepr, ↓DL.rSetD, ↓DL.itemsD, ↓DL.lstD, DL.slots, DL.dWipe, DL.rs_non, DL.rs_bl, DL.rs_i, DL.rs_s, DL.rs_ty, DL.rs_t, DL.rs_l, DL.rs_k, DL.rs_d, DL.rs_in, DL.rs_c, DL.rs_upl, DL.rs_upd, DL.rs_upi, DL.okQ, DL.isS, DL.okN_int, DL.okN_bl, DL.okN_non, DL.deq_ii, DL.okN_ii, DL.deq_int, DL.deq_bl, DL.deq_str, DL.tysB_bool, DL.tysB_int, DL.tysB_str, DL.tysB_tuple, DL.tysB_list, DL.tysB_dict, DL.isT_NoneType_bool, DL.isT_NoneType_int, DL.isT_NoneType_str, DL.isT_NoneType_tuple, DL.isT_NoneType_list, DL.isT_NoneType_dict, DL.isT_bool_bool, DL.isT_bool_int, DL.isT_bool_str, DL.isT_bool_tuple, DL.isT_bool_list, DL.isT_bool_dict, DL.isT_int_bool, DL.isT_int_int, DL.isT_int_str, DL.isT_int_tuple, DL.isT_int_list, DL.isT_int_dict, DL.isT_str_bool, DL.isT_str_int, DL.isT_str_str, DL.isT_str_tuple, DL.isT_str_list, DL.isT_str_dict, DL.isT_tuple_bool, DL.isT_tuple_int, DL.isT_tuple_str, DL.isT_tuple_tuple, DL.isT_tuple_list, DL.isT_tuple_dict, DL.isT_list_bool, DL.isT_list_int, DL.isT_list_str, DL.isT_list_tuple, DL.isT_list_list, DL.isT_list_dict, DL.isT_dict_bool, DL.isT_dict_int, DL.isT_dict_str, DL.isT_dict_tuple, DL.isT_dict_list, DL.isT_dict_dict, true_and, and_true, eq_self, Bool.or_true, Bool.true_or, Bool.or_false, Bool.false_or, Bool.and_true, Bool.true_and, Bool.and_false, Bool.false_and, Bool.false_eq_true, ↓reduceIte, decide_true, decide_false, DL.tyD, DL.kyD, DL.atD, DL.atI_0, DL.atI_1, DL.atI_2, DL.atI_3, DL.atI_4, DL.atI_5, DL.atI_6, DL.atI_7, DL.atI_8, DL.atI_9, DL.atI_10, DL.atI_11, DL.atI_12, DL.ixN_0, DL.ixN_1, DL.upG_same, DL.upG_upG, List.getElem?_cons_zero, List.getElem?_cons_succ, List.cons_append, List.nil_append, Nat.add_one_sub_one, Nat.reduceAdd, Nat.reduceSub, List.length_cons, List.length_nil, decide_eq_true_eq, Bool.not_true, Bool.not_false, List.replicate_succ, List.replicate_zero, List.set_cons_zero, List.set_cons_succ, List.map_cons, List.map_nil]
        refine ⟨[isI x, isI y], rfl, ?_⟩
        cases x with
        | int a =>
          cases y with
          | int b =>
            simp -dsimp only [↓DL.thn_nx, ↓DL.thn_rt, ↓DL.thn_ex, ↓DL.thn_bk, ↓DL.thn_ct, ↓DL.trn_nx, ↓DL.trn_rt, ↓DL.trn_ex, ↓DL.trn_bk, ↓DL.trn_ct, DL.Br_true, DL.Br_false, ↓DL.dSeq, ↓DL.dNext, ↓DL.dPass, ↓DL.dBrk, ↓DL.dCnt, ↓DL.dDrop, ↓DL.dRet, ↓DL.dRetN, ↓DL.dIfS, ↓DL.gdName, ↓DL.gdNil, ↓DL.gdCons, ↓DL.gdTup, ↓DL.gdSub, ↓DL.dAsg, ↓DL.dPar, ↓DL.dVar, ↓DL.dC, ↓DL.dUn, ↓DL.dBin, ↓DL.dTest, ↓DL.dNot, ↓DL.dAnd, ↓DL.dOr, ↓DL.dVal, ↓DL.dAndV, ↓DL.dOrV, ↓DL.dNotV, ↓DL.dIf, ↓DL.dNil, ↓DL.dCons, ↓DL.dChain, ↓DL.dTup, ↓DL.dLst, ↓DL.dLstM, ↓DL.dCB, ↓DL.dFor, ↓DL.dLc, ↓DL.dLcM, ↓DL.lcLoop, ↓DL.dYes, ↓DL.diVal, ↓DL.diRng1, ↓DL.diRng2, ↓DL.diEnum, ↓DL.diZip, ↓DL.walkD, ↓DL.dCall, ↓DL.dSl, ↓DL.dDct0, ↓DL.dDctM0, ↓DL.rII, ↓DL.rLt, ↓DL.rLe, ↓DL.rGt, ↓DL.rGe, ↓DL.rSub, ↓DL.rMul, ↓DL.rDivP, ↓DL.rDiv, ↓DL.rModP, ↓DL.rPow, ↓DL.rNeg, ↓DL.rAdd, ↓DL.rEq, ↓DL.rNe, ↓DL.rIsN, ↓DL.rNotN, ↓DL.isN, ↓DL.cmp, ↓DL.rIn, ↓DL.rNotIn, ↓DL.rInB, ↓DL.rIx, ↓DL.rSl, ↓DL.rLen, ↓DL.rAbs, ↓DL.rMax2, ↓DL.rMin2, ↓DL.rInt1, ↓DL.rStr1, ↓DL.rDivmod, ↓DL.rListF, ↓DL.rListM, ↓DL.rTuple, ↓DL.rAll, ↓DL.rAny, ↓DL.rSum, ↓DL.rMaxL, ↓DL.rMinL, ↓DL.rIsi, ↓DL.rRepr, ↓DL.rSetD, ↓DL.itemsD, ↓DL.lstD, DL.slots, DL.dWipe, DL.rs_non, DL.rs_bl, DL.rs_i, DL.rs_s, DL.rs_ty, DL.rs_t, DL.rs_l, DL.rs_k, DL.rs_d, DL.rs_in, DL.rs_c, DL.rs_upl, DL.rs_upd, DL.rs_upi, DL.okQ, DL.isS, DL.okN_int, DL.okN_bl, DL.okN_non, DL.deq_ii, DL.okN_ii, DL.deq_int, DL.deq_bl, DL.deq_str, DL.tysB_bool, DL.tysB_int, DL.tysB_str, DL.tysB_tuple, DL.tysB_list, DL.tysB_dict, DL.isT_NoneType_bool, DL.isT_NoneType_int, DL.isT_NoneType_str, DL.isT_NoneType_tuple, DL.isT_NoneType_list, DL.isT_NoneType_dict, DL.isT_bool_bool, DL.isT_bool_int, DL.isT_bool_str, DL.isT_bool_tuple, DL.isT_bool_list, DL.isT_bool_dict, DL.isT_int_bool, DL.isT_int_int, DL.isT_int_str, DL.isT_int_tuple, DL.isT_int_list, DL.isT_int_dict, DL.isT_str_bool, DL.isT_str_int, DL.isT_str_str, DL.isT_str_tuple, DL.isT_str_list, DL.isT_str_dict, DL.isT_tuple_bool, DL.isT_tuple_int, DL.isT_tuple_str, DL.isT_tuple_tuple, DL.isT_tuple_list, DL.isT_tuple_dict, DL.isT_list_bool, DL.isT_list_int, DL.isT_list_str, DL.isT_list_tuple, DL.isT_list_list, DL.isT_list_dict, DL.isT_dict_bool, DL.isT_dict_int, DL.isT_dict_str, DL.isT_dict_tuple, DL.isT_dict_list, DL.isT_dict_dict, true_and, and_true, eq_self, Bool.or_true, Bool.true_or, Bool.or_false, Bool.false_or, Bool.and_true, Bool.true_and, Bool.and_false, Bool.false_and, Bool.false_eq_true, ↓reduceIte, decide_true, decide_false, DL.tyD, DL.kyD, DL.atD, DL.atI_0, DL.atI_1, DL.atI_2, DL.atI_3, DL.atI_4, DL.atI_5, DL.atI_6, DL.atI_7, DL.atI_8, DL.atI_9, DL.atI_10, DL.atI_11, DL.atI_12, DL.ixN_0, DL.ixN_1, DL.upG_same, DL.upG_upG, List.getElem?_cons_zero, List.getElem?_cons_succ, List.cons_append, List.nil_append, Nat.add_one_sub_one, Nat.reduceAdd, Nat.reduceSub, List.length_cons, List.length_nil, decide_eq_true_eq, Bool.not_true, Bool.not_false, List.replicate_succ, List.replicate_zero, List.set_cons_zero, List.set_cons_succ, List.map_cons, List.map_nil, isI, List.all_cons, List.all_nil, id]
            by_cases hb : 0 < b
            · (refine br_pos hb ?_; try simp -dsimp only [↓DL.thn_nx, ↓DL.thn_rt, ↓DL.thn_ex, ↓DL.thn_bk, ↓DL.thn_ct, ↓DL.trn_nx, ↓DL.trn_rt, ↓DL.trn_ex, ↓DL.trn_bk, ↓DL.trn_ct, DL.Br_true, DL.Br_false, ↓DL.dSeq, ↓DL.dNext, ↓DL.dPass, ↓DL.dBrk, ↓DL.dCnt, ↓DL.dDrop, ↓DL.dRet, ↓DL.dRetN, ↓DL.dIfS, ↓DL.gdName, ↓DL.gdNil, ↓DL.gdCons, ↓DL.gdTup, ↓DL.gdSub, ↓DL.dAsg, ↓DL.dPar, ↓DL.dVar, ↓DL.dC, ↓DL.dUn, ↓DL.dBin, ↓DL.dTest, ↓DL.dNot, ↓DL.dAnd, ↓DL.dOr, ↓DL.dVal, ↓DL.dAndV, ↓DL.dOrV, ↓DL.dNotV, ↓DL.dIf, ↓DL.dNil, ↓DL.dCons, ↓DL.dChain, ↓DL.dTup, ↓DL.dLst, ↓DL.dLstM, ↓DL.dCB, ↓DL.dFor, ↓DL.dLc, ↓DL.dLcM, ↓DL.lcLoop, ↓DL.dYes, ↓DL.diVal, ↓DL.diRng1, ↓DL.diRng2, ↓DL.diEnum, ↓DL.diZip, ↓DL.walkD, ↓DL.dCall, ↓DL.dSl, ↓DL.dDct0, ↓DL.dDctM0, ↓DL.rII, ↓DL.rLt, ↓DL.rLe, ↓DL.rGt, ↓DL.rGe, ↓DL.rSub, ↓DL.rMul, ↓DL.rDivP, ↓DL.rDiv, ↓DL.rModP, ↓DL.rPow, ↓DL.rNeg, ↓DL.rAdd, ↓DL.rEq, ↓DL.rNe, ↓DL.rIsN, ↓DL.rNotN, ↓DL.isN, ↓DL.cmp, ↓DL.rIn, ↓DL.rNotIn, ↓DL.rInB, ↓DL.rIx, ↓DL.rSl, ↓DL.rLen, ↓DL.rAbs, ↓DL.rMax2, ↓DL.rMin2, ↓DL.rInt1, ↓DL.rStr1, ↓DL.rDivmod, ↓DL.rListF, ↓DL.rListM, ↓DL.rTuple, ↓DL.rAll, ↓DL.rAny, ↓DL.rSum, ↓DL.rMaxL, ↓DL.rMinL, ↓DL.rIsi, ↓DL.rRepr, ↓DL.rSetD, ↓DL.itemsD, ↓DL.lstD, DL.slots, DL.dWipe, DL.rs_non, DL.rs_bl, DL.rs_i, DL.rs_s, DL.rs_ty, DL.rs_t, DL.rs_l, DL.rs_k, DL.rs_d, DL.rs_in, DL.rs_c, DL.rs_upl, DL.rs_upd, DL.rs_upi, DL.okQ, DL.isS, DL.okN_int, DL.okN_bl, DL.okN_non, DL.deq_ii, DL.okN_ii, DL.deq_int, DL.deq_bl, DL.deq_str, DL.tysB_bool, DL.tysB_int, DL.tysB_str, DL.tysB_tuple, DL.tysB_list, DL.tysB_dict, DL.isT_NoneType_bool, DL.isT_NoneType_int, DL.isT_NoneType_str, DL.isT_NoneType_tuple, DL.isT_NoneType_list, DL.isT_NoneType_dict, DL.isT_bool_bool, DL.isT_bool_int, DL.isT_bool_str, DL.isT_bool_tuple, DL.isT_bool_list, DL.isT_bool_dict, DL.isT_int_bool, DL.isT_int_int, DL.isT_int_str, DL.isT_int_tuple, DL.isT_int_list, DL.isT_int_dict, DL.isT_str_bool, DL.isT_str_int, DL.isT_str_str, DL.isT_str_tuple, DL.isT_str_list, DL.isT_str_dict, DL.isT_tuple_bool, DL.isT_tuple_int, DL.isT_tuple_str, DL.isT_tuple_tuple, DL.isT_tuple_list, DL.isT_tuple_dict, DL.isT_list_bool, DL.isT_list_int, DL.isT_list_str, DL.isT_list_tuple, DL.isT_list_list, DL.isT_list_dict, DL.isT_dict_bool, DL.isT_dict_int, DL.isT_dict_str, DL.isT_dict_tuple, DL.isT_dict_list, DL.isT_dict_dict, true_and, and_true, eq_self, Bool.or_true, Bool.true_or, Bool.or_false, Bool.false_or, Bool.and_true, Bool.true_and, Bool.and_false, Bool.false_and, Bool.false_eq_true, ↓reduceIte, decide_true, decide_false, DL.tyD, DL.kyD, DL.atD, DL.atI_0, DL.atI_1, DL.atI_2, DL.atI_3, DL.atI_4, DL.atI_5, DL.atI_6, DL.atI_7, DL.atI_8, DL.atI_9, DL.atI_10, DL.atI_11, DL.atI_12, DL.ixN_0, DL.ixN_1, DL.upG_same, DL.upG_upG, List.getElem?_cons_zero, List.getElem?_cons_succ, List.cons_append, List.nil_append, Nat.add_one_sub_one, Nat.reduceAdd, Nat.reduceSub, List.length_cons, List.length_nil, decide_eq_true_eq, Bool.not_true, Bool.not_false, List.replicate_succ, List.replicate_zero, List.set_cons_zero, List.set_cons_succ, List.map_cons, List.map_nil])
              refine ⟨a, b, rfl, ?_⟩
              simp -dsimp only [↓DL.thn_nx, ↓DL.thn_rt, ↓DL.thn_ex, ↓DL.thn_bk, ↓DL.thn_ct, ↓DL.trn_nx, ↓DL.trn_rt, ↓DL.trn_ex, ↓DL.trn_bk, ↓DL.trn_ct, DL.Br_true, DL.Br_false, ↓DL.dSeq, ↓DL.dNext, ↓DL.dPass, ↓DL.dBrk, ↓DL.dCnt, ↓DL.dDrop, ↓DL.dRet, ↓DL.dRetN, ↓DL.dIfS, ↓DL.gdName, ↓DL.gdNil, ↓DL.gdCons, ↓DL.gdTup, ↓DL.gdSub, ↓DL.dAsg, ↓DL.dPar, ↓DL.dVar, ↓DL.dC, ↓DL.dUn, ↓DL.dBin, ↓DL.dTest, ↓DL.dNot, ↓DL.dAnd, ↓DL.dOr, ↓DL.dVal, ↓DL.dAndV, ↓DL.dOrV, ↓DL.dNotV, ↓DL.dIf, ↓DL.dNil, ↓DL.dCons, ↓DL.dChain, ↓DL.dTup, ↓DL.dLst, ↓DL.dLstM, ↓DL.dCB, ↓DL.dFor, ↓DL.dLc, ↓DL.dLcM, ↓DL.lcLoop, ↓DL.dYes, ↓DL.diVal, ↓DL.diRng1, ↓DL.diRng2, ↓DL.diEnum, ↓DL.diZip, ↓DL.walkD, ↓DL.dCall, ↓DL.dSl, ↓DL.dDct0, ↓DL.dDctM0, ↓DL.rII, ↓DL.rLt, ↓DL.rLe, ↓DL.rGt, ↓DL.rGe, ↓DL.rSub, ↓DL.rMul, ↓DL.rDivP, ↓DL.rDiv, ↓DL.rModP, ↓DL.rPow, ↓DL.rNeg, ↓DL.rAdd, ↓DL.rEq, ↓DL.rNe, ↓DL.rIsN, ↓DL.rNotN, ↓DL.isN, ↓DL.cmp, ↓DL.rIn, ↓DL.rNotIn, ↓DL.rInB, ↓DL.rIx, ↓DL.rSl, ↓DL.rLen, ↓DL.rAbs, ↓DL.rMax2, ↓DL.rMin2, ↓DL.rInt1, ↓DL.rStr1, ↓DL.rDivmod, ↓DL.rListF, ↓DL.rListM, ↓DL.rTuple, ↓DL.rAll, ↓DL.rAny, ↓DL.rSum, ↓DL.rMaxL, ↓DL.rMinL, ↓DL.rIsi, ↓DL.rRepr, ↓DL.rSetD, ↓DL.itemsD, ↓DL.lstD, DL.slots, DL.dWipe, DL.rs_non, DL.rs_bl, DL.rs_i, DL.rs_s, DL.rs_ty, DL.rs_t, DL.rs_l, DL.rs_k, DL.rs_d, DL.rs_in, DL.rs_c, DL.rs_upl, DL.rs_upd, DL.rs_upi, DL.okQ, DL.isS, DL.okN_int, DL.okN_bl, DL.okN_non, DL.deq_ii, DL.okN_ii, DL.deq_int, DL.deq_bl, DL.deq_str, DL.tysB_bool, DL.tysB_int, DL.tysB_str, DL.tysB_tuple, DL.tysB_list, DL.tysB_dict, DL.isT_NoneType_bool, DL.isT_NoneType_int, DL.isT_NoneType_str, DL.isT_NoneType_tuple, DL.isT_NoneType_list, DL.isT_NoneType_dict, DL.isT_bool_bool, DL.isT_bool_int, DL.isT_bool_str, DL.isT_bool_tuple, DL.isT_bool_list, DL.isT_bool_dict, DL.isT_int_bool, DL.isT_int_int, DL.isT_int_str, DL.isT_int_tuple, DL.isT_int_list, DL.isT_int_dict, DL.isT_str_bool, DL.isT_str_int, DL.isT_str_str, DL.isT_str_tuple, DL.isT_str_list, DL.isT_str_dict, DL.isT_tuple_bool, DL.isT_tuple_int, DL.isT_tuple_str, DL.isT_tuple_tuple, DL.isT_tuple_list, DL.isT_tuple_dict, DL.isT_list_bool, DL.isT_list_int, DL.isT_list_str, DL.isT_list_tuple, DL.isT_list_list, DL.isT_list_dict, DL.isT_dict_bool, DL.isT_dict_int, DL.isT_dict_str, DL.isT_dict_tuple, DL.isT_dict_list, DL.isT_dict_dict, true_and, and_true, eq_self, Bool.or_true, Bool.true_or, Bool.or_false, Bool.false_or, Bool.and_true, Bool.true_and, Bool.and_false, Bool.false_and, Bool.false_eq_true, ↓reduceIte, decide_true, decide_false, DL.tyD, DL.kyD, DL.atD, DL.atI_0, DL.atI_1, DL.atI_2, DL.atI_3, DL.atI_4, DL.atI_5, DL.atI_6, DL.atI_7, DL.atI_8, DL.atI_9, DL.atI_10, DL.atI_11, DL.atI_12, DL.ixN_0, DL.ixN_1, DL.upG_same, DL.upG_upG, List.getElem?_cons_zero, List.getElem?_cons_succ, List.cons_append, List.nil_append, Nat.add_one_sub_one, Nat.reduceAdd, Nat.reduceSub, List.length_cons, List.length_nil, decide_eq_true_eq, Bool.not_true, Bool.not_false, List.replicate_succ, List.replicate_zero, List.set_cons_zero, List.set_cons_succ, List.map_cons, List.map_nil]
              have e : isF (.tup [.int a, .int b]) = decide (gI a b = 1) := by
                show (decide (b > 0) && decide (gI a b = 1)) = _
                rw [decide_eq_true hb, Bool.true_and]
              rw [e] at h
              exact be_rt h
            · (refine br_neg hb ?_; try simp -dsimp only [↓DL.thn_nx, ↓DL.thn_rt, ↓DL.thn_ex, ↓DL.thn_bk, ↓DL.thn_ct, ↓DL.trn_nx, ↓DL.trn_rt, ↓DL.trn_ex, ↓DL.trn_bk, ↓DL.trn_ct, DL.Br_true, DL.Br_false, ↓DL.dSeq, ↓DL.dNext, ↓DL.dPass, ↓DL.dBrk, ↓DL.dCnt, ↓DL.dDrop, ↓DL.dRet, ↓DL.dRetN, ↓DL.dIfS, ↓DL.gdName, ↓DL.gdNil, ↓DL.gdCons, ↓DL.gdTup, ↓DL.gdSub, ↓DL.dAsg, ↓DL.dPar, ↓DL.dVar, ↓DL.dC, ↓DL.dUn, ↓DL.dBin, ↓DL.dTest, ↓DL.dNot, ↓DL.dAnd, ↓DL.dOr, ↓DL.dVal, ↓DL.dAndV, ↓DL.dOrV, ↓DL.dNotV, ↓DL.dIf, ↓DL.dNil, ↓DL.dCons, ↓DL.dChain, ↓DL.dTup, ↓DL.dLst, ↓DL.dLstM, ↓DL.dCB, ↓DL.dFor, ↓DL.dLc, ↓DL.dLcM, ↓DL.lcLoop, ↓DL.dYes, ↓DL.diVal, ↓DL.diRng1, ↓DL.diRng2, ↓DL.diEnum, ↓DL.diZip, ↓DL.walkD, ↓DL.dCall, ↓DL.dSl, ↓DL.dDct0, ↓DL.dDctM0, ↓DL.rII, ↓DL.rLt, ↓DL.rLe, ↓DL.rGt, ↓DL.rGe, ↓DL.rSub, ↓DL.rMul, ↓DL.rDivP, ↓DL.rDiv, ↓DL.rModP, ↓DL.rPow, ↓DL.rNeg, ↓DL.rAdd, ↓DL.rEq, ↓DL.rNe, ↓DL.rIsN, ↓DL.rNotN, ↓DL.isN, ↓DL.cmp, ↓DL.rIn, ↓DL.rNotIn, ↓DL.rInB, ↓DL.rIx, ↓DL.rSl, ↓DL.rLen, ↓DL.rAbs, ↓DL.rMax2, ↓DL.rMin2, ↓DL.rInt1, ↓DL.rStr1, ↓DL.rDivmod, ↓DL.rListF, ↓DL.rListM, ↓DL.rTuple, ↓DL.rAll, ↓DL.rAny, ↓DL.rSum, ↓DL.rMaxL, ↓DL.rMinL, ↓DL.rIsi, ↓DL.rRepr, ↓DL.rSetD, ↓DL.itemsD, ↓DL.lstD, DL.slots, DL.dWipe, DL.rs_non, DL.rs_bl, DL.rs_i, DL.rs_s, DL.rs_ty, DL.rs_t, DL.rs_l, DL.rs_k, DL.rs_d, DL.rs_in, DL.rs_c, DL.rs_upl, DL.rs_upd, DL.rs_upi, DL.okQ, DL.isS, DL.okN_int, DL.okN_bl, DL.okN_non, DL.deq_ii, DL.okN_ii, DL.deq_int, DL.deq_bl, DL.deq_str, DL.tysB_bool, DL.tysB_int, DL.tysB_str, DL.tysB_tuple, DL.tysB_list, DL.tysB_dict, DL.isT_NoneType_bool, DL.isT_NoneType_int, DL.isT_NoneType_str, DL.isT_NoneType_tuple, DL.isT_NoneType_list, DL.isT_NoneType_dict, DL.isT_bool_bool, DL.isT_bool_int, DL.isT_bool_str, DL.isT_bool_tuple, DL.isT_bool_list, DL.isT_bool_dict, DL.isT_int_bool, DL.isT_int_int, DL.isT_int_str, DL.isT_int_tuple, DL.isT_int_list, DL.isT_int_dict, DL.isT_str_bool, DL.isT_str_int, DL.isT_str_str, DL.isT_str_tuple, DL.isT_str_list, DL.isT_str_dict, DL.isT_tuple_bool, DL.isT_tuple_int, DL.isT_tuple_str, DL.isT_tuple_tuple, DL.isT_tuple_list, DL.isT_tuple_dict, DL.isT_list_bool, DL.isT_list_int, DL.isT_list_str, DL.isT_list_tuple, DL.isT_list_list, DL.isT_list_dict, DL.isT_dict_bool, DL.isT_dict_int, DL.isT_dict_str, DL.isT_dict_tuple, DL.isT_dict_list, DL.isT_dict_dict, true_and, and_true, eq_self, Bool.or_true, Bool.true_or, Bool.or_false, Bool.false_or, Bool.and_true, Bool.true_and, Bool.and_false, Bool.false_and, Bool.false_eq_true, ↓reduceIte, decide_true, decide_false, DL.tyD, DL.kyD, DL.atD, DL.atI_0, DL.atI_1, DL.atI_2, DL.atI_3, DL.atI_4, DL.atI_5, DL.atI_6, DL.atI_7, DL.atI_8, DL.atI_9, DL.atI_10, DL.atI_11, DL.atI_12, DL.ixN_0, DL.ixN_1, DL.upG_same, DL.upG_upG, List.getElem?_cons_zero, List.getElem?_cons_succ, List.cons_append, List.nil_append, Nat.add_one_sub_one, Nat.reduceAdd, Nat.reduceSub, List.length_cons, List.length_nil, decide_eq_true_eq, Bool.not_true, Bool.not_false, List.replicate_succ, List.replicate_zero, List.set_cons_zero, List.set_cons_succ, List.map_cons, List.map_nil])
              have e : isF (.tup [.int a, .int b]) = false := by
                show (decide (b > 0) && decide (gI a b = 1)) = _
                rw [decide_eq_false hb, Bool.false_and]
              rw [e] at h
              exact be_rt h
          | _ =>
            simp -dsimp only [↓DL.thn_nx, ↓DL.thn_rt, ↓DL.thn_ex, ↓DL.thn_bk, ↓DL.thn_ct, ↓DL.trn_nx, ↓DL.trn_rt, ↓DL.trn_ex, ↓DL.trn_bk, ↓DL.trn_ct, DL.Br_true, DL.Br_false, ↓DL.dSeq, ↓DL.dNext, ↓DL.dPass, ↓DL.dBrk, ↓DL.dCnt, ↓DL.dDrop, ↓DL.dRet, ↓DL.dRetN, ↓DL.dIfS, ↓DL.gdName, ↓DL.gdNil, ↓DL.gdCons, ↓DL.gdTup, ↓DL.gdSub, ↓DL.dAsg, ↓DL.dPar, ↓DL.dVar, ↓DL.dC, ↓DL.dUn, ↓DL.dBin, ↓DL.dTest, ↓DL.dNot, ↓DL.dAnd, ↓DL.dOr, ↓DL.dVal, ↓DL.dAndV, ↓DL.dOrV, ↓DL.dNotV, ↓DL.dIf, ↓DL.dNil, ↓DL.dCons, ↓DL.dChain, ↓DL.dTup, ↓DL.dLst, ↓DL.dLstM, ↓DL.dCB, ↓DL.dFor, ↓DL.dLc, ↓DL.dLcM, ↓DL.lcLoop, ↓DL.dYes, ↓DL.diVal, ↓DL.diRng1, ↓DL.diRng2, ↓DL.diEnum, ↓DL.diZip, ↓DL.walkD, ↓DL.dCall, ↓DL.dSl, ↓DL.dDct0, ↓DL.dDctM0, ↓DL.rII, ↓DL.rLt, ↓DL.rLe, ↓DL.rGt, ↓DL.rGe, ↓DL.rSub, ↓DL.rMul, ↓DL.rDivP, ↓DL.rDiv, ↓DL.rModP, ↓DL.rPow, ↓DL.rNeg, ↓DL.rAdd, ↓DL.rEq, ↓DL.rNe, ↓DL.rIsN, ↓DL.rNotN, ↓DL.isN, ↓DL.cmp, ↓DL.rIn, ↓DL.rNotIn, ↓DL.rInB, ↓DL.rIx, ↓DL.rSl, ↓DL.rLen, ↓DL.rAbs, ↓DL.rMax2, ↓DL.rMin2, ↓DL.rInt1, ↓DL.rStr1, ↓DL.rDivmod, ↓DL.rListF, ↓DL.rListM, ↓DL.rTuple, ↓DL.rAll, ↓DL.rAny, ↓DL.rSum, ↓DL.rMaxL, ↓DL.rMinL, ↓DL.rIsi, ↓DL.rRepr, ↓DL.rSetD, ↓DL.itemsD, ↓DL.lstD, DL.slots, DL.dWipe, DL.rs_non, DL.rs_bl, DL.rs_i, DL.rs_s, DL.rs_ty, DL.rs_t, DL.rs_l, DL.rs_k, DL.rs_d, DL.rs_in, DL.rs_c, DL.rs_upl, DL.rs_upd, DL.rs_upi, DL.okQ, DL.isS, DL.okN_int, DL.okN_bl, DL.okN_non, DL.deq_ii, DL.okN_ii, DL.deq_int, DL.deq_bl, DL.deq_str, DL.tysB_bool, DL.tysB_int, DL.tysB_str, DL.tysB_tuple, DL.tysB_list, DL.tysB_dict, DL.isT_NoneType_bool, DL.isT_NoneType_int, DL.isT_NoneType_str, DL.isT_NoneType_tuple, DL.isT_NoneType_list, DL.isT_NoneType_dict, DL.isT_bool_bool, DL.isT_bool_int, DL.isT_bool_str, DL.isT_bool_tuple, DL.isT_bool_list, DL.isT_bool_dict, DL.isT_int_bool, DL.isT_int_int, DL.isT_int_str, DL.isT_int_tuple, DL.isT_int_list, DL.isT_int_dict, DL.isT_str_bool, DL.isT_str_int, DL.isT_str_str, DL.isT_str_tuple, DL.isT_str_list, DL.isT_str_dict, DL.isT_tuple_bool, DL.isT_tuple_int, DL.isT_tuple_str, DL.isT_tuple_tuple, DL.isT_tuple_list, DL.isT_tuple_dict, DL.isT_list_bool, DL.isT_list_int, DL.isT_list_str, DL.isT_list_tuple, DL.isT_list_list, DL.isT_list_dict, DL.isT_dict_bool, DL.isT_dict_int, DL.isT_dict_str, DL.isT_dict_tuple, DL.isT_dict_list, DL.isT_dict_dict, true_and, and_true, eq_self, Bool.or_true, Bool.true_or, Bool.or_false, Bool.false_or, Bool.and_true, Bool.true_and, Bool.and_false, Bool.false_and, Bool.false_eq_true, ↓reduceIte, decide_true, decide_false, DL.tyD, DL.kyD, DL.atD, DL.atI_0, DL.atI_1, DL.atI_2, DL.atI_3, DL.atI_4, DL.atI_5, DL.atI_6, DL.atI_7, DL.atI_8, DL.atI_9, DL.atI_10, DL.atI_11, DL.atI_12, DL.ixN_0, DL.ixN_1, DL.upG_same, DL.upG_upG, List.getElem?_cons_zero, List.getElem?_cons_succ, List.cons_append, List.nil_append, Nat.add_one_sub_one, Nat.reduceAdd, Nat.reduceSub, List.length_cons, List.length_nil, decide_eq_true_eq, Bool.not_true, Bool.not_false, List.replicate_succ, List.replicate_zero, List.set_cons_zero, List.set_cons_succ, List.map_cons, List.map_nil, isI, List.all_cons, List.all_nil, id]
            exact be_rt h
        | _ =>
          simp -dsimp only [↓DL.thn_nx, ↓DL.thn_rt, ↓DL.thn_ex, ↓DL.thn_bk, ↓DL.thn_ct, ↓DL.trn_nx, ↓DL.trn_rt, ↓DL.trn_ex, ↓DL.trn_bk, ↓DL.trn_ct, DL.Br_true, DL.Br_false, ↓DL.dSeq, ↓DL.dNext, ↓DL.dPass, ↓DL.dBrk, ↓DL.dCnt, ↓DL.dDrop, ↓DL.dRet, ↓DL.dRetN, ↓DL.dIfS, ↓DL.gdName, ↓DL.gdNil, ↓DL.gdCons, ↓DL.gdTup, ↓DL.gdSub, ↓DL.dAsg, ↓DL.dPar, ↓DL.dVar, ↓DL.dC, ↓DL.dUn, ↓DL.dBin, ↓DL.dTest, ↓DL.dNot, ↓DL.dAnd, ↓DL.dOr, ↓DL.dVal, ↓DL.dAndV, ↓DL.dOrV, ↓DL.dNotV, ↓DL.dIf, ↓DL.dNil, ↓DL.dCons, ↓DL.dChain, ↓DL.dTup, ↓DL.dLst, ↓DL.dLstM, ↓DL.dCB, ↓DL.dFor, ↓DL.dLc, ↓DL.dLcM, ↓DL.lcLoop, ↓DL.dYes, ↓DL.diVal, ↓DL.diRng1, ↓DL.diRng2, ↓DL.diEnum, ↓DL.diZip, ↓DL.walkD, ↓DL.dCall, ↓DL.dSl, ↓DL.dDct0, ↓DL.dDctM0, ↓DL.rII, ↓DL.rLt, ↓DL.rLe, ↓DL.rGt, ↓DL.rGe, ↓DL.rSub, ↓DL.rMul, ↓DL.rDivP, ↓DL.rDiv, ↓DL.rModP, ↓DL.rPow, ↓DL.rNeg, ↓DL.rAdd, ↓DL.rEq, ↓DL.rNe, ↓DL.rIsN, ↓DL.rNotN, ↓DL.isN, ↓DL.cmp, ↓DL.rIn, ↓DL.rNotIn, ↓DL.rInB, ↓DL.rIx, ↓DL.rSl, ↓DL.rLen, ↓DL.rAbs, ↓DL.rMax2, ↓DL.rMin2, ↓DL.rInt1, ↓DL.rStr1, ↓DL.rDivmod, ↓DL.rListF, ↓DL.rListM, ↓DL.rTuple, ↓DL.rAll, ↓DL.rAny, ↓DL.rSum, ↓DL.rMaxL, ↓DL.rMinL, ↓DL.rIsi, ↓DL.rRepr, ↓DL.rSetD, ↓DL.itemsD, ↓DL.lstD, DL.slots, DL.dWipe, DL.rs_non, DL.rs_bl, DL.rs_i, DL.rs_s, DL.rs_ty, DL.rs_t, DL.rs_l, DL.rs_k, DL.rs_d, DL.rs_in, DL.rs_c, DL.rs_upl, DL.rs_upd, DL.rs_upi, DL.okQ, DL.isS, DL.okN_int, DL.okN_bl, DL.okN_non, DL.deq_ii, DL.okN_ii, DL.deq_int, DL.deq_bl, DL.deq_str, DL.tysB_bool, DL.tysB_int, DL.tysB_str, DL.tysB_tuple, DL.tysB_list, DL.tysB_dict, DL.isT_NoneType_bool, DL.isT_NoneType_int, DL.isT_NoneType_str, DL.isT_NoneType_tuple, DL.isT_NoneType_list, DL.isT_NoneType_dict, DL.isT_bool_bool, DL.isT_bool_int, DL.isT_bool_str, DL.isT_bool_tuple, DL.isT_bool_list, DL.isT_bool_dict, DL.isT_int_bool, DL.isT_int_int, DL.isT_int_str, DL.isT_int_tuple, DL.isT_int_list, DL.isT_int_dict, DL.isT_str_bool, DL.isT_str_int, DL.isT_str_str, DL.isT_str_tuple, DL.isT_str_list, DL.isT_str_dict, DL.isT_tuple_bool, DL.isT_tuple_int, DL.isT_tuple_str, DL.isT_tuple_tuple, DL.isT_tuple_list, DL.isT_tuple_dict, DL.isT_list_bool, DL.isT_list_int, DL.isT_list_str, DL.isT_list_tuple, DL.isT_list_list, DL.isT_list_dict, DL.isT_dict_bool, DL.isT_dict_int, DL.isT_dict_str, DL.isT_dict_tuple, DL.isT_dict_list, DL.isT_dict_dict, true_and, and_true, eq_self, Bool.or_true, Bool.true_or, Bool.or_false, Bool.false_or, Bool.and_true, Bool.true_and, Bool.and_false, Bool.false_and, Bool.false_eq_true, ↓reduceIte, decide_true, decide_false, DL.tyD, DL.kyD, DL.atD, DL.atI_0, DL.atI_1, DL.atI_2, DL.atI_3, DL.atI_4, DL.atI_5, DL.atI_6, DL.atI_7, DL.atI_8, DL.atI_9, DL.atI_10, DL.atI_11, DL.atI_12, DL.ixN_0, DL.ixN_1, DL.upG_same, DL.upG_upG, List.getElem?_cons_zero, List.getElem?_cons_succ, List.cons_append, List.nil_append, Nat.add_one_sub_one, Nat.reduceAdd, Nat.reduceSub, List.length_cons, List.length_nil, decide_eq_true_eq, Bool.not_true, Bool.not_false, List.replicate_succ, List.replicate_zero, List.set_cons_zero, List.set_cons_succ, List.map_cons, List.map_nil, isI, List.all_cons, List.all_nil, id]
          exact be_rt h
    · (refine br_nneg h2 ?_; try simp -dsimp only [↓DL.thn_nx, ↓DL.thn_rt, ↓DL.thn_ex, ↓DL.thn_bk, ↓DL.thn_ct, ↓DL.trn_nx, ↓DL.trn_rt, ↓DL.trn_ex, ↓DL.trn_bk, ↓DL.trn_ct, DL.Br_true, DL.Br_false, ↓DL.dSeq, ↓DL.dNext, ↓DL.dPass, ↓DL.dBrk, ↓DL.dCnt, ↓DL.dDrop, ↓DL.dRet, ↓DL.dRetN, ↓DL.dIfS, ↓DL.gdName, ↓DL.gdNil, ↓DL.gdCons, ↓DL.gdTup, ↓DL.gdSub, ↓DL.dAsg, ↓DL.dPar, ↓DL.dVar, ↓DL.dC, ↓DL.dUn, ↓DL.dBin, ↓DL.dTest, ↓DL.dNot, ↓DL.dAnd, ↓DL.dOr, ↓DL.dVal, ↓DL.dAndV, ↓DL.dOrV, ↓DL.dNotV, ↓DL.dIf, ↓DL.dNil, ↓DL.dCons, ↓DL.dChain, ↓DL.dTup, ↓DL.dLst, ↓DL.dLstM, ↓DL.dCB, ↓DL.dFor, ↓DL.dLc, ↓DL.dLcM, ↓DL.lcLoop, ↓DL.dYes, ↓DL.diVal, ↓DL.diRng1, ↓DL.diRng2, ↓DL.diEnum, ↓DL.diZip, ↓DL.walkD, ↓DL.dCall, ↓DL.dSl, ↓DL.dDct0, ↓DL.dDctM0, ↓DL.rII, ↓DL.rLt, ↓DL.rLe, ↓DL.rGt, ↓DL.rGe, ↓DL.rSub, ↓DL.rMul, ↓DL.rDivP, ↓DL.rDiv, ↓DL.rModP, ↓DL.rPow, ↓DL.rNeg, ↓DL.rAdd, ↓DL.rEq, ↓DL.rNe, ↓DL.rIsN, ↓DL.rNotN, ↓DL.isN, ↓DL.cmp, ↓DL.rIn, ↓DL.rNotIn, ↓DL.rInB, ↓DL.rIx, ↓DL.rSl, ↓DL.rLen, ↓DL.rAbs, ↓DL.rMax2, ↓DL.rMin2, ↓DL.rInt1, ↓DL.rStr1, ↓DL.rDivmod, ↓DL.rListF, ↓DL.rListM, ↓DL.rTuple, ↓DL.rAll, ↓DL.rAny, ↓DL.rSum, ↓DL.rMaxL, ↓DL.rMinL, ↓DL.rIsi, ↓DL.rRepr, ↓DL.rSetD, ↓DL.itemsD, ↓DL.lstD, DL.slots, DL.dWipe, DL.rs_non, DL.rs_bl, DL.rs_i, DL.rs_s, DL.rs_ty, DL.rs_t, DL.rs_l, DL.rs_k, DL.rs_d, DL.rs_in, DL.rs_c, DL.rs_upl, DL.rs_upd, DL.rs_upi, DL.okQ, DL.isS, DL.okN_int, DL.okN_bl, DL.okN_non, DL.deq_ii, DL.okN_ii, DL.deq_int, DL.deq_bl, DL.deq_str, DL.tysB_bool, DL.tysB_int, DL.tysB_str, DL.tysB_tuple, DL.tysB_list, DL.tysB_dict, DL.isT_NoneType_bool, DL.isT_NoneType_int, DL.isT_NoneType_str, DL.isT_NoneType_tuple, DL.isT_NoneType_list, DL.isT_NoneType_dict, DL.isT_bool_bool, DL.isT_bool_int, DL.isT_bool_str, DL.isT_bool_tuple, DL.isT_bool_list, DL.isT_bool_dict, DL.isT_int_bool, DL.isT_int_int, DL.isT_int_str, DL.isT_int_tuple, DL.isT_int_list, DL.isT_int_dict, DL.isT_str_bool, DL.isT_str_int, DL.isT_str_str, DL.isT_str_tuple, DL.isT_str_list, DL.isT_str_dict, DL.isT_tuple_bool, DL.isT_tuple_int, DL.isT_tuple_str, DL.isT_tuple_tuple, DL.isT_tuple_list, DL.isT_tuple_dict, DL.isT_list_bool, DL.isT_list_int, DL.isT_list_str, DL.isT_list_tuple, DL.isT_list_list, DL.isT_list_dict, DL.isT_dict_bool, DL.isT_dict_int, DL.isT_dict_str, DL.isT_dict_tuple, DL.isT_dict_list, DL.isT_dict_dict, true_and, and_true, eq_self, Bool.or_true, Bool.true_or, Bool.or_false, Bool.false_or, Bool.and_true, Bool.true_and, Bool.and_false, Bool.false_and, Bool.false_eq_true, ↓reduceIte, decide_true, decide_false, DL.tyD, DL.kyD, DL.atD, DL.atI_0, DL.atI_1, DL.atI_2, DL.atI_3, DL.atI_4, DL.atI_5, DL.atI_6, DL.atI_7, DL.atI_8, DL.atI_9, DL.atI_10, DL.atI_11, DL.atI_12, DL.ixN_0, DL.ixN_1, DL.upG_same, DL.upG_upG, List.getElem?_cons_zero, List.getElem?_cons_succ, List.cons_append, List.nil_append, Nat.add_one_sub_one, Nat.reduceAdd, Nat.reduceSub, List.length_cons, List.length_nil, decide_eq_true_eq, Bool.not_true, Bool.not_false, List.replicate_succ, List.replicate_zero, List.set_cons_zero, List.set_cons_succ, List.map_cons, List.map_nil])
      refine be_rt ?_
      have e : isF (.tup xs) = false := by
        unfold isF
        split
        · rename_i a b e
          cases e
          exact absurd rfl h2
        · rfl
      rw [← e]; exact h
  | _ =>
    simp -dsimp only [↓DL.thn_nx, ↓DL.thn_rt, ↓DL.thn_ex, ↓DL.thn_bk, ↓DL.thn_ct, ↓DL.trn_nx, ↓DL.trn_rt, ↓DL.trn_ex, ↓DL.trn_bk, ↓DL.trn_ct, DL.Br_true, DL.Br_false, ↓DL.dSeq, ↓DL.dNext, ↓DL.dPass, ↓DL.dBrk, ↓DL.dCnt, ↓DL.dDrop, ↓DL.dRet, ↓DL.dRetN, ↓DL.dIfS, ↓DL.gdName, ↓DL.gdNil, ↓DL.gdCons, ↓DL.gdTup, ↓DL.gdSub, ↓DL.dAsg, ↓DL.dPar, ↓DL.dVar, ↓DL.dC, ↓DL.dUn, ↓DL.dBin, ↓DL.dTest, ↓DL.dNot, ↓DL.dAnd, ↓DL.dOr, ↓DL.dVal, ↓DL.dAndV, ↓DL.dOrV, ↓DL.dNotV, ↓DL.dIf, ↓DL.dNil, ↓DL.dCons, ↓DL.dChain, ↓DL.dTup, ↓DL.dLst, ↓DL.dLstM, ↓DL.dCB, ↓DL.dFor, ↓DL.dLc, ↓DL.dLcM, ↓DL.lcLoop, ↓DL.dYes, ↓DL.diVal, ↓DL.diRng1, ↓DL.diRng2, ↓DL.diEnum, ↓DL.diZip, ↓DL.walkD, ↓DL.dCall, ↓DL.dSl, ↓DL.dDct0, ↓DL.dDctM0, ↓DL.rII, ↓DL.rLt, ↓DL.rLe, ↓DL.rGt, ↓DL.rGe, ↓DL.rSub, ↓DL.rMul, ↓DL.rDivP, ↓DL.rDiv, ↓DL.rModP, ↓DL.rPow, ↓DL.rNeg, ↓DL.rAdd, ↓DL.rEq, ↓DL.rNe, ↓DL.rIsN, ↓DL.rNotN, ↓DL.isN, ↓DL.cmp, ↓DL.rIn, ↓DL.rNotIn, ↓DL.rInB, ↓DL.rIx, ↓DL.rSl, ↓DL.rLen, ↓DL.rAbs, ↓DL.rMax2, ↓DL.rMin2, ↓DL.rInt1, ↓DL.rStr1, ↓DL.rDivmod, ↓DL.rListF, ↓DL.rListM, ↓DL.rTuple, ↓DL.rAll, ↓DL.rAny, ↓DL.rSum, ↓DL.rMaxL, ↓DL.rMinL, ↓DL.rIsi, ↓DL.rRepr, ↓DL.rSetD, ↓DL.itemsD, ↓DL.lstD, DL.slots, DL.dWipe, DL.rs_non, DL.rs_bl, DL.rs_i, DL.rs_s, DL.rs_ty, DL.rs_t, DL.rs_l, DL.rs_k, DL.rs_d, DL.rs_in, DL.rs_c, DL.rs_upl, DL.rs_upd, DL.rs_upi, DL.okQ, DL.isS, DL.okN_int, DL.okN_bl, DL.okN_non, DL.deq_ii, DL.okN_ii, DL.deq_int, DL.deq_bl, DL.deq_str, DL.tysB_bool, DL.tysB_int, DL.tysB_str, DL.tysB_tuple, DL.tysB_list, DL.tysB_dict, DL.isT_NoneType_bool, DL.isT_NoneType_int, DL.isT_NoneType_str, DL.isT_NoneType_tuple, DL.isT_NoneType_list, DL.isT_NoneType_dict, DL.isT_bool_bool, DL.isT_bool_int, DL.isT_bool_str, DL.isT_bool_tuple, DL.isT_bool_list, DL.isT_bool_dict, DL.isT_int_bool, DL.isT_int_int, DL.isT_int_str, DL.isT_int_tuple, DL.isT_int_list, DL.isT_int_dict, DL.isT_str_bool, DL.isT_str_int, DL.isT_str_str, DL.isT_str_tuple, DL.isT_str_list, DL.isT_str_dict, DL.isT_tuple_bool, DL.isT_tuple_int, DL.isT_tuple_str, DL.isT_tuple_tuple, DL.isT_tuple_list, DL.isT_tuple_dict, DL.isT_list_bool, DL.isT_list_int, DL.isT_list_str, DL.isT_list_tuple, DL.isT_list_list, DL.isT_list_dict, DL.isT_dict_bool, DL.isT_dict_int, DL.isT_dict_str, DL.isT_dict_tuple, DL.isT_dict_list, DL.isT_dict_dict, true_and, and_true, eq_self, Bool.or_true, Bool.true_or, Bool.or_false, Bool.false_or, Bool.and_true, Bool.true_and, Bool.and_false, Bool.false_and, Bool.false_eq_true, ↓reduceIte, decide_true, decide_false, DL.tyD, DL.kyD, DL.atD, DL.atI_0, DL.atI_1, DL.atI_2, DL.atI_3, DL.atI_4, DL.atI_5, DL.atI_6, DL.atI_7, DL.atI_8, DL.atI_9, DL.atI_10, DL.atI_11, DL.atI_12, DL.ixN_0, DL.ixN_1, DL.upG_same, DL.upG_upG, List.getElem?_cons_zero, List.getElem?_cons_succ, List.cons_append, List.nil_append, Nat.add_one_sub_one, Nat.reduceAdd, Nat.reduceSub, List.length_cons, List.length_nil, decide_eq_true_eq, Bool.not_true, Bool.not_false, List.replicate_succ, List.replicate_zero, List.set_cons_zero, List.set_cons_succ, List.map_cons, List.map_nil]
    exact be_rt h
def sp__law_is : DSp := fun ds G Q _ => ∃ u v a b : Int, ds = [.tup [.int u, .int v], .int a, .int b] ∧ isLow u v = true ∧ u * b = a * v ∧ (Bd 450 u ∧ Bd 450 v ∧ Bd 450 a ∧ Bd 450 b) ∧ Q (.bl true) G
theorem okS_two {u v : Int} {n m : Nat} (h : Bd n u) (k : Bd m v) (hn : 0 < n ∧ n ≤ 1920 ∧ 0 < m ∧ m ≤ 1920) : okS 60 (.tup [.int u, .int v]) = true := by
  have h1 := h.log2 hn.1
  have h2 := k.log2 hn.2.2.1
  simp only [okS, okSL, Bool.and_eq_true, Bool.and_true, decide_eq_true_eq]
  omega
theorem ok__law_is : ∀ ds G Q E, sp__law_is ds G Q E → rd__law_is sp__law_is_lowest (bodyEnds Q E) (slots N__law_is ds) G := by
  rintro ds G Q E ⟨u, v, a, b, rfl, hl, hx, ⟨bu, bv, ba, bb⟩, h⟩
  rw [sl__law_is]
  simp -dsimp only [↓DL.thn_nx, ↓DL.thn_rt, ↓DL.thn_ex, ↓DL.thn_bk, ↓DL.thn_ct, ↓DL.trn_nx, ↓DL.trn_rt, ↓DL.trn_ex, ↓DL.trn_bk, ↓DL.trn_ct, DL.Br_true, DL.Br_false, ↓DL.dSeq, ↓DL.dNext, ↓DL.dPass, ↓DL.dBrk, ↓DL.dCnt, ↓DL.dDrop, ↓DL.dRet, ↓DL.dRetN, ↓DL.dIfS, ↓DL.gdName, ↓DL.gdNil, ↓DL.gdCons, ↓DL.gdTup, ↓DL.gdSub, ↓DL.dAsg, ↓DL.dPar, ↓DL.dVar, ↓DL.dC, ↓DL.dUn, ↓DL.dBin, ↓DL.dTest, ↓DL.dNot, ↓DL.dAnd, ↓DL.dOr, ↓DL.dVal, ↓DL.dAndV, ↓DL.dOrV, ↓DL.dNotV, ↓DL.dIf, ↓DL.dNil, ↓DL.dCons, ↓DL.dChain, ↓DL.dTup, ↓DL.dLst, ↓DL.dLstM, ↓DL.dCB, ↓DL.dFor, ↓DL.dLc, ↓DL.dLcM, ↓DL.lcLoop, ↓DL.dYes, ↓DL.diVal, ↓DL.diRng1, ↓DL.diRng2, ↓DL.diEnum, ↓DL.diZip, ↓DL.walkD, ↓DL.dCall, ↓DL.dSl, ↓DL.dDct0, ↓DL.dDctM0, ↓DL.rII, ↓DL.rLt, ↓DL.rLe, ↓DL.rGt, ↓DL.rGe, ↓DL.rSub, ↓DL.rMul, ↓DL.rDivP, ↓DL.rDiv, ↓DL.rModP, ↓DL.rPow, ↓DL.rNeg, ↓DL.rAdd, ↓DL.rEq, ↓DL.rNe, ↓DL.rIsN, ↓DL.rNotN, ↓DL.isN, ↓DL.cmp, ↓DL.rIn, ↓DL.rNotIn, ↓DL.rInB, ↓DL.rIx, ↓DL.rSl, ↓DL.rLen, ↓DL.rAbs, ↓DL.rMax2, ↓DL.rMin2, ↓DL.rInt1, ↓DL.rStr1, ↓DL.rDivmod, ↓DL.rListF, ↓DL.rListM, ↓DL.rTuple, ↓DL.rAll, ↓DL.rAny, ↓DL.rSum, ↓DL.rMaxL, ↓DL.rMinL, ↓DL.rIsi, ↓DL.rRepr, ↓DL.rSetD, ↓DL.itemsD, ↓DL.lstD, DL.slots, DL.dWipe, DL.rs_non, DL.rs_bl, DL.rs_i, DL.rs_s, DL.rs_ty, DL.rs_t, DL.rs_l, DL.rs_k, DL.rs_d, DL.rs_in, DL.rs_c, DL.rs_upl, DL.rs_upd, DL.rs_upi, DL.okQ, DL.isS, DL.okN_int, DL.okN_bl, DL.okN_non, DL.deq_ii, DL.okN_ii, DL.deq_int, DL.deq_bl, DL.deq_str, DL.tysB_bool, DL.tysB_int, DL.tysB_str, DL.tysB_tuple, DL.tysB_list, DL.tysB_dict, DL.isT_NoneType_bool, DL.isT_NoneType_int, DL.isT_NoneType_str, DL.isT_NoneType_tuple, DL.isT_NoneType_list, DL.isT_NoneType_dict, DL.isT_bool_bool, DL.isT_bool_int, DL.isT_bool_str, DL.isT_bool_tuple, DL.isT_bool_list, DL.isT_bool_dict, DL.isT_int_bool, DL.isT_int_int, DL.isT_int_str, DL.isT_int_tuple, DL.isT_int_list, DL.isT_int_dict, DL.isT_str_bool, DL.isT_str_int, DL.isT_str_str, DL.isT_str_tuple, DL.isT_str_list, DL.isT_str_dict, DL.isT_tuple_bool, DL.isT_tuple_int, DL.isT_tuple_str, DL.isT_tuple_tuple, DL.isT_tuple_list, DL.isT_tuple_dict, DL.isT_list_bool, DL.isT_list_int, DL.isT_list_str, DL.isT_list_tuple, DL.isT_list_list, DL.isT_list_dict, DL.isT_dict_bool, DL.isT_dict_int, DL.isT_dict_str, DL.isT_dict_tuple, DL.isT_dict_list, DL.isT_dict_dict, true_and, and_true, eq_self, Bool.or_true, Bool.true_or, Bool.or_false, Bool.false_or, Bool.and_true, Bool.true_and, Bool.and_false, Bool.false_and, Bool.false_eq_true, ↓reduceIte, decide_true, decide_false, DL.tyD, DL.kyD, DL.atD, DL.atI_0, DL.atI_1, DL.atI_2, DL.atI_3, DL.atI_4, DL.atI_5, DL.atI_6, DL.atI_7, DL.atI_8, DL.atI_9, DL.atI_10, DL.atI_11, DL.atI_12, DL.ixN_0, DL.ixN_1, DL.upG_same, DL.upG_upG, List.getElem?_cons_zero, List.getElem?_cons_succ, List.cons_append, List.nil_append, Nat.add_one_sub_one, Nat.reduceAdd, Nat.reduceSub, List.length_cons, List.length_nil, decide_eq_true_eq, Bool.not_true, Bool.not_false, List.replicate_succ, List.replicate_zero, List.set_cons_zero, List.set_cons_succ, List.map_cons, List.map_nil, rd__law_is]
  refine ⟨60, _, rfl, okS_two bu bv (by decide), ?_⟩
  simp -dsimp only [↓DL.thn_nx, ↓DL.thn_rt, ↓DL.thn_ex, ↓DL.thn_bk, ↓DL.thn_ct, ↓DL.trn_nx, ↓DL.trn_rt, ↓DL.trn_ex, ↓DL.trn_bk, ↓DL.trn_ct, DL.Br_true, DL.Br_false, ↓DL.dSeq, ↓DL.dNext, ↓DL.dPass, ↓DL.dBrk, ↓DL.dCnt, ↓DL.dDrop, ↓DL.dRet, ↓DL.dRetN, ↓DL.dIfS, ↓DL.gdName, ↓DL.gdNil, ↓DL.gdCons, ↓DL.gdTup, ↓DL.gdSub, ↓DL.dAsg, ↓DL.dPar, ↓DL.dVar, ↓DL.dC, ↓DL.dUn, ↓DL.dBin, ↓DL.dTest, ↓DL.dNot, ↓DL.dAnd, ↓DL.dOr, ↓DL.dVal, ↓DL.dAndV, ↓DL.dOrV, ↓DL.dNotV, ↓DL.dIf, ↓DL.dNil, ↓DL.dCons, ↓DL.dChain, ↓DL.dTup, ↓DL.dLst, ↓DL.dLstM, ↓DL.dCB, ↓DL.dFor, ↓DL.dLc, ↓DL.dLcM, ↓DL.lcLoop, ↓DL.dYes, ↓DL.diVal, ↓DL.diRng1, ↓DL.diRng2, ↓DL.diEnum, ↓DL.diZip, ↓DL.walkD, ↓DL.dCall, ↓DL.dSl, ↓DL.dDct0, ↓DL.dDctM0, ↓DL.rII, ↓DL.rLt, ↓DL.rLe, ↓DL.rGt, ↓DL.rGe, ↓DL.rSub, ↓DL.rMul, ↓DL.rDivP, ↓DL.rDiv, ↓DL.rModP, ↓DL.rPow, ↓DL.rNeg, ↓DL.rAdd, ↓DL.rEq, ↓DL.rNe, ↓DL.rIsN, ↓DL.rNotN, ↓DL.isN, ↓DL.cmp, ↓DL.rIn, ↓DL.rNotIn, ↓DL.rInB, ↓DL.rIx, ↓DL.rSl, ↓DL.rLen, ↓DL.rAbs, ↓DL.rMax2, ↓DL.rMin2, ↓DL.rInt1, ↓DL.rStr1, ↓DL.rDivmod, ↓DL.rListF, ↓DL.rListM, ↓DL.rTuple, ↓DL.rAll, ↓DL.rAny, ↓DL.rSum, ↓DL.rMaxL, ↓DL.rMinL, ↓DL.rIsi, ↓DL.rRepr, ↓DL.rSetD, ↓DL.itemsD, ↓DL.lstD, DL.slots, DL.dWipe, DL.rs_non, DL.rs_bl, DL.rs_i, DL.rs_s, DL.rs_ty, DL.rs_t, DL.rs_l, DL.rs_k, DL.rs_d, DL.rs_in, DL.rs_c, DL.rs_upl, DL.rs_upd, DL.rs_upi, DL.okQ, DL.isS, DL.okN_int, DL.okN_bl, DL.okN_non, DL.deq_ii, DL.okN_ii, DL.deq_int, DL.deq_bl, DL.deq_str, DL.tysB_bool, DL.tysB_int, DL.tysB_str, DL.tysB_tuple, DL.tysB_list, DL.tysB_dict, DL.isT_NoneType_bool, DL.isT_NoneType_int, DL.isT_NoneType_str, DL.isT_NoneType_tuple, DL.isT_NoneType_list, DL.isT_NoneType_dict, DL.isT_bool_bool, DL.isT_bool_int, DL.isT_bool_str, DL.isT_bool_tuple, DL.isT_bool_list, DL.isT_bool_dict, DL.isT_int_bool, DL.isT_int_int, DL.isT_int_str, DL.isT_int_tuple, DL.isT_int_list, DL.isT_int_dict, DL.isT_str_bool, DL.isT_str_int, DL.isT_str_str, DL.isT_str_tuple, DL.isT_str_list, DL.isT_str_dict, DL.isT_tuple_bool, DL.isT_tuple_int, DL.isT_tuple_str, DL.isT_tuple_tuple, DL.isT_tuple_list, DL.isT_tuple_dict, DL.isT_list_bool, DL.isT_list_int, DL.isT_list_str, DL.isT_list_tuple, DL.isT_list_list, DL.isT_list_dict, DL.isT_dict_bool, DL.isT_dict_int, DL.isT_dict_str, DL.isT_dict_tuple, DL.isT_dict_list, DL.isT_dict_dict, true_and, and_true, eq_self, Bool.or_true, Bool.true_or, Bool.or_false, Bool.false_or, Bool.and_true, Bool.true_and, Bool.and_false, Bool.false_and, Bool.false_eq_true, ↓reduceIte, decide_true, decide_false, DL.tyD, DL.kyD, DL.atD, DL.atI_0, DL.atI_1, DL.atI_2, DL.atI_3, DL.atI_4, DL.atI_5, DL.atI_6, DL.atI_7, DL.atI_8, DL.atI_9, DL.atI_10, DL.atI_11, DL.atI_12, DL.ixN_0, DL.ixN_1, DL.upG_same, DL.upG_upG, List.getElem?_cons_zero, List.getElem?_cons_succ, List.cons_append, List.nil_append, Nat.add_one_sub_one, Nat.reduceAdd, Nat.reduceSub, List.length_cons, List.length_nil, decide_eq_true_eq, Bool.not_true, Bool.not_false, List.replicate_succ, List.replicate_zero, List.set_cons_zero, List.set_cons_succ, List.map_cons, List.map_nil, isF, hl]
  refine ⟨bu.mulOk bb (by decide), ba.mulOk bv (by decide), ?_⟩
  rw [decide_eq_true hx]
  exact be_rt h
/-! ### things of all kinds -/
def Thing (d : D) : Prop := okS 60 d = true ∧ (py d).leavesShort 300 = true ∧ (py d).bulk ≤ 1000
theorem thing_lit {d : D} (h : (okS 60 d && (py d).leavesShort 300 && decide ((py d).bulk ≤ 1000)) = true) : Thing d := by
  simp only [Bool.and_eq_true, decide_eq_true_eq] at h
  exact ⟨h.1.1, h.1.2, h.2⟩
theorem Thing.size {d : D} (h : Thing d) : (py d).shown.length ≤ sizeLine := by
  have := PyData.shown_le_bulk 300 (by decide) _ h.2.1
  have e : sizeLine = 16777216 := by decide
  have := h.2.2
  omega
theorem int_short {n : Nat} {i : Int} (h : Bd n i) (hn : 0 < n) (k : n < 300) : (PyData.int i).leavesShort 300 = true := by
  simp only [PyData.leavesShort, decide_eq_true_eq]
  have := int_text_length_le hn (h.log2 hn)
  simp only [PyData.shown]
  have e : (Str.ofString (toString i)).length = (toString i).length := PySem.ofString_length _
  show (Str.ofString (toString i)).length ≤ 300
  omega
theorem thing_two {n : Nat} {u v : Int} (h : Bd n u) (k : Bd n v) (hn : 0 < n) (hk : n < 300) : Thing (.tup [.int u, .int v]) := by
  refine ⟨okS_two h k (by omega), ?_, ?_⟩
  · simp only [py, pyL, PyData.leavesShort, PyData.leavesShortAll, Bool.and_true]
    have h1 := int_short h hn hk
    have h2 := int_short k hn hk
    simp only [PyData.leavesShort] at h1 h2
    rw [h1, h2]; rfl
  · simp only [py, pyL, PyData.bulk, PyData.bulkAll]
    omega
theorem thing_list {xs : List D} (h : Thing (.tup xs)) : Thing (.lst xs) := by
  obtain ⟨h1, h2, h3⟩ := h
  refine ⟨?_, ?_, ?_⟩
  · simpa only [okS] using h1
  · simpa only [py, PyData.leavesShort] using h2
  · simpa only [py, PyData.bulk] using h3
theorem thing_cat {n : Nat} {u v : Int} (h : Bd n u) (k : Bd n v) (hn : 0 < n) (hk : n < 300) : Thing (.tup [.int u, .int v, .int u, .int v]) := by
  have l1 := h.log2 hn
  have l2 := k.log2 hn
  refine ⟨?_, ?_, ?_⟩
  · simp only [okS, okSL, Bool.and_eq_true, Bool.and_true, decide_eq_true_eq]
    omega
  · simp only [py, pyL, PyData.leavesShort, PyData.leavesShortAll, Bool.and_true]
    have h1 := int_short h hn hk
    have h2 := int_short k hn hk
    simp only [PyData.leavesShort] at h1 h2
    rw [h1, h2]; rfl
  · simp only [py, pyL, PyData.bulk, PyData.bulkAll]
    omega
theorem thing_in {n : Nat} {u v : Int} (h : Bd n u) (k : Bd n v) (hn : 0 < n) (hk : n < 300) : Thing (.tup [.tup [.int u, .int v]]) := by
  have l1 := h.log2 hn
  have l2 := k.log2 hn
  refine ⟨?_, ?_, ?_⟩
  · simp only [okS, okSL, Bool.and_eq_true, Bool.and_true, decide_eq_true_eq]
    omega
  · simp only [py, pyL, PyData.leavesShort, PyData.leavesShortAll, Bool.and_true]
    have h1 := int_short h hn hk
    have h2 := int_short k hn hk
    simp only [PyData.leavesShort] at h1 h2
    rw [h1, h2]; rfl
  · simp only [py, pyL, PyData.bulk, PyData.bulkAll]
    omega
end K71

namespace K71
open DL L2 PyProof.Rows PySem PySem.Spec
def sp__law_odd : DSp := fun ds G Q _ => ∃ a : Addr, ds = [.ref a] ∧ Pot G a ∧ ∀ d G', Thing d → PotS a G G' → Q d G'
theorem ok__law_odd : ∀ ds G Q E, sp__law_odd ds G Q E → rd__law_odd sp_fraction sp__law_lower sp__law_whole sp__law_among (bodyEnds Q E) (slots N__law_odd ds) G := by
  rintro ds G Q E ⟨a, rfl, hp, h⟩
  rw [sl__law_odd]
  simp -dsimp only [↓DL.thn_nx, ↓DL.thn_rt, ↓DL.thn_ex, ↓DL.thn_bk, ↓DL.thn_ct, ↓DL.trn_nx, ↓DL.trn_rt, ↓DL.trn_ex, ↓DL.trn_bk, ↓DL.trn_ct, DL.Br_true, DL.Br_false, ↓DL.dSeq, ↓DL.dNext, ↓DL.dPass, ↓DL.dBrk, ↓DL.dCnt, ↓DL.dDrop, ↓DL.dRet, ↓DL.dRetN, ↓DL.dIfS, ↓DL.gdName, ↓DL.gdNil, ↓DL.gdCons, ↓DL.gdTup, ↓DL.gdSub, ↓DL.dAsg, ↓DL.dPar, ↓DL.dVar, ↓DL.dC, ↓DL.dUn, ↓DL.dBin, ↓DL.dTest, ↓DL.dNot, ↓DL.dAnd, ↓DL.dOr, ↓DL.dVal, ↓DL.dAndV, ↓DL.dOrV, ↓DL.dNotV, ↓DL.dIf, ↓DL.dNil, ↓DL.dCons, ↓DL.dChain, ↓DL.dTup, ↓DL.dLst, ↓DL.dLstM, ↓DL.dCB, ↓DL.dFor, ↓DL.dLc, ↓DL.dLcM, ↓DL.lcLoop, ↓DL.dYes, ↓DL.diVal, ↓DL.diRng1, ↓DL.diRng2, ↓DL.diEnum, ↓DL.diZip, ↓DL.walkD, ↓DL.dCall, ↓DL.dSl, ↓DL.dDct0, ↓DL.dDctM0, ↓DL.rII, ↓DL.rLt, ↓DL.rLe, ↓DL.rGt, ↓DL.rGe, ↓DL.rSub, ↓DL.rMul, ↓DL.rDivP, ↓DL.rDiv, ↓DL.rModP, ↓DL.rPow, ↓DL.rNeg, ↓DL.rAdd, ↓DL.rEq, ↓DL.rNe, ↓DL.rIsN, ↓DL.rNotN, ↓DL.isN, ↓DL.cmp, ↓DL.rIn, ↓DL.rNotIn, ↓DL.rInB, ↓DL.rIx, ↓DL.rSl, ↓DL.rLen, ↓DL.rAbs, ↓DL.rMax2, ↓DL.rMin2, ↓DL.rInt1, ↓DL.rStr1, ↓DL.rDivmod, ↓DL.rListF, ↓DL.rListM, ↓DL.rTuple, ↓DL.rAll, ↓DL.rAny, ↓DL.rSum, ↓DL.rMaxL, ↓DL.rMinL, ↓DL.rIsi, ↓DL.rRepr, ↓DL.rSetD, ↓DL.itemsD, ↓DL.lstD, DL.slots, DL.dWipe, DL.rs_non, DL.rs_bl, DL.rs_i, DL.rs_s, DL.rs_ty, DL.rs_t, DL.rs_l, DL.rs_k, DL.rs_d, DL.rs_in, DL.rs_c, DL.rs_upl, DL.rs_upd, DL.rs_upi, DL.okQ, DL.isS, DL.okN_int, DL.okN_bl, DL.okN_non, DL.deq_ii, DL.okN_ii, DL.deq_int, DL.deq_bl, DL.deq_str, DL.tysB_bool, DL.tysB_int, DL.tysB_str, DL.tysB_tuple, DL.tysB_list, DL.tysB_dict, DL.isT_NoneType_bool, DL.isT_NoneType_int, DL.isT_NoneType_str, DL.isT_NoneType_tuple, DL.isT_NoneType_list, DL.isT_NoneType_dict, DL.isT_bool_bool, DL.isT_bool_int, DL.isT_bool_str, DL.isT_bool_tuple, DL.isT_bool_list, DL.isT_bool_dict, DL.isT_int_bool, DL.isT_int_int, DL.isT_int_str, DL.isT_int_tuple, DL.isT_int_list, DL.isT_int_dict, DL.isT_str_bool, DL.isT_str_int, DL.isT_str_str, DL.isT_str_tuple, DL.isT_str_list, DL.isT_str_dict, DL.isT_tuple_bool, DL.isT_tuple_int, DL.isT_tuple_str, DL.isT_tuple_tuple, DL.isT_tuple_list, DL.isT_tuple_dict, DL.isT_list_bool, DL.isT_list_int, DL.isT_list_str, DL.isT_list_tuple, DL.isT_list_list, DL.isT_list_dict, DL.isT_dict_bool, DL.isT_dict_int, DL.isT_dict_str, DL.isT_dict_tuple, DL.isT_dict_list, DL.isT_dict_dict, true_and, and_true, eq_self, Bool.or_true, Bool.true_or, Bool.or_false, Bool.false_or, Bool.and_true, Bool.true_and, Bool.and_false, Bool.false_and, Bool.false_eq_true, ↓reduceIte, decide_true, decide_false, DL.tyD, DL.kyD, DL.atD, DL.atI_0, DL.atI_1, DL.atI_2, DL.atI_3, DL.atI_4, DL.atI_5, DL.atI_6, DL.atI_7, DL.atI_8, DL.atI_9, DL.atI_10, DL.atI_11, DL.atI_12, DL.ixN_0, DL.ixN_1, DL.upG_same, DL.upG_upG, List.getElem?_cons_zero, List.getElem?_cons_succ, List.cons_append, List.nil_append, Nat.add_one_sub_one, Nat.reduceAdd, Nat.reduceSub, List.length_cons, List.length_nil, decide_eq_true_eq, Bool.not_true, Bool.not_false, List.replicate_succ, List.replicate_zero, List.set_cons_zero, List.set_cons_succ, List.map_cons, List.map_nil, rd__law_odd]

  refine ⟨a, rfl, hp, fun u G1 bu s1 => ?_⟩
  simp -dsimp only [↓DL.thn_nx, ↓DL.thn_rt, ↓DL.thn_ex, ↓DL.thn_bk, ↓DL.thn_ct, ↓DL.trn_nx, ↓DL.trn_rt, ↓DL.trn_ex, ↓DL.trn_bk, ↓DL.trn_ct, DL.Br_true, DL.Br_false, ↓DL.dSeq, ↓DL.dNext, ↓DL.dPass, ↓DL.dBrk, ↓DL.dCnt, ↓DL.dDrop, ↓DL.dRet, ↓DL.dRetN, ↓DL.dIfS, ↓DL.gdName, ↓DL.gdNil, ↓DL.gdCons, ↓DL.gdTup, ↓DL.gdSub, ↓DL.dAsg, ↓DL.dPar, ↓DL.dVar, ↓DL.dC, ↓DL.dUn, ↓DL.dBin, ↓DL.dTest, ↓DL.dNot, ↓DL.dAnd, ↓DL.dOr, ↓DL.dVal, ↓DL.dAndV, ↓DL.dOrV, ↓DL.dNotV, ↓DL.dIf, ↓DL.dNil, ↓DL.dCons, ↓DL.dChain, ↓DL.dTup, ↓DL.dLst, ↓DL.dLstM, ↓DL.dCB, ↓DL.dFor, ↓DL.dLc, ↓DL.dLcM, ↓DL.lcLoop, ↓DL.dYes, ↓DL.diVal, ↓DL.diRng1, ↓DL.diRng2, ↓DL.diEnum, ↓DL.diZip, ↓DL.walkD, ↓DL.dCall, ↓DL.dSl, ↓DL.dDct0, ↓DL.dDctM0, ↓DL.rII, ↓DL.rLt, ↓DL.rLe, ↓DL.rGt, ↓DL.rGe, ↓DL.rSub, ↓DL.rMul, ↓DL.rDivP, ↓DL.rDiv, ↓DL.rModP, ↓DL.rPow, ↓DL.rNeg, ↓DL.rAdd, ↓DL.rEq, ↓DL.rNe, ↓DL.rIsN, ↓DL.rNotN, ↓DL.isN, ↓DL.cmp, ↓DL.rIn, ↓DL.rNotIn, ↓DL.rInB, ↓DL.rIx, ↓DL.rSl, ↓DL.rLen, ↓DL.rAbs, ↓DL.rMax2, ↓DL.rMin2, ↓DL.rInt1, ↓DL.rStr1, ↓DL.rDivmod, ↓DL.rListF, ↓DL.rListM, ↓DL.rTuple, ↓DL.rAll, ↓DL.rAny, ↓DL.rSum, ↓DL.rMaxL, ↓DL.rMinL, ↓DL.rIsi, ↓DL.rRepr, ↓DL.rSetD, ↓DL.itemsD, ↓DL.lstD, DL.slots, DL.dWipe, DL.rs_non, DL.rs_bl, DL.rs_i, DL.rs_s, DL.rs_ty, DL.rs_t, DL.rs_l, DL.rs_k, DL.rs_d, DL.rs_in, DL.rs_c, DL.rs_upl, DL.rs_upd, DL.rs_upi, DL.okQ, DL.isS, DL.okN_int, DL.okN_bl, DL.okN_non, DL.deq_ii, DL.okN_ii, DL.deq_int, DL.deq_bl, DL.deq_str, DL.tysB_bool, DL.tysB_int, DL.tysB_str, DL.tysB_tuple, DL.tysB_list, DL.tysB_dict, DL.isT_NoneType_bool, DL.isT_NoneType_int, DL.isT_NoneType_str, DL.isT_NoneType_tuple, DL.isT_NoneType_list, DL.isT_NoneType_dict, DL.isT_bool_bool, DL.isT_bool_int, DL.isT_bool_str, DL.isT_bool_tuple, DL.isT_bool_list, DL.isT_bool_dict, DL.isT_int_bool, DL.isT_int_int, DL.isT_int_str, DL.isT_int_tuple, DL.isT_int_list, DL.isT_int_dict, DL.isT_str_bool, DL.isT_str_int, DL.isT_str_str, DL.isT_str_tuple, DL.isT_str_list, DL.isT_str_dict, DL.isT_tuple_bool, DL.isT_tuple_int, DL.isT_tuple_str, DL.isT_tuple_tuple, DL.isT_tuple_list, DL.isT_tuple_dict, DL.isT_list_bool, DL.isT_list_int, DL.isT_list_str, DL.isT_list_tuple, DL.isT_list_list, DL.isT_list_dict, DL.isT_dict_bool, DL.isT_dict_int, DL.isT_dict_str, DL.isT_dict_tuple, DL.isT_dict_list, DL.isT_dict_dict, true_and, and_true, eq_self, Bool.or_true, Bool.true_or, Bool.or_false, Bool.false_or, Bool.and_true, Bool.true_and, Bool.and_false, Bool.false_and, Bool.false_eq_true, ↓reduceIte, decide_true, decide_false, DL.tyD, DL.kyD, DL.atD, DL.atI_0, DL.atI_1, DL.atI_2, DL.atI_3, DL.atI_4, DL.atI_5, DL.atI_6, DL.atI_7, DL.atI_8, DL.atI_9, DL.atI_10, DL.atI_11, DL.atI_12, DL.ixN_0, DL.ixN_1, DL.upG_same, DL.upG_upG, List.getElem?_cons_zero, List.getElem?_cons_succ, List.cons_append, List.nil_append, Nat.add_one_sub_one, Nat.reduceAdd, Nat.reduceSub, List.length_cons, List.length_nil, decide_eq_true_eq, Bool.not_true, Bool.not_false, List.replicate_succ, List.replicate_zero, List.set_cons_zero, List.set_cons_succ, List.map_cons, List.map_nil]
  refine ⟨a, rfl, s1.pot, fun v G2 bv hv s2 => ?_⟩
  simp -dsimp only [↓DL.thn_nx, ↓DL.thn_rt, ↓DL.thn_ex, ↓DL.thn_bk, ↓DL.thn_ct, ↓DL.trn_nx, ↓DL.trn_rt, ↓DL.trn_ex, ↓DL.trn_bk, ↓DL.trn_ct, DL.Br_true, DL.Br_false, ↓DL.dSeq, ↓DL.dNext, ↓DL.dPass, ↓DL.dBrk, ↓DL.dCnt, ↓DL.dDrop, ↓DL.dRet, ↓DL.dRetN, ↓DL.dIfS, ↓DL.gdName, ↓DL.gdNil, ↓DL.gdCons, ↓DL.gdTup, ↓DL.gdSub, ↓DL.dAsg, ↓DL.dPar, ↓DL.dVar, ↓DL.dC, ↓DL.dUn, ↓DL.dBin, ↓DL.dTest, ↓DL.dNot, ↓DL.dAnd, ↓DL.dOr, ↓DL.dVal, ↓DL.dAndV, ↓DL.dOrV, ↓DL.dNotV, ↓DL.dIf, ↓DL.dNil, ↓DL.dCons, ↓DL.dChain, ↓DL.dTup, ↓DL.dLst, ↓DL.dLstM, ↓DL.dCB, ↓DL.dFor, ↓DL.dLc, ↓DL.dLcM, ↓DL.lcLoop, ↓DL.dYes, ↓DL.diVal, ↓DL.diRng1, ↓DL.diRng2, ↓DL.diEnum, ↓DL.diZip, ↓DL.walkD, ↓DL.dCall, ↓DL.dSl, ↓DL.dDct0, ↓DL.dDctM0, ↓DL.rII, ↓DL.rLt, ↓DL.rLe, ↓DL.rGt, ↓DL.rGe, ↓DL.rSub, ↓DL.rMul, ↓DL.rDivP, ↓DL.rDiv, ↓DL.rModP, ↓DL.rPow, ↓DL.rNeg, ↓DL.rAdd, ↓DL.rEq, ↓DL.rNe, ↓DL.rIsN, ↓DL.rNotN, ↓DL.isN, ↓DL.cmp, ↓DL.rIn, ↓DL.rNotIn, ↓DL.rInB, ↓DL.rIx, ↓DL.rSl, ↓DL.rLen, ↓DL.rAbs, ↓DL.rMax2, ↓DL.rMin2, ↓DL.rInt1, ↓DL.rStr1, ↓DL.rDivmod, ↓DL.rListF, ↓DL.rListM, ↓DL.rTuple, ↓DL.rAll, ↓DL.rAny, ↓DL.rSum, ↓DL.rMaxL, ↓DL.rMinL, ↓DL.rIsi, ↓DL.rRepr, ↓DL.rSetD, ↓DL.itemsD, ↓DL.lstD, DL.slots, DL.dWipe, DL.rs_non, DL.rs_bl, DL.rs_i, DL.rs_s, DL.rs_ty, DL.rs_t, DL.rs_l, DL.rs_k, DL.rs_d, DL.rs_in, DL.rs_c, DL.rs_upl, DL.rs_upd, DL.rs_upi, DL.okQ, DL.isS, DL.okN_int, DL.okN_bl, DL.okN_non, DL.deq_ii, DL.okN_ii, DL.deq_int, DL.deq_bl, DL.deq_str, DL.tysB_bool, DL.tysB_int, DL.tysB_str, DL.tysB_tuple, DL.tysB_list, DL.tysB_dict, DL.isT_NoneType_bool, DL.isT_NoneType_int, DL.isT_NoneType_str, DL.isT_NoneType_tuple, DL.isT_NoneType_list, DL.isT_NoneType_dict, DL.isT_bool_bool, DL.isT_bool_int, DL.isT_bool_str, DL.isT_bool_tuple, DL.isT_bool_list, DL.isT_bool_dict, DL.isT_int_bool, DL.isT_int_int, DL.isT_int_str, DL.isT_int_tuple, DL.isT_int_list, DL.isT_int_dict, DL.isT_str_bool, DL.isT_str_int, DL.isT_str_str, DL.isT_str_tuple, DL.isT_str_list, DL.isT_str_dict, DL.isT_tuple_bool, DL.isT_tuple_int, DL.isT_tuple_str, DL.isT_tuple_tuple, DL.isT_tuple_list, DL.isT_tuple_dict, DL.isT_list_bool, DL.isT_list_int, DL.isT_list_str, DL.isT_list_tuple, DL.isT_list_list, DL.isT_list_dict, DL.isT_dict_bool, DL.isT_dict_int, DL.isT_dict_str, DL.isT_dict_tuple, DL.isT_dict_list, DL.isT_dict_dict, true_and, and_true, eq_self, Bool.or_true, Bool.true_or, Bool.or_false, Bool.false_or, Bool.and_true, Bool.true_and, Bool.and_false, Bool.false_and, Bool.false_eq_true, ↓reduceIte, decide_true, decide_false, DL.tyD, DL.kyD, DL.atD, DL.atI_0, DL.atI_1, DL.atI_2, DL.atI_3, DL.atI_4, DL.atI_5, DL.atI_6, DL.atI_7, DL.atI_8, DL.atI_9, DL.atI_10, DL.atI_11, DL.atI_12, DL.ixN_0, DL.ixN_1, DL.upG_same, DL.upG_upG, List.getElem?_cons_zero, List.getElem?_cons_succ, List.cons_append, List.nil_append, Nat.add_one_sub_one, Nat.reduceAdd, Nat.reduceSub, List.length_cons, List.length_nil, decide_eq_true_eq, Bool.not_true, Bool.not_false, List.replicate_succ, List.replicate_zero, List.set_cons_zero, List.set_cons_succ, List.map_cons, List.map_nil]
  refine ⟨u, v, rfl, hv, bv.mono (by decide), ?_⟩
  have b1 : Bd 110 (fU u v) := fU_bd hv bu
  have b2 : Bd 110 (fL u v) := fL_bd hv bv
  have s12 := s1.trans s2
  generalize fU u v = p at *
  generalize fL u v = q at *
  simp -dsimp only [↓DL.thn_nx, ↓DL.thn_rt, ↓DL.thn_ex, ↓DL.thn_bk, ↓DL.thn_ct, ↓DL.trn_nx, ↓DL.trn_rt, ↓DL.trn_ex, ↓DL.trn_bk, ↓DL.trn_ct, DL.Br_true, DL.Br_false, ↓DL.dSeq, ↓DL.dNext, ↓DL.dPass, ↓DL.dBrk, ↓DL.dCnt, ↓DL.dDrop, ↓DL.dRet, ↓DL.dRetN, ↓DL.dIfS, ↓DL.gdName, ↓DL.gdNil, ↓DL.gdCons, ↓DL.gdTup, ↓DL.gdSub, ↓DL.dAsg, ↓DL.dPar, ↓DL.dVar, ↓DL.dC, ↓DL.dUn, ↓DL.dBin, ↓DL.dTest, ↓DL.dNot, ↓DL.dAnd, ↓DL.dOr, ↓DL.dVal, ↓DL.dAndV, ↓DL.dOrV, ↓DL.dNotV, ↓DL.dIf, ↓DL.dNil, ↓DL.dCons, ↓DL.dChain, ↓DL.dTup, ↓DL.dLst, ↓DL.dLstM, ↓DL.dCB, ↓DL.dFor, ↓DL.dLc, ↓DL.dLcM, ↓DL.lcLoop, ↓DL.dYes, ↓DL.diVal, ↓DL.diRng1, ↓DL.diRng2, ↓DL.diEnum, ↓DL.diZip, ↓DL.walkD, ↓DL.dCall, ↓DL.dSl, ↓DL.dDct0, ↓DL.dDctM0, ↓DL.rII, ↓DL.rLt, ↓DL.rLe, ↓DL.rGt, ↓DL.rGe, ↓DL.rSub, ↓DL.rMul, ↓DL.rDivP, ↓DL.rDiv, ↓DL.rModP, ↓DL.rPow, ↓DL.rNeg, ↓DL.rAdd, ↓DL.rEq, ↓DL.rNe, ↓DL.rIsN, ↓DL.rNotN, ↓DL.isN, ↓DL.cmp, ↓DL.rIn, ↓DL.rNotIn, ↓DL.rInB, ↓DL.rIx, ↓DL.rSl, ↓DL.rLen, ↓DL.rAbs, ↓DL.rMax2, ↓DL.rMin2, ↓DL.rInt1, ↓DL.rStr1, ↓DL.rDivmod, ↓DL.rListF, ↓DL.rListM, ↓DL.rTuple, ↓DL.rAll, ↓DL.rAny, ↓DL.rSum, ↓DL.rMaxL, ↓DL.rMinL, ↓DL.rIsi, ↓DL.rRepr, ↓DL.rSetD, ↓DL.itemsD, ↓DL.lstD, DL.slots, DL.dWipe, DL.rs_non, DL.rs_bl, DL.rs_i, DL.rs_s, DL.rs_ty, DL.rs_t, DL.rs_l, DL.rs_k, DL.rs_d, DL.rs_in, DL.rs_c, DL.rs_upl, DL.rs_upd, DL.rs_upi, DL.okQ, DL.isS, DL.okN_int, DL.okN_bl, DL.okN_non, DL.deq_ii, DL.okN_ii, DL.deq_int, DL.deq_bl, DL.deq_str, DL.tysB_bool, DL.tysB_int, DL.tysB_str, DL.tysB_tuple, DL.tysB_list, DL.tysB_dict, DL.isT_NoneType_bool, DL.isT_NoneType_int, DL.isT_NoneType_str, DL.isT_NoneType_tuple, DL.isT_NoneType_list, DL.isT_NoneType_dict, DL.isT_bool_bool, DL.isT_bool_int, DL.isT_bool_str, DL.isT_bool_tuple, DL.isT_bool_list, DL.isT_bool_dict, DL.isT_int_bool, DL.isT_int_int, DL.isT_int_str, DL.isT_int_tuple, DL.isT_int_list, DL.isT_int_dict, DL.isT_str_bool, DL.isT_str_int, DL.isT_str_str, DL.isT_str_tuple, DL.isT_str_list, DL.isT_str_dict, DL.isT_tuple_bool, DL.isT_tuple_int, DL.isT_tuple_str, DL.isT_tuple_tuple, DL.isT_tuple_list, DL.isT_tuple_dict, DL.isT_list_bool, DL.isT_list_int, DL.isT_list_str, DL.isT_list_tuple, DL.isT_list_list, DL.isT_list_dict, DL.isT_dict_bool, DL.isT_dict_int, DL.isT_dict_str, DL.isT_dict_tuple, DL.isT_dict_list, DL.isT_dict_dict, true_and, and_true, eq_self, Bool.or_true, Bool.true_or, Bool.or_false, Bool.false_or, Bool.and_true, Bool.true_and, Bool.and_false, Bool.false_and, Bool.false_eq_true, ↓reduceIte, decide_true, decide_false, DL.tyD, DL.kyD, DL.atD, DL.atI_0, DL.atI_1, DL.atI_2, DL.atI_3, DL.atI_4, DL.atI_5, DL.atI_6, DL.atI_7, DL.atI_8, DL.atI_9, DL.atI_10, DL.atI_11, DL.atI_12, DL.ixN_0, DL.ixN_1, DL.upG_same, DL.upG_upG, List.getElem?_cons_zero, List.getElem?_cons_succ, List.cons_append, List.nil_append, Nat.add_one_sub_one, Nat.reduceAdd, Nat.reduceSub, List.length_cons, List.length_nil, decide_eq_true_eq, Bool.not_true, Bool.not_false, List.replicate_succ, List.replicate_zero, List.set_cons_zero, List.set_cons_succ, List.map_cons, List.map_nil]
  repeat (first | refine And.intro (by decide) ?_ | refine And.intro (by simp) ?_)
  refine ⟨Bd.mulOk (n := 4) .lit b1 (by decide), Bd.mulOk (n := 4) .lit b2 (by decide), ?_⟩
  repeat (first | refine And.intro (by decide) ?_ | refine And.intro (by simp) ?_)
  refine ⟨a, _, rfl, s12.pot, (by show 0 < 33; decide), (by show 33 ≤ 1000; decide), ?_⟩
  simp only [List.forall_mem_cons]
  have g : ∀ d, Thing d → ∀ G', PotS a G2 G' → (bodyEnds Q E).rt d G' := fun d hd G' hs => be_rt (h d G' hd (s12.trans hs))
  have c1 : Bd 120 (2 * p) := (Bd.mul (n := 4) (m := 110) .lit b1).mono (by decide)
  have c2 : Bd 120 (2 * q) := (Bd.mul (n := 4) (m := 110) .lit b2).mono (by decide)
  have c3 : Bd 110 ((10 : Int) ^ Int.toNat 30) := by unfold Bd; decide
  repeat (first | refine And.intro (g _ (thing_lit (by decide +kernel))) ?_ | refine And.intro (g _ (thing_list (thing_two b1 b2 (by decide) (by decide)))) ?_ | refine And.intro (g _ (thing_cat b1 b2 (by decide) (by decide))) ?_ | refine And.intro (g _ (thing_two b1 b2.neg (by decide) (by decide))) ?_ | refine And.intro (g _ (thing_two c1 c2 (by decide) (by decide))) ?_ | refine And.intro (g _ (thing_in b1 b2 (by decide) (by decide))) ?_ | refine And.intro (g _ (thing_two (n := 110) .lit c3 (by decide) (by decide))) ?_ | refine And.intro (g _ (thing_two b1 b2 (by decide) (by decide))) ?_)
  exact fun _ h => nomatch h
end K71

namespace K71
open DL L2 PyProof.Rows PySem PySem.Spec
/-! ### the law -/
theorem rng_mem {lo : Int} {n i : Nat} {x : D} (h : (rng lo n)[i]? = some x) : x = .int (lo + (i : Nat)) ∧ i < n := by
  have hi := (List.getElem?_eq_some_iff.mp h).1
  rw [rng, List.length_map, List.length_range] at hi
  rw [rng, List.getElem?_map, List.getElem?_range hi] at h
  cases h
  exact ⟨rfl, hi⟩
theorem cross {U L X Y Z W : Int} (h : U * Y = X * L) (hY : Y ≠ 0) (e : X * W = Z * Y) : U * W = Z * L := by
  refine Int.eq_of_mul_eq_mul_right hY ?_
  grind
theorem bl_short (a b : Bool) : (py (.lst [.bl a, .bl b])).shown.length ≤ sizeLine := by cases a <;> cases b <;> decide +kernel
theorem ok_law : ∀ ds G Q E, lawSp 63 ds G Q E → rd_law sp__law_pot sp__law_lower sp__law_whole sp_fraction sp__law_is sp_is_fraction sp_plus sp_times sp_minus sp_is_less sp__law_odd sp__law_is_lowest (bodyEnds Q E) (slots N_law ds) G := by
  rintro ds G Q E ⟨ns, rfl, hn, hb, h⟩
  rw [sl_law]
  simp -dsimp only [↓DL.thn_nx, ↓DL.thn_rt, ↓DL.thn_ex, ↓DL.thn_bk, ↓DL.thn_ct, ↓DL.trn_nx, ↓DL.trn_rt, ↓DL.trn_ex, ↓DL.trn_bk, ↓DL.trn_ct, DL.Br_true, DL.Br_false, ↓DL.dSeq, ↓DL.dNext, ↓DL.dPass, ↓DL.dBrk, ↓DL.dCnt, ↓DL.dDrop, ↓DL.dRet, ↓DL.dRetN, ↓DL.dIfS, ↓DL.gdName, ↓DL.gdNil, ↓DL.gdCons, ↓DL.gdTup, ↓DL.gdSub, ↓DL.dAsg, ↓DL.dPar, ↓DL.dVar, ↓DL.dC, ↓DL.dUn, ↓DL.dBin, ↓DL.dTest, ↓DL.dNot, ↓DL.dAnd, ↓DL.dOr, ↓DL.dVal, ↓DL.dAndV, ↓DL.dOrV, ↓DL.dNotV, ↓DL.dIf, ↓DL.dNil, ↓DL.dCons, ↓DL.dChain, ↓DL.dTup, ↓DL.dLst, ↓DL.dLstM, ↓DL.dCB, ↓DL.dFor, ↓DL.dLc, ↓DL.dLcM, ↓DL.lcLoop, ↓DL.dYes, ↓DL.diVal, ↓DL.diRng1, ↓DL.diRng2, ↓DL.diEnum, ↓DL.diZip, ↓DL.walkD, ↓DL.dCall, ↓DL.dSl, ↓DL.dDct0, ↓DL.dDctM0, ↓DL.rII, ↓DL.rLt, ↓DL.rLe, ↓DL.rGt, ↓DL.rGe, ↓DL.rSub, ↓DL.rMul, ↓DL.rDivP, ↓DL.rDiv, ↓DL.rModP, ↓DL.rPow, ↓DL.rNeg, ↓DL.rAdd, ↓DL.rEq, ↓DL.rNe, ↓DL.rIsN, ↓DL.rNotN, ↓DL.isN, ↓DL.cmp, ↓DL.rIn, ↓DL.rNotIn, ↓DL.rInB, ↓DL.rIx, ↓DL.rSl, ↓DL.rLen, ↓DL.rAbs, ↓DL.rMax2, ↓DL.rMin2, ↓DL.rInt1, ↓DL.rStr1, ↓DL.rDivmod, ↓DL.rListF, ↓DL.rListM, ↓DL.rTuple, ↓DL.rAll, ↓DL.rAny, ↓DL.rSum, ↓DL.rMaxL, ↓DL.rMinL, ↓DL.rIsi, ↓DL.rRepr, ↓DL.rSetD, ↓DL.itemsD, ↓DL.lstD, DL.slots, DL.dWipe, DL.rs_non, DL.rs_bl, DL.rs_i, DL.rs_s, DL.rs_ty, DL.rs_t, DL.rs_l, DL.rs_k, DL.rs_d, DL.rs_in, DL.rs_c, DL.rs_upl, DL.rs_upd, DL.rs_upi, DL.okQ, DL.isS, DL.okN_int, DL.okN_bl, DL.okN_non, DL.deq_ii, DL.okN_ii, DL.deq_int, DL.deq_bl, DL.deq_str, DL.tysB_bool, DL.tysB_int, DL.tysB_str, DL.tysB_tuple, DL.tysB_list, DL.tysB_dict, DL.isT_NoneType_bool, DL.isT_NoneType_int, DL.isT_NoneType_str, DL.isT_NoneType_tuple, DL.isT_NoneType_list, DL.isT_NoneType_dict, DL.isT_bool_bool, DL.isT_bool_int, DL.isT_bool_str, DL.isT_bool_tuple, DL.isT_bool_list, DL.isT_bool_dict, DL.isT_int_bool, DL.isT_int_int, DL.isT_int_str, DL.isT_int_tuple, DL.isT_int_list, DL.isT_int_dict, DL.isT_str_bool, DL.isT_str_int, DL.isT_str_str, DL.isT_str_tuple, DL.isT_str_list, DL.isT_str_dict, DL.isT_tuple_bool, DL.isT_tuple_int, DL.isT_tuple_str, DL.isT_tuple_tuple, DL.isT_tuple_list, DL.isT_tuple_dict, DL.isT_list_bool, DL.isT_list_int, DL.isT_list_str, DL.isT_list_tuple, DL.isT_list_list, DL.isT_list_dict, DL.isT_dict_bool, DL.isT_dict_int, DL.isT_dict_str, DL.isT_dict_tuple, DL.isT_dict_list, DL.isT_dict_dict, true_and, and_true, eq_self, Bool.or_true, Bool.true_or, Bool.or_false, Bool.false_or, Bool.and_true, Bool.true_and, Bool.and_false, Bool.false_and, Bool.false_eq_true, ↓reduceIte, decide_true, decide_false, DL.tyD, DL.kyD, DL.atD, DL.atI_0, DL.atI_1, DL.atI_2, DL.atI_3, DL.atI_4, DL.atI_5, DL.atI_6, DL.atI_7, DL.atI_8, DL.atI_9, DL.atI_10, DL.atI_11, DL.atI_12, DL.ixN_0, DL.ixN_1, DL.upG_same, DL.upG_upG, List.getElem?_cons_zero, List.getElem?_cons_succ, List.cons_append, List.nil_append, Nat.add_one_sub_one, Nat.reduceAdd, Nat.reduceSub, List.length_cons, List.length_nil, decide_eq_true_eq, Bool.not_true, Bool.not_false, List.replicate_succ, List.replicate_zero, List.set_cons_zero, List.set_cons_succ, List.map_cons, List.map_nil, rd_law]
  refine ⟨by simp only [List.length_map]; split <;> split <;> omega, fun i δ G => ∃ o1 o2 o3 o4 o5 o6 o7 o8 o9 o10 o11 o12, δ = [some (.lsk (ns.map D.int)), o1, o2, o3, o4, o5, o6, o7, o8, o9, o10, o11, o12], ⟨_, _, _, _, _, _, _, _, _, _, _, _, rfl⟩, ?_, ?_⟩
  · rintro i x δ G hx ⟨o1, o2, o3, o4, o5, o6, o7, o8, o9, o10, o11, o12, rfl⟩
    obtain ⟨rfl, hi⟩ := rng_mem hx
    refine ⟨trivial, ?_⟩
    simp -dsimp only [↓DL.thn_nx, ↓DL.thn_rt, ↓DL.thn_ex, ↓DL.thn_bk, ↓DL.thn_ct, ↓DL.trn_nx, ↓DL.trn_rt, ↓DL.trn_ex, ↓DL.trn_bk, ↓DL.trn_ct, DL.Br_true, DL.Br_false, ↓DL.dSeq, ↓DL.dNext, ↓DL.dPass, ↓DL.dBrk, ↓DL.dCnt, ↓DL.dDrop, ↓DL.dRet, ↓DL.dRetN, ↓DL.dIfS, ↓DL.gdName, ↓DL.gdNil, ↓DL.gdCons, ↓DL.gdTup, ↓DL.gdSub, ↓DL.dAsg, ↓DL.dPar, ↓DL.dVar, ↓DL.dC, ↓DL.dUn, ↓DL.dBin, ↓DL.dTest, ↓DL.dNot, ↓DL.dAnd, ↓DL.dOr, ↓DL.dVal, ↓DL.dAndV, ↓DL.dOrV, ↓DL.dNotV, ↓DL.dIf, ↓DL.dNil, ↓DL.dCons, ↓DL.dChain, ↓DL.dTup, ↓DL.dLst, ↓DL.dLstM, ↓DL.dCB, ↓DL.dFor, ↓DL.dLc, ↓DL.dLcM, ↓DL.lcLoop, ↓DL.dYes, ↓DL.diVal, ↓DL.diRng1, ↓DL.diRng2, ↓DL.diEnum, ↓DL.diZip, ↓DL.walkD, ↓DL.dCall, ↓DL.dSl, ↓DL.dDct0, ↓DL.dDctM0, ↓DL.rII, ↓DL.rLt, ↓DL.rLe, ↓DL.rGt, ↓DL.rGe, ↓DL.rSub, ↓DL.rMul, ↓DL.rDivP, ↓DL.rDiv, ↓DL.rModP, ↓DL.rPow, ↓DL.rNeg, ↓DL.rAdd, ↓DL.rEq, ↓DL.rNe, ↓DL.rIsN, ↓DL.rNotN, ↓DL.isN, ↓DL.cmp, ↓DL.rIn, ↓DL.rNotIn, ↓DL.rInB, ↓DL.rIx, ↓DL.rSl, ↓DL.rLen, ↓DL.rAbs, ↓DL.rMax2, ↓DL.rMin2, ↓DL.rInt1, ↓DL.rStr1, ↓DL.rDivmod, ↓DL.rListF, ↓DL.rListM, ↓DL.rTuple, ↓DL.rAll, ↓DL.rAny, ↓DL.rSum, ↓DL.rMaxL, ↓DL.rMinL, ↓DL.rIsi, ↓DL.rRepr, ↓DL.rSetD, ↓DL.itemsD, ↓DL.lstD, DL.slots, DL.dWipe, DL.rs_non, DL.rs_bl, DL.rs_i, DL.rs_s, DL.rs_ty, DL.rs_t, DL.rs_l, DL.rs_k, DL.rs_d, DL.rs_in, DL.rs_c, DL.rs_upl, DL.rs_upd, DL.rs_upi, DL.okQ, DL.isS, DL.okN_int, DL.okN_bl, DL.okN_non, DL.deq_ii, DL.okN_ii, DL.deq_int, DL.deq_bl, DL.deq_str, DL.tysB_bool, DL.tysB_int, DL.tysB_str, DL.tysB_tuple, DL.tysB_list, DL.tysB_dict, DL.isT_NoneType_bool, DL.isT_NoneType_int, DL.isT_NoneType_str, DL.isT_NoneType_tuple, DL.isT_NoneType_list, DL.isT_NoneType_dict, DL.isT_bool_bool, DL.isT_bool_int, DL.isT_bool_str, DL.isT_bool_tuple, DL.isT_bool_list, DL.isT_bool_dict, DL.isT_int_bool, DL.isT_int_int, DL.isT_int_str, DL.isT_int_tuple, DL.isT_int_list, DL.isT_int_dict, DL.isT_str_bool, DL.isT_str_int, DL.isT_str_str, DL.isT_str_tuple, DL.isT_str_list, DL.isT_str_dict, DL.isT_tuple_bool, DL.isT_tuple_int, DL.isT_tuple_str, DL.isT_tuple_tuple, DL.isT_tuple_list, DL.isT_tuple_dict, DL.isT_list_bool, DL.isT_list_int, DL.isT_list_str, DL.isT_list_tuple, DL.isT_list_list, DL.isT_list_dict, DL.isT_dict_bool, DL.isT_dict_int, DL.isT_dict_str, DL.isT_dict_tuple, DL.isT_dict_list, DL.isT_dict_dict, true_and, and_true, eq_self, Bool.or_true, Bool.true_or, Bool.or_false, Bool.false_or, Bool.and_true, Bool.true_and, Bool.and_false, Bool.false_and, Bool.false_eq_true, ↓reduceIte, decide_true, decide_false, DL.tyD, DL.kyD, DL.atD, DL.atI_0, DL.atI_1, DL.atI_2, DL.atI_3, DL.atI_4, DL.atI_5, DL.atI_6, DL.atI_7, DL.atI_8, DL.atI_9, DL.atI_10, DL.atI_11, DL.atI_12, DL.ixN_0, DL.ixN_1, DL.upG_same, DL.upG_upG, List.getElem?_cons_zero, List.getElem?_cons_succ, List.cons_append, List.nil_append, Nat.add_one_sub_one, Nat.reduceAdd, Nat.reduceSub, List.length_cons, List.length_nil, decide_eq_true_eq, Bool.not_true, Bool.not_false, List.replicate_succ, List.replicate_zero, List.set_cons_zero, List.set_cons_succ, List.map_cons, List.map_nil]
    refine ⟨ns, _, rfl, by omega, ?_, fun p G' hp hs => ?_⟩
    · rw [List.length_map] at hi
      have : (((if (if (5 : Int) < ↑ns.length then 5 else (ns.length : Int)) > 2 then (if (5 : Int) < ↑ns.length then 5 else (ns.length : Int)) else 2)).toNat) ≤ 5 := by split <;> split <;> omega
      omega
    simp -dsimp only [↓DL.thn_nx, ↓DL.thn_rt, ↓DL.thn_ex, ↓DL.thn_bk, ↓DL.thn_ct, ↓DL.trn_nx, ↓DL.trn_rt, ↓DL.trn_ex, ↓DL.trn_bk, ↓DL.trn_ct, DL.Br_true, DL.Br_false, ↓DL.dSeq, ↓DL.dNext, ↓DL.dPass, ↓DL.dBrk, ↓DL.dCnt, ↓DL.dDrop, ↓DL.dRet, ↓DL.dRetN, ↓DL.dIfS, ↓DL.gdName, ↓DL.gdNil, ↓DL.gdCons, ↓DL.gdTup, ↓DL.gdSub, ↓DL.dAsg, ↓DL.dPar, ↓DL.dVar, ↓DL.dC, ↓DL.dUn, ↓DL.dBin, ↓DL.dTest, ↓DL.dNot, ↓DL.dAnd, ↓DL.dOr, ↓DL.dVal, ↓DL.dAndV, ↓DL.dOrV, ↓DL.dNotV, ↓DL.dIf, ↓DL.dNil, ↓DL.dCons, ↓DL.dChain, ↓DL.dTup, ↓DL.dLst, ↓DL.dLstM, ↓DL.dCB, ↓DL.dFor, ↓DL.dLc, ↓DL.dLcM, ↓DL.lcLoop, ↓DL.dYes, ↓DL.diVal, ↓DL.diRng1, ↓DL.diRng2, ↓DL.diEnum, ↓DL.diZip, ↓DL.walkD, ↓DL.dCall, ↓DL.dSl, ↓DL.dDct0, ↓DL.dDctM0, ↓DL.rII, ↓DL.rLt, ↓DL.rLe, ↓DL.rGt, ↓DL.rGe, ↓DL.rSub, ↓DL.rMul, ↓DL.rDivP, ↓DL.rDiv, ↓DL.rModP, ↓DL.rPow, ↓DL.rNeg, ↓DL.rAdd, ↓DL.rEq, ↓DL.rNe, ↓DL.rIsN, ↓DL.rNotN, ↓DL.isN, ↓DL.cmp, ↓DL.rIn, ↓DL.rNotIn, ↓DL.rInB, ↓DL.rIx, ↓DL.rSl, ↓DL.rLen, ↓DL.rAbs, ↓DL.rMax2, ↓DL.rMin2, ↓DL.rInt1, ↓DL.rStr1, ↓DL.rDivmod, ↓DL.rListF, ↓DL.rListM, ↓DL.rTuple, ↓DL.rAll, ↓DL.rAny, ↓DL.rSum, ↓DL.rMaxL, ↓DL.rMinL, ↓DL.rIsi, ↓DL.rRepr, ↓DL.rSetD, ↓DL.itemsD, ↓DL.lstD, DL.slots, DL.dWipe, DL.rs_non, DL.rs_bl, DL.rs_i, DL.rs_s, DL.rs_ty, DL.rs_t, DL.rs_l, DL.rs_k, DL.rs_d, DL.rs_in, DL.rs_c, DL.rs_upl, DL.rs_upd, DL.rs_upi, DL.okQ, DL.isS, DL.okN_int, DL.okN_bl, DL.okN_non, DL.deq_ii, DL.okN_ii, DL.deq_int, DL.deq_bl, DL.deq_str, DL.tysB_bool, DL.tysB_int, DL.tysB_str, DL.tysB_tuple, DL.tysB_list, DL.tysB_dict, DL.isT_NoneType_bool, DL.isT_NoneType_int, DL.isT_NoneType_str, DL.isT_NoneType_tuple, DL.isT_NoneType_list, DL.isT_NoneType_dict, DL.isT_bool_bool, DL.isT_bool_int, DL.isT_bool_str, DL.isT_bool_tuple, DL.isT_bool_list, DL.isT_bool_dict, DL.isT_int_bool, DL.isT_int_int, DL.isT_int_str, DL.isT_int_tuple, DL.isT_int_list, DL.isT_int_dict, DL.isT_str_bool, DL.isT_str_int, DL.isT_str_str, DL.isT_str_tuple, DL.isT_str_list, DL.isT_str_dict, DL.isT_tuple_bool, DL.isT_tuple_int, DL.isT_tuple_str, DL.isT_tuple_tuple, DL.isT_tuple_list, DL.isT_tuple_dict, DL.isT_list_bool, DL.isT_list_int, DL.isT_list_str, DL.isT_list_tuple, DL.isT_list_list, DL.isT_list_dict, DL.isT_dict_bool, DL.isT_dict_int, DL.isT_dict_str, DL.isT_dict_tuple, DL.isT_dict_list, DL.isT_dict_dict, true_and, and_true, eq_self, Bool.or_true, Bool.true_or, Bool.or_false, Bool.false_or, Bool.and_true, Bool.true_and, Bool.and_false, Bool.false_and, Bool.false_eq_true, ↓reduceIte, decide_true, decide_false, DL.tyD, DL.kyD, DL.atD, DL.atI_0, DL.atI_1, DL.atI_2, DL.atI_3, DL.atI_4, DL.atI_5, DL.atI_6, DL.atI_7, DL.atI_8, DL.atI_9, DL.atI_10, DL.atI_11, DL.atI_12, DL.ixN_0, DL.ixN_1, DL.upG_same, DL.upG_upG, List.getElem?_cons_zero, List.getElem?_cons_succ, List.cons_append, List.nil_append, Nat.add_one_sub_one, Nat.reduceAdd, Nat.reduceSub, List.length_cons, List.length_nil, decide_eq_true_eq, Bool.not_true, Bool.not_false, List.replicate_succ, List.replicate_zero, List.set_cons_zero, List.set_cons_succ, List.map_cons, List.map_nil]
    refine ⟨by decide, fun j δ G' => Pot G' p ∧ ∃ o3 o4 o5 o6 o7 o8 o9 o10 o11 o12, δ = [some (.lsk (ns.map D.int)), some (.int (0 + i)), some (.ref p), o3, o4, o5, o6, o7, o8, o9, o10, o11, o12], ⟨hs.pot, _, _, _, _, _, _, _, _, _, _, rfl⟩, ?_, ?_⟩
    · clear hs hp G'
      rintro j x δ G' hx ⟨hp, o3, o4, o5, o6, o7, o8, o9, o10, o11, o12, rfl⟩
      refine ⟨trivial, ?_⟩
      simp -dsimp only [↓DL.thn_nx, ↓DL.thn_rt, ↓DL.thn_ex, ↓DL.thn_bk, ↓DL.thn_ct, ↓DL.trn_nx, ↓DL.trn_rt, ↓DL.trn_ex, ↓DL.trn_bk, ↓DL.trn_ct, DL.Br_true, DL.Br_false, ↓DL.dSeq, ↓DL.dNext, ↓DL.dPass, ↓DL.dBrk, ↓DL.dCnt, ↓DL.dDrop, ↓DL.dRet, ↓DL.dRetN, ↓DL.dIfS, ↓DL.gdName, ↓DL.gdNil, ↓DL.gdCons, ↓DL.gdTup, ↓DL.gdSub, ↓DL.dAsg, ↓DL.dPar, ↓DL.dVar, ↓DL.dC, ↓DL.dUn, ↓DL.dBin, ↓DL.dTest, ↓DL.dNot, ↓DL.dAnd, ↓DL.dOr, ↓DL.dVal, ↓DL.dAndV, ↓DL.dOrV, ↓DL.dNotV, ↓DL.dIf, ↓DL.dNil, ↓DL.dCons, ↓DL.dChain, ↓DL.dTup, ↓DL.dLst, ↓DL.dLstM, ↓DL.dCB, ↓DL.dFor, ↓DL.dLc, ↓DL.dLcM, ↓DL.lcLoop, ↓DL.dYes, ↓DL.diVal, ↓DL.diRng1, ↓DL.diRng2, ↓DL.diEnum, ↓DL.diZip, ↓DL.walkD, ↓DL.dCall, ↓DL.dSl, ↓DL.dDct0, ↓DL.dDctM0, ↓DL.rII, ↓DL.rLt, ↓DL.rLe, ↓DL.rGt, ↓DL.rGe, ↓DL.rSub, ↓DL.rMul, ↓DL.rDivP, ↓DL.rDiv, ↓DL.rModP, ↓DL.rPow, ↓DL.rNeg, ↓DL.rAdd, ↓DL.rEq, ↓DL.rNe, ↓DL.rIsN, ↓DL.rNotN, ↓DL.isN, ↓DL.cmp, ↓DL.rIn, ↓DL.rNotIn, ↓DL.rInB, ↓DL.rIx, ↓DL.rSl, ↓DL.rLen, ↓DL.rAbs, ↓DL.rMax2, ↓DL.rMin2, ↓DL.rInt1, ↓DL.rStr1, ↓DL.rDivmod, ↓DL.rListF, ↓DL.rListM, ↓DL.rTuple, ↓DL.rAll, ↓DL.rAny, ↓DL.rSum, ↓DL.rMaxL, ↓DL.rMinL, ↓DL.rIsi, ↓DL.rRepr, ↓DL.rSetD, ↓DL.itemsD, ↓DL.lstD, DL.slots, DL.dWipe, DL.rs_non, DL.rs_bl, DL.rs_i, DL.rs_s, DL.rs_ty, DL.rs_t, DL.rs_l, DL.rs_k, DL.rs_d, DL.rs_in, DL.rs_c, DL.rs_upl, DL.rs_upd, DL.rs_upi, DL.okQ, DL.isS, DL.okN_int, DL.okN_bl, DL.okN_non, DL.deq_ii, DL.okN_ii, DL.deq_int, DL.deq_bl, DL.deq_str, DL.tysB_bool, DL.tysB_int, DL.tysB_str, DL.tysB_tuple, DL.tysB_list, DL.tysB_dict, DL.isT_NoneType_bool, DL.isT_NoneType_int, DL.isT_NoneType_str, DL.isT_NoneType_tuple, DL.isT_NoneType_list, DL.isT_NoneType_dict, DL.isT_bool_bool, DL.isT_bool_int, DL.isT_bool_str, DL.isT_bool_tuple, DL.isT_bool_list, DL.isT_bool_dict, DL.isT_int_bool, DL.isT_int_int, DL.isT_int_str, DL.isT_int_tuple, DL.isT_int_list, DL.isT_int_dict, DL.isT_str_bool, DL.isT_str_int, DL.isT_str_str, DL.isT_str_tuple, DL.isT_str_list, DL.isT_str_dict, DL.isT_tuple_bool, DL.isT_tuple_int, DL.isT_tuple_str, DL.isT_tuple_tuple, DL.isT_tuple_list, DL.isT_tuple_dict, DL.isT_list_bool, DL.isT_list_int, DL.isT_list_str, DL.isT_list_tuple, DL.isT_list_list, DL.isT_list_dict, DL.isT_dict_bool, DL.isT_dict_int, DL.isT_dict_str, DL.isT_dict_tuple, DL.isT_dict_list, DL.isT_dict_dict, true_and, and_true, eq_self, Bool.or_true, Bool.true_or, Bool.or_false, Bool.false_or, Bool.and_true, Bool.true_and, Bool.and_false, Bool.false_and, Bool.false_eq_true, ↓reduceIte, decide_true, decide_false, DL.tyD, DL.kyD, DL.atD, DL.atI_0, DL.atI_1, DL.atI_2, DL.atI_3, DL.atI_4, DL.atI_5, DL.atI_6, DL.atI_7, DL.atI_8, DL.atI_9, DL.atI_10, DL.atI_11, DL.atI_12, DL.ixN_0, DL.ixN_1, DL.upG_same, DL.upG_upG, List.getElem?_cons_zero, List.getElem?_cons_succ, List.cons_append, List.nil_append, Nat.add_one_sub_one, Nat.reduceAdd, Nat.reduceSub, List.length_cons, List.length_nil, decide_eq_true_eq, Bool.not_true, Bool.not_false, List.replicate_succ, List.replicate_zero, List.set_cons_zero, List.set_cons_succ, List.map_cons, List.map_nil]
      refine ⟨p, rfl, hp, fun a G1 ba s1 => ?_⟩
      simp -dsimp only [↓DL.thn_nx, ↓DL.thn_rt, ↓DL.thn_ex, ↓DL.thn_bk, ↓DL.thn_ct, ↓DL.trn_nx, ↓DL.trn_rt, ↓DL.trn_ex, ↓DL.trn_bk, ↓DL.trn_ct, DL.Br_true, DL.Br_false, ↓DL.dSeq, ↓DL.dNext, ↓DL.dPass, ↓DL.dBrk, ↓DL.dCnt, ↓DL.dDrop, ↓DL.dRet, ↓DL.dRetN, ↓DL.dIfS, ↓DL.gdName, ↓DL.gdNil, ↓DL.gdCons, ↓DL.gdTup, ↓DL.gdSub, ↓DL.dAsg, ↓DL.dPar, ↓DL.dVar, ↓DL.dC, ↓DL.dUn, ↓DL.dBin, ↓DL.dTest, ↓DL.dNot, ↓DL.dAnd, ↓DL.dOr, ↓DL.dVal, ↓DL.dAndV, ↓DL.dOrV, ↓DL.dNotV, ↓DL.dIf, ↓DL.dNil, ↓DL.dCons, ↓DL.dChain, ↓DL.dTup, ↓DL.dLst, ↓DL.dLstM, ↓DL.dCB, ↓DL.dFor, ↓DL.dLc, ↓DL.dLcM, ↓DL.lcLoop, ↓DL.dYes, ↓DL.diVal, ↓DL.diRng1, ↓DL.diRng2, ↓DL.diEnum, ↓DL.diZip, ↓DL.walkD, ↓DL.dCall, ↓DL.dSl, ↓DL.dDct0, ↓DL.dDctM0, ↓DL.rII, ↓DL.rLt, ↓DL.rLe, ↓DL.rGt, ↓DL.rGe, ↓DL.rSub, ↓DL.rMul, ↓DL.rDivP, ↓DL.rDiv, ↓DL.rModP, ↓DL.rPow, ↓DL.rNeg, ↓DL.rAdd, ↓DL.rEq, ↓DL.rNe, ↓DL.rIsN, ↓DL.rNotN, ↓DL.isN, ↓DL.cmp, ↓DL.rIn, ↓DL.rNotIn, ↓DL.rInB, ↓DL.rIx, ↓DL.rSl, ↓DL.rLen, ↓DL.rAbs, ↓DL.rMax2, ↓DL.rMin2, ↓DL.rInt1, ↓DL.rStr1, ↓DL.rDivmod, ↓DL.rListF, ↓DL.rListM, ↓DL.rTuple, ↓DL.rAll, ↓DL.rAny, ↓DL.rSum, ↓DL.rMaxL, ↓DL.rMinL, ↓DL.rIsi, ↓DL.rRepr, ↓DL.rSetD, ↓DL.itemsD, ↓DL.lstD, DL.slots, DL.dWipe, DL.rs_non, DL.rs_bl, DL.rs_i, DL.rs_s, DL.rs_ty, DL.rs_t, DL.rs_l, DL.rs_k, DL.rs_d, DL.rs_in, DL.rs_c, DL.rs_upl, DL.rs_upd, DL.rs_upi, DL.okQ, DL.isS, DL.okN_int, DL.okN_bl, DL.okN_non, DL.deq_ii, DL.okN_ii, DL.deq_int, DL.deq_bl, DL.deq_str, DL.tysB_bool, DL.tysB_int, DL.tysB_str, DL.tysB_tuple, DL.tysB_list, DL.tysB_dict, DL.isT_NoneType_bool, DL.isT_NoneType_int, DL.isT_NoneType_str, DL.isT_NoneType_tuple, DL.isT_NoneType_list, DL.isT_NoneType_dict, DL.isT_bool_bool, DL.isT_bool_int, DL.isT_bool_str, DL.isT_bool_tuple, DL.isT_bool_list, DL.isT_bool_dict, DL.isT_int_bool, DL.isT_int_int, DL.isT_int_str, DL.isT_int_tuple, DL.isT_int_list, DL.isT_int_dict, DL.isT_str_bool, DL.isT_str_int, DL.isT_str_str, DL.isT_str_tuple, DL.isT_str_list, DL.isT_str_dict, DL.isT_tuple_bool, DL.isT_tuple_int, DL.isT_tuple_str, DL.isT_tuple_tuple, DL.isT_tuple_list, DL.isT_tuple_dict, DL.isT_list_bool, DL.isT_list_int, DL.isT_list_str, DL.isT_list_tuple, DL.isT_list_list, DL.isT_list_dict, DL.isT_dict_bool, DL.isT_dict_int, DL.isT_dict_str, DL.isT_dict_tuple, DL.isT_dict_list, DL.isT_dict_dict, true_and, and_true, eq_self, Bool.or_true, Bool.true_or, Bool.or_false, Bool.false_or, Bool.and_true, Bool.true_and, Bool.and_false, Bool.false_and, Bool.false_eq_true, ↓reduceIte, decide_true, decide_false, DL.tyD, DL.kyD, DL.atD, DL.atI_0, DL.atI_1, DL.atI_2, DL.atI_3, DL.atI_4, DL.atI_5, DL.atI_6, DL.atI_7, DL.atI_8, DL.atI_9, DL.atI_10, DL.atI_11, DL.atI_12, DL.ixN_0, DL.ixN_1, DL.upG_same, DL.upG_upG, List.getElem?_cons_zero, List.getElem?_cons_succ, List.cons_append, List.nil_append, Nat.add_one_sub_one, Nat.reduceAdd, Nat.reduceSub, List.length_cons, List.length_nil, decide_eq_true_eq, Bool.not_true, Bool.not_false, List.replicate_succ, List.replicate_zero, List.set_cons_zero, List.set_cons_succ, List.map_cons, List.map_nil]
      refine ⟨p, rfl, s1.pot, fun b G2 bb hb0 s2 => ?_⟩
      simp -dsimp only [↓DL.thn_nx, ↓DL.thn_rt, ↓DL.thn_ex, ↓DL.thn_bk, ↓DL.thn_ct, ↓DL.trn_nx, ↓DL.trn_rt, ↓DL.trn_ex, ↓DL.trn_bk, ↓DL.trn_ct, DL.Br_true, DL.Br_false, ↓DL.dSeq, ↓DL.dNext, ↓DL.dPass, ↓DL.dBrk, ↓DL.dCnt, ↓DL.dDrop, ↓DL.dRet, ↓DL.dRetN, ↓DL.dIfS, ↓DL.gdName, ↓DL.gdNil, ↓DL.gdCons, ↓DL.gdTup, ↓DL.gdSub, ↓DL.dAsg, ↓DL.dPar, ↓DL.dVar, ↓DL.dC, ↓DL.dUn, ↓DL.dBin, ↓DL.dTest, ↓DL.dNot, ↓DL.dAnd, ↓DL.dOr, ↓DL.dVal, ↓DL.dAndV, ↓DL.dOrV, ↓DL.dNotV, ↓DL.dIf, ↓DL.dNil, ↓DL.dCons, ↓DL.dChain, ↓DL.dTup, ↓DL.dLst, ↓DL.dLstM, ↓DL.dCB, ↓DL.dFor, ↓DL.dLc, ↓DL.dLcM, ↓DL.lcLoop, ↓DL.dYes, ↓DL.diVal, ↓DL.diRng1, ↓DL.diRng2, ↓DL.diEnum, ↓DL.diZip, ↓DL.walkD, ↓DL.dCall, ↓DL.dSl, ↓DL.dDct0, ↓DL.dDctM0, ↓DL.rII, ↓DL.rLt, ↓DL.rLe, ↓DL.rGt, ↓DL.rGe, ↓DL.rSub, ↓DL.rMul, ↓DL.rDivP, ↓DL.rDiv, ↓DL.rModP, ↓DL.rPow, ↓DL.rNeg, ↓DL.rAdd, ↓DL.rEq, ↓DL.rNe, ↓DL.rIsN, ↓DL.rNotN, ↓DL.isN, ↓DL.cmp, ↓DL.rIn, ↓DL.rNotIn, ↓DL.rInB, ↓DL.rIx, ↓DL.rSl, ↓DL.rLen, ↓DL.rAbs, ↓DL.rMax2, ↓DL.rMin2, ↓DL.rInt1, ↓DL.rStr1, ↓DL.rDivmod, ↓DL.rListF, ↓DL.rListM, ↓DL.rTuple, ↓DL.rAll, ↓DL.rAny, ↓DL.rSum, ↓DL.rMaxL, ↓DL.rMinL, ↓DL.rIsi, ↓DL.rRepr, ↓DL.rSetD, ↓DL.itemsD, ↓DL.lstD, DL.slots, DL.dWipe, DL.rs_non, DL.rs_bl, DL.rs_i, DL.rs_s, DL.rs_ty, DL.rs_t, DL.rs_l, DL.rs_k, DL.rs_d, DL.rs_in, DL.rs_c, DL.rs_upl, DL.rs_upd, DL.rs_upi, DL.okQ, DL.isS, DL.okN_int, DL.okN_bl, DL.okN_non, DL.deq_ii, DL.okN_ii, DL.deq_int, DL.deq_bl, DL.deq_str, DL.tysB_bool, DL.tysB_int, DL.tysB_str, DL.tysB_tuple, DL.tysB_list, DL.tysB_dict, DL.isT_NoneType_bool, DL.isT_NoneType_int, DL.isT_NoneType_str, DL.isT_NoneType_tuple, DL.isT_NoneType_list, DL.isT_NoneType_dict, DL.isT_bool_bool, DL.isT_bool_int, DL.isT_bool_str, DL.isT_bool_tuple, DL.isT_bool_list, DL.isT_bool_dict, DL.isT_int_bool, DL.isT_int_int, DL.isT_int_str, DL.isT_int_tuple, DL.isT_int_list, DL.isT_int_dict, DL.isT_str_bool, DL.isT_str_int, DL.isT_str_str, DL.isT_str_tuple, DL.isT_str_list, DL.isT_str_dict, DL.isT_tuple_bool, DL.isT_tuple_int, DL.isT_tuple_str, DL.isT_tuple_tuple, DL.isT_tuple_list, DL.isT_tuple_dict, DL.isT_list_bool, DL.isT_list_int, DL.isT_list_str, DL.isT_list_tuple, DL.isT_list_list, DL.isT_list_dict, DL.isT_dict_bool, DL.isT_dict_int, DL.isT_dict_str, DL.isT_dict_tuple, DL.isT_dict_list, DL.isT_dict_dict, true_and, and_true, eq_self, Bool.or_true, Bool.true_or, Bool.or_false, Bool.false_or, Bool.and_true, Bool.true_and, Bool.and_false, Bool.false_and, Bool.false_eq_true, ↓reduceIte, decide_true, decide_false, DL.tyD, DL.kyD, DL.atD, DL.atI_0, DL.atI_1, DL.atI_2, DL.atI_3, DL.atI_4, DL.atI_5, DL.atI_6, DL.atI_7, DL.atI_8, DL.atI_9, DL.atI_10, DL.atI_11, DL.atI_12, DL.ixN_0, DL.ixN_1, DL.upG_same, DL.upG_upG, List.getElem?_cons_zero, List.getElem?_cons_succ, List.cons_append, List.nil_append, Nat.add_one_sub_one, Nat.reduceAdd, Nat.reduceSub, List.length_cons, List.length_nil, decide_eq_true_eq, Bool.not_true, Bool.not_false, List.replicate_succ, List.replicate_zero, List.set_cons_zero, List.set_cons_succ, List.map_cons, List.map_nil]
      refine ⟨p, rfl, s2.pot, fun c G3 bc s3 => ?_⟩
      simp -dsimp only [↓DL.thn_nx, ↓DL.thn_rt, ↓DL.thn_ex, ↓DL.thn_bk, ↓DL.thn_ct, ↓DL.trn_nx, ↓DL.trn_rt, ↓DL.trn_ex, ↓DL.trn_bk, ↓DL.trn_ct, DL.Br_true, DL.Br_false, ↓DL.dSeq, ↓DL.dNext, ↓DL.dPass, ↓DL.dBrk, ↓DL.dCnt, ↓DL.dDrop, ↓DL.dRet, ↓DL.dRetN, ↓DL.dIfS, ↓DL.gdName, ↓DL.gdNil, ↓DL.gdCons, ↓DL.gdTup, ↓DL.gdSub, ↓DL.dAsg, ↓DL.dPar, ↓DL.dVar, ↓DL.dC, ↓DL.dUn, ↓DL.dBin, ↓DL.dTest, ↓DL.dNot, ↓DL.dAnd, ↓DL.dOr, ↓DL.dVal, ↓DL.dAndV, ↓DL.dOrV, ↓DL.dNotV, ↓DL.dIf, ↓DL.dNil, ↓DL.dCons, ↓DL.dChain, ↓DL.dTup, ↓DL.dLst, ↓DL.dLstM, ↓DL.dCB, ↓DL.dFor, ↓DL.dLc, ↓DL.dLcM, ↓DL.lcLoop, ↓DL.dYes, ↓DL.diVal, ↓DL.diRng1, ↓DL.diRng2, ↓DL.diEnum, ↓DL.diZip, ↓DL.walkD, ↓DL.dCall, ↓DL.dSl, ↓DL.dDct0, ↓DL.dDctM0, ↓DL.rII, ↓DL.rLt, ↓DL.rLe, ↓DL.rGt, ↓DL.rGe, ↓DL.rSub, ↓DL.rMul, ↓DL.rDivP, ↓DL.rDiv, ↓DL.rModP, ↓DL.rPow, ↓DL.rNeg, ↓DL.rAdd, ↓DL.rEq, ↓DL.rNe, ↓DL.rIsN, ↓DL.rNotN, ↓DL.isN, ↓DL.cmp, ↓DL.rIn, ↓DL.rNotIn, ↓DL.rInB, ↓DL.rIx, ↓DL.rSl, ↓DL.rLen, ↓DL.rAbs, ↓DL.rMax2, ↓DL.rMin2, ↓DL.rInt1, ↓DL.rStr1, ↓DL.rDivmod, ↓DL.rListF, ↓DL.rListM, ↓DL.rTuple, ↓DL.rAll, ↓DL.rAny, ↓DL.rSum, ↓DL.rMaxL, ↓DL.rMinL, ↓DL.rIsi, ↓DL.rRepr, ↓DL.rSetD, ↓DL.itemsD, ↓DL.lstD, DL.slots, DL.dWipe, DL.rs_non, DL.rs_bl, DL.rs_i, DL.rs_s, DL.rs_ty, DL.rs_t, DL.rs_l, DL.rs_k, DL.rs_d, DL.rs_in, DL.rs_c, DL.rs_upl, DL.rs_upd, DL.rs_upi, DL.okQ, DL.isS, DL.okN_int, DL.okN_bl, DL.okN_non, DL.deq_ii, DL.okN_ii, DL.deq_int, DL.deq_bl, DL.deq_str, DL.tysB_bool, DL.tysB_int, DL.tysB_str, DL.tysB_tuple, DL.tysB_list, DL.tysB_dict, DL.isT_NoneType_bool, DL.isT_NoneType_int, DL.isT_NoneType_str, DL.isT_NoneType_tuple, DL.isT_NoneType_list, DL.isT_NoneType_dict, DL.isT_bool_bool, DL.isT_bool_int, DL.isT_bool_str, DL.isT_bool_tuple, DL.isT_bool_list, DL.isT_bool_dict, DL.isT_int_bool, DL.isT_int_int, DL.isT_int_str, DL.isT_int_tuple, DL.isT_int_list, DL.isT_int_dict, DL.isT_str_bool, DL.isT_str_int, DL.isT_str_str, DL.isT_str_tuple, DL.isT_str_list, DL.isT_str_dict, DL.isT_tuple_bool, DL.isT_tuple_int, DL.isT_tuple_str, DL.isT_tuple_tuple, DL.isT_tuple_list, DL.isT_tuple_dict, DL.isT_list_bool, DL.isT_list_int, DL.isT_list_str, DL.isT_list_tuple, DL.isT_list_list, DL.isT_list_dict, DL.isT_dict_bool, DL.isT_dict_int, DL.isT_dict_str, DL.isT_dict_tuple, DL.isT_dict_list, DL.isT_dict_dict, true_and, and_true, eq_self, Bool.or_true, Bool.true_or, Bool.or_false, Bool.false_or, Bool.and_true, Bool.true_and, Bool.and_false, Bool.false_and, Bool.false_eq_true, ↓reduceIte, decide_true, decide_false, DL.tyD, DL.kyD, DL.atD, DL.atI_0, DL.atI_1, DL.atI_2, DL.atI_3, DL.atI_4, DL.atI_5, DL.atI_6, DL.atI_7, DL.atI_8, DL.atI_9, DL.atI_10, DL.atI_11, DL.atI_12, DL.ixN_0, DL.ixN_1, DL.upG_same, DL.upG_upG, List.getElem?_cons_zero, List.getElem?_cons_succ, List.cons_append, List.nil_append, Nat.add_one_sub_one, Nat.reduceAdd, Nat.reduceSub, List.length_cons, List.length_nil, decide_eq_true_eq, Bool.not_true, Bool.not_false, List.replicate_succ, List.replicate_zero, List.set_cons_zero, List.set_cons_succ, List.map_cons, List.map_nil]
      refine ⟨p, rfl, s3.pot, fun d G4 bd hd0 s4 => ?_⟩
      simp -dsimp only [↓DL.thn_nx, ↓DL.thn_rt, ↓DL.thn_ex, ↓DL.thn_bk, ↓DL.thn_ct, ↓DL.trn_nx, ↓DL.trn_rt, ↓DL.trn_ex, ↓DL.trn_bk, ↓DL.trn_ct, DL.Br_true, DL.Br_false, ↓DL.dSeq, ↓DL.dNext, ↓DL.dPass, ↓DL.dBrk, ↓DL.dCnt, ↓DL.dDrop, ↓DL.dRet, ↓DL.dRetN, ↓DL.dIfS, ↓DL.gdName, ↓DL.gdNil, ↓DL.gdCons, ↓DL.gdTup, ↓DL.gdSub, ↓DL.dAsg, ↓DL.dPar, ↓DL.dVar, ↓DL.dC, ↓DL.dUn, ↓DL.dBin, ↓DL.dTest, ↓DL.dNot, ↓DL.dAnd, ↓DL.dOr, ↓DL.dVal, ↓DL.dAndV, ↓DL.dOrV, ↓DL.dNotV, ↓DL.dIf, ↓DL.dNil, ↓DL.dCons, ↓DL.dChain, ↓DL.dTup, ↓DL.dLst, ↓DL.dLstM, ↓DL.dCB, ↓DL.dFor, ↓DL.dLc, ↓DL.dLcM, ↓DL.lcLoop, ↓DL.dYes, ↓DL.diVal, ↓DL.diRng1, ↓DL.diRng2, ↓DL.diEnum, ↓DL.diZip, ↓DL.walkD, ↓DL.dCall, ↓DL.dSl, ↓DL.dDct0, ↓DL.dDctM0, ↓DL.rII, ↓DL.rLt, ↓DL.rLe, ↓DL.rGt, ↓DL.rGe, ↓DL.rSub, ↓DL.rMul, ↓DL.rDivP, ↓DL.rDiv, ↓DL.rModP, ↓DL.rPow, ↓DL.rNeg, ↓DL.rAdd, ↓DL.rEq, ↓DL.rNe, ↓DL.rIsN, ↓DL.rNotN, ↓DL.isN, ↓DL.cmp, ↓DL.rIn, ↓DL.rNotIn, ↓DL.rInB, ↓DL.rIx, ↓DL.rSl, ↓DL.rLen, ↓DL.rAbs, ↓DL.rMax2, ↓DL.rMin2, ↓DL.rInt1, ↓DL.rStr1, ↓DL.rDivmod, ↓DL.rListF, ↓DL.rListM, ↓DL.rTuple, ↓DL.rAll, ↓DL.rAny, ↓DL.rSum, ↓DL.rMaxL, ↓DL.rMinL, ↓DL.rIsi, ↓DL.rRepr, ↓DL.rSetD, ↓DL.itemsD, ↓DL.lstD, DL.slots, DL.dWipe, DL.rs_non, DL.rs_bl, DL.rs_i, DL.rs_s, DL.rs_ty, DL.rs_t, DL.rs_l, DL.rs_k, DL.rs_d, DL.rs_in, DL.rs_c, DL.rs_upl, DL.rs_upd, DL.rs_upi, DL.okQ, DL.isS, DL.okN_int, DL.okN_bl, DL.okN_non, DL.deq_ii, DL.okN_ii, DL.deq_int, DL.deq_bl, DL.deq_str, DL.tysB_bool, DL.tysB_int, DL.tysB_str, DL.tysB_tuple, DL.tysB_list, DL.tysB_dict, DL.isT_NoneType_bool, DL.isT_NoneType_int, DL.isT_NoneType_str, DL.isT_NoneType_tuple, DL.isT_NoneType_list, DL.isT_NoneType_dict, DL.isT_bool_bool, DL.isT_bool_int, DL.isT_bool_str, DL.isT_bool_tuple, DL.isT_bool_list, DL.isT_bool_dict, DL.isT_int_bool, DL.isT_int_int, DL.isT_int_str, DL.isT_int_tuple, DL.isT_int_list, DL.isT_int_dict, DL.isT_str_bool, DL.isT_str_int, DL.isT_str_str, DL.isT_str_tuple, DL.isT_str_list, DL.isT_str_dict, DL.isT_tuple_bool, DL.isT_tuple_int, DL.isT_tuple_str, DL.isT_tuple_tuple, DL.isT_tuple_list, DL.isT_tuple_dict, DL.isT_list_bool, DL.isT_list_int, DL.isT_list_str, DL.isT_list_tuple, DL.isT_list_list, DL.isT_list_dict, DL.isT_dict_bool, DL.isT_dict_int, DL.isT_dict_str, DL.isT_dict_tuple, DL.isT_dict_list, DL.isT_dict_dict, true_and, and_true, eq_self, Bool.or_true, Bool.true_or, Bool.or_false, Bool.false_or, Bool.and_true, Bool.true_and, Bool.and_false, Bool.false_and, Bool.false_eq_true, ↓reduceIte, decide_true, decide_false, DL.tyD, DL.kyD, DL.atD, DL.atI_0, DL.atI_1, DL.atI_2, DL.atI_3, DL.atI_4, DL.atI_5, DL.atI_6, DL.atI_7, DL.atI_8, DL.atI_9, DL.atI_10, DL.atI_11, DL.atI_12, DL.ixN_0, DL.ixN_1, DL.upG_same, DL.upG_upG, List.getElem?_cons_zero, List.getElem?_cons_succ, List.cons_append, List.nil_append, Nat.add_one_sub_one, Nat.reduceAdd, Nat.reduceSub, List.length_cons, List.length_nil, decide_eq_true_eq, Bool.not_true, Bool.not_false, List.replicate_succ, List.replicate_zero, List.set_cons_zero, List.set_cons_succ, List.map_cons, List.map_nil]
      refine ⟨a, b, rfl, hb0, bb.mono (by decide), ?_⟩
      simp -dsimp only [↓DL.thn_nx, ↓DL.thn_rt, ↓DL.thn_ex, ↓DL.thn_bk, ↓DL.thn_ct, ↓DL.trn_nx, ↓DL.trn_rt, ↓DL.trn_ex, ↓DL.trn_bk, ↓DL.trn_ct, DL.Br_true, DL.Br_false, ↓DL.dSeq, ↓DL.dNext, ↓DL.dPass, ↓DL.dBrk, ↓DL.dCnt, ↓DL.dDrop, ↓DL.dRet, ↓DL.dRetN, ↓DL.dIfS, ↓DL.gdName, ↓DL.gdNil, ↓DL.gdCons, ↓DL.gdTup, ↓DL.gdSub, ↓DL.dAsg, ↓DL.dPar, ↓DL.dVar, ↓DL.dC, ↓DL.dUn, ↓DL.dBin, ↓DL.dTest, ↓DL.dNot, ↓DL.dAnd, ↓DL.dOr, ↓DL.dVal, ↓DL.dAndV, ↓DL.dOrV, ↓DL.dNotV, ↓DL.dIf, ↓DL.dNil, ↓DL.dCons, ↓DL.dChain, ↓DL.dTup, ↓DL.dLst, ↓DL.dLstM, ↓DL.dCB, ↓DL.dFor, ↓DL.dLc, ↓DL.dLcM, ↓DL.lcLoop, ↓DL.dYes, ↓DL.diVal, ↓DL.diRng1, ↓DL.diRng2, ↓DL.diEnum, ↓DL.diZip, ↓DL.walkD, ↓DL.dCall, ↓DL.dSl, ↓DL.dDct0, ↓DL.dDctM0, ↓DL.rII, ↓DL.rLt, ↓DL.rLe, ↓DL.rGt, ↓DL.rGe, ↓DL.rSub, ↓DL.rMul, ↓DL.rDivP, ↓DL.rDiv, ↓DL.rModP, ↓DL.rPow, ↓DL.rNeg, ↓DL.rAdd, ↓DL.rEq, ↓DL.rNe, ↓DL.rIsN, ↓DL.rNotN, ↓DL.isN, ↓DL.cmp, ↓DL.rIn, ↓DL.rNotIn, ↓DL.rInB, ↓DL.rIx, ↓DL.rSl, ↓DL.rLen, ↓DL.rAbs, ↓DL.rMax2, ↓DL.rMin2, ↓DL.rInt1, ↓DL.rStr1, ↓DL.rDivmod, ↓DL.rListF, ↓DL.rListM, ↓DL.rTuple, ↓DL.rAll, ↓DL.rAny, ↓DL.rSum, ↓DL.rMaxL, ↓DL.rMinL, ↓DL.rIsi, ↓DL.rRepr, ↓DL.rSetD, ↓DL.itemsD, ↓DL.lstD, DL.slots, DL.dWipe, DL.rs_non, DL.rs_bl, DL.rs_i, DL.rs_s, DL.rs_ty, DL.rs_t, DL.rs_l, DL.rs_k, DL.rs_d, DL.rs_in, DL.rs_c, DL.rs_upl, DL.rs_upd, DL.rs_upi, DL.okQ, DL.isS, DL.okN_int, DL.okN_bl, DL.okN_non, DL.deq_ii, DL.okN_ii, DL.deq_int, DL.deq_bl, DL.deq_str, DL.tysB_bool, DL.tysB_int, DL.tysB_str, DL.tysB_tuple, DL.tysB_list, DL.tysB_dict, DL.isT_NoneType_bool, DL.isT_NoneType_int, DL.isT_NoneType_str, DL.isT_NoneType_tuple, DL.isT_NoneType_list, DL.isT_NoneType_dict, DL.isT_bool_bool, DL.isT_bool_int, DL.isT_bool_str, DL.isT_bool_tuple, DL.isT_bool_list, DL.isT_bool_dict, DL.isT_int_bool, DL.isT_int_int, DL.isT_int_str, DL.isT_int_tuple, DL.isT_int_list, DL.isT_int_dict, DL.isT_str_bool, DL.isT_str_int, DL.isT_str_str, DL.isT_str_tuple, DL.isT_str_list, DL.isT_str_dict, DL.isT_tuple_bool, DL.isT_tuple_int, DL.isT_tuple_str, DL.isT_tuple_tuple, DL.isT_tuple_list, DL.isT_tuple_dict, DL.isT_list_bool, DL.isT_list_int, DL.isT_list_str, DL.isT_list_tuple, DL.isT_list_list, DL.isT_list_dict, DL.isT_dict_bool, DL.isT_dict_int, DL.isT_dict_str, DL.isT_dict_tuple, DL.isT_dict_list, DL.isT_dict_dict, true_and, and_true, eq_self, Bool.or_true, Bool.true_or, Bool.or_false, Bool.false_or, Bool.and_true, Bool.true_and, Bool.and_false, Bool.false_and, Bool.false_eq_true, ↓reduceIte, decide_true, decide_false, DL.tyD, DL.kyD, DL.atD, DL.atI_0, DL.atI_1, DL.atI_2, DL.atI_3, DL.atI_4, DL.atI_5, DL.atI_6, DL.atI_7, DL.atI_8, DL.atI_9, DL.atI_10, DL.atI_11, DL.atI_12, DL.ixN_0, DL.ixN_1, DL.upG_same, DL.upG_upG, List.getElem?_cons_zero, List.getElem?_cons_succ, List.cons_append, List.nil_append, Nat.add_one_sub_one, Nat.reduceAdd, Nat.reduceSub, List.length_cons, List.length_nil, decide_eq_true_eq, Bool.not_true, Bool.not_false, List.replicate_succ, List.replicate_zero, List.set_cons_zero, List.set_cons_succ, List.map_cons, List.map_nil]
      refine ⟨c, d, rfl, hd0, bd.mono (by decide), ?_⟩
      simp -dsimp only [↓DL.thn_nx, ↓DL.thn_rt, ↓DL.thn_ex, ↓DL.thn_bk, ↓DL.thn_ct, ↓DL.trn_nx, ↓DL.trn_rt, ↓DL.trn_ex, ↓DL.trn_bk, ↓DL.trn_ct, DL.Br_true, DL.Br_false, ↓DL.dSeq, ↓DL.dNext, ↓DL.dPass, ↓DL.dBrk, ↓DL.dCnt, ↓DL.dDrop, ↓DL.dRet, ↓DL.dRetN, ↓DL.dIfS, ↓DL.gdName, ↓DL.gdNil, ↓DL.gdCons, ↓DL.gdTup, ↓DL.gdSub, ↓DL.dAsg, ↓DL.dPar, ↓DL.dVar, ↓DL.dC, ↓DL.dUn, ↓DL.dBin, ↓DL.dTest, ↓DL.dNot, ↓DL.dAnd, ↓DL.dOr, ↓DL.dVal, ↓DL.dAndV, ↓DL.dOrV, ↓DL.dNotV, ↓DL.dIf, ↓DL.dNil, ↓DL.dCons, ↓DL.dChain, ↓DL.dTup, ↓DL.dLst, ↓DL.dLstM, ↓DL.dCB, ↓DL.dFor, ↓DL.dLc, ↓DL.dLcM, ↓DL.lcLoop, ↓DL.dYes, ↓DL.diVal, ↓DL.diRng1, ↓DL.diRng2, ↓DL.diEnum, ↓DL.diZip, ↓DL.walkD, ↓DL.dCall, ↓DL.dSl, ↓DL.dDct0, ↓DL.dDctM0, ↓DL.rII, ↓DL.rLt, ↓DL.rLe, ↓DL.rGt, ↓DL.rGe, ↓DL.rSub, ↓DL.rMul, ↓DL.rDivP, ↓DL.rDiv, ↓DL.rModP, ↓DL.rPow, ↓DL.rNeg, ↓DL.rAdd, ↓DL.rEq, ↓DL.rNe, ↓DL.rIsN, ↓DL.rNotN, ↓DL.isN, ↓DL.cmp, ↓DL.rIn, ↓DL.rNotIn, ↓DL.rInB, ↓DL.rIx, ↓DL.rSl, ↓DL.rLen, ↓DL.rAbs, ↓DL.rMax2, ↓DL.rMin2, ↓DL.rInt1, ↓DL.rStr1, ↓DL.rDivmod, ↓DL.rListF, ↓DL.rListM, ↓DL.rTuple, ↓DL.rAll, ↓DL.rAny, ↓DL.rSum, ↓DL.rMaxL, ↓DL.rMinL, ↓DL.rIsi, ↓DL.rRepr, ↓DL.rSetD, ↓DL.itemsD, ↓DL.lstD, DL.slots, DL.dWipe, DL.rs_non, DL.rs_bl, DL.rs_i, DL.rs_s, DL.rs_ty, DL.rs_t, DL.rs_l, DL.rs_k, DL.rs_d, DL.rs_in, DL.rs_c, DL.rs_upl, DL.rs_upd, DL.rs_upi, DL.okQ, DL.isS, DL.okN_int, DL.okN_bl, DL.okN_non, DL.deq_ii, DL.okN_ii, DL.deq_int, DL.deq_bl, DL.deq_str, DL.tysB_bool, DL.tysB_int, DL.tysB_str, DL.tysB_tuple, DL.tysB_list, DL.tysB_dict, DL.isT_NoneType_bool, DL.isT_NoneType_int, DL.isT_NoneType_str, DL.isT_NoneType_tuple, DL.isT_NoneType_list, DL.isT_NoneType_dict, DL.isT_bool_bool, DL.isT_bool_int, DL.isT_bool_str, DL.isT_bool_tuple, DL.isT_bool_list, DL.isT_bool_dict, DL.isT_int_bool, DL.isT_int_int, DL.isT_int_str, DL.isT_int_tuple, DL.isT_int_list, DL.isT_int_dict, DL.isT_str_bool, DL.isT_str_int, DL.isT_str_str, DL.isT_str_tuple, DL.isT_str_list, DL.isT_str_dict, DL.isT_tuple_bool, DL.isT_tuple_int, DL.isT_tuple_str, DL.isT_tuple_tuple, DL.isT_tuple_list, DL.isT_tuple_dict, DL.isT_list_bool, DL.isT_list_int, DL.isT_list_str, DL.isT_list_tuple, DL.isT_list_list, DL.isT_list_dict, DL.isT_dict_bool, DL.isT_dict_int, DL.isT_dict_str, DL.isT_dict_tuple, DL.isT_dict_list, DL.isT_dict_dict, true_and, and_true, eq_self, Bool.or_true, Bool.true_or, Bool.or_false, Bool.false_or, Bool.and_true, Bool.true_and, Bool.and_false, Bool.false_and, Bool.false_eq_true, ↓reduceIte, decide_true, decide_false, DL.tyD, DL.kyD, DL.atD, DL.atI_0, DL.atI_1, DL.atI_2, DL.atI_3, DL.atI_4, DL.atI_5, DL.atI_6, DL.atI_7, DL.atI_8, DL.atI_9, DL.atI_10, DL.atI_11, DL.atI_12, DL.ixN_0, DL.ixN_1, DL.upG_same, DL.upG_upG, List.getElem?_cons_zero, List.getElem?_cons_succ, List.cons_append, List.nil_append, Nat.add_one_sub_one, Nat.reduceAdd, Nat.reduceSub, List.length_cons, List.length_nil, decide_eq_true_eq, Bool.not_true, Bool.not_false, List.replicate_succ, List.replicate_zero, List.set_cons_zero, List.set_cons_succ, List.map_cons, List.map_nil]
      have s14 := ((s1.trans s2).trans s3).trans s4
      have p1 := fL_pos (a := a) hb0
      have p2 := fL_pos (a := c) hd0
      have bu1 : Bd 110 (fU a b) := fU_bd hb0 ba
      have bl1 : Bd 110 (fL a b) := fL_bd hb0 bb
      have bu2 : Bd 110 (fU c d) := fU_bd hd0 bc
      have bl2 : Bd 110 (fL c d) := fL_bd hd0 bd
      have x1 := f_cross a b
      have x2 := f_cross c d
      have l1 := f_low (a := a) hb0
      have l2 := f_low (a := c) hd0
      have nbd : b * d ≠ 0 := Int.mul_ne_zero hb0 hd0
      have gcd1 := f_gcd (a := a) hb0
      generalize fU a b = u at *
      generalize fL a b = v at *
      generalize fU c d = r at *
      generalize fL c d = t at *
      refine ⟨u, v, a, b, rfl, l1, x1, ⟨bu1.mono (by decide), bl1.mono (by decide), ba.mono (by decide), bb.mono (by decide)⟩, ?_⟩
      simp -dsimp only [↓DL.thn_nx, ↓DL.thn_rt, ↓DL.thn_ex, ↓DL.thn_bk, ↓DL.thn_ct, ↓DL.trn_nx, ↓DL.trn_rt, ↓DL.trn_ex, ↓DL.trn_bk, ↓DL.trn_ct, DL.Br_true, DL.Br_false, ↓DL.dSeq, ↓DL.dNext, ↓DL.dPass, ↓DL.dBrk, ↓DL.dCnt, ↓DL.dDrop, ↓DL.dRet, ↓DL.dRetN, ↓DL.dIfS, ↓DL.gdName, ↓DL.gdNil, ↓DL.gdCons, ↓DL.gdTup, ↓DL.gdSub, ↓DL.dAsg, ↓DL.dPar, ↓DL.dVar, ↓DL.dC, ↓DL.dUn, ↓DL.dBin, ↓DL.dTest, ↓DL.dNot, ↓DL.dAnd, ↓DL.dOr, ↓DL.dVal, ↓DL.dAndV, ↓DL.dOrV, ↓DL.dNotV, ↓DL.dIf, ↓DL.dNil, ↓DL.dCons, ↓DL.dChain, ↓DL.dTup, ↓DL.dLst, ↓DL.dLstM, ↓DL.dCB, ↓DL.dFor, ↓DL.dLc, ↓DL.dLcM, ↓DL.lcLoop, ↓DL.dYes, ↓DL.diVal, ↓DL.diRng1, ↓DL.diRng2, ↓DL.diEnum, ↓DL.diZip, ↓DL.walkD, ↓DL.dCall, ↓DL.dSl, ↓DL.dDct0, ↓DL.dDctM0, ↓DL.rII, ↓DL.rLt, ↓DL.rLe, ↓DL.rGt, ↓DL.rGe, ↓DL.rSub, ↓DL.rMul, ↓DL.rDivP, ↓DL.rDiv, ↓DL.rModP, ↓DL.rPow, ↓DL.rNeg, ↓DL.rAdd, ↓DL.rEq, ↓DL.rNe, ↓DL.rIsN, ↓DL.rNotN, ↓DL.isN, ↓DL.cmp, ↓DL.rIn, ↓DL.rNotIn, ↓DL.rInB, ↓DL.rIx, ↓DL.rSl, ↓DL.rLen, ↓DL.rAbs, ↓DL.rMax2, ↓DL.rMin2, ↓DL.rInt1, ↓DL.rStr1, ↓DL.rDivmod, ↓DL.rListF, ↓DL.rListM, ↓DL.rTuple, ↓DL.rAll, ↓DL.rAny, ↓DL.rSum, ↓DL.rMaxL, ↓DL.rMinL, ↓DL.rIsi, ↓DL.rRepr, ↓DL.rSetD, ↓DL.itemsD, ↓DL.lstD, DL.slots, DL.dWipe, DL.rs_non, DL.rs_bl, DL.rs_i, DL.rs_s, DL.rs_ty, DL.rs_t, DL.rs_l, DL.rs_k, DL.rs_d, DL.rs_in, DL.rs_c, DL.rs_upl, DL.rs_upd, DL.rs_upi, DL.okQ, DL.isS, DL.okN_int, DL.okN_bl, DL.okN_non, DL.deq_ii, DL.okN_ii, DL.deq_int, DL.deq_bl, DL.deq_str, DL.tysB_bool, DL.tysB_int, DL.tysB_str, DL.tysB_tuple, DL.tysB_list, DL.tysB_dict, DL.isT_NoneType_bool, DL.isT_NoneType_int, DL.isT_NoneType_str, DL.isT_NoneType_tuple, DL.isT_NoneType_list, DL.isT_NoneType_dict, DL.isT_bool_bool, DL.isT_bool_int, DL.isT_bool_str, DL.isT_bool_tuple, DL.isT_bool_list, DL.isT_bool_dict, DL.isT_int_bool, DL.isT_int_int, DL.isT_int_str, DL.isT_int_tuple, DL.isT_int_list, DL.isT_int_dict, DL.isT_str_bool, DL.isT_str_int, DL.isT_str_str, DL.isT_str_tuple, DL.isT_str_list, DL.isT_str_dict, DL.isT_tuple_bool, DL.isT_tuple_int, DL.isT_tuple_str, DL.isT_tuple_tuple, DL.isT_tuple_list, DL.isT_tuple_dict, DL.isT_list_bool, DL.isT_list_int, DL.isT_list_str, DL.isT_list_tuple, DL.isT_list_list, DL.isT_list_dict, DL.isT_dict_bool, DL.isT_dict_int, DL.isT_dict_str, DL.isT_dict_tuple, DL.isT_dict_list, DL.isT_dict_dict, true_and, and_true, eq_self, Bool.or_true, Bool.true_or, Bool.or_false, Bool.false_or, Bool.and_true, Bool.true_and, Bool.and_false, Bool.false_and, Bool.false_eq_true, ↓reduceIte, decide_true, decide_false, DL.tyD, DL.kyD, DL.atD, DL.atI_0, DL.atI_1, DL.atI_2, DL.atI_3, DL.atI_4, DL.atI_5, DL.atI_6, DL.atI_7, DL.atI_8, DL.atI_9, DL.atI_10, DL.atI_11, DL.atI_12, DL.ixN_0, DL.ixN_1, DL.upG_same, DL.upG_upG, List.getElem?_cons_zero, List.getElem?_cons_succ, List.cons_append, List.nil_append, Nat.add_one_sub_one, Nat.reduceAdd, Nat.reduceSub, List.length_cons, List.length_nil, decide_eq_true_eq, Bool.not_true, Bool.not_false, List.replicate_succ, List.replicate_zero, List.set_cons_zero, List.set_cons_succ, List.map_cons, List.map_nil]
      refine ⟨r, t, c, d, rfl, l2, x2, ⟨bu2.mono (by decide), bl2.mono (by decide), bc.mono (by decide), bd.mono (by decide)⟩, ?_⟩
      simp -dsimp only [↓DL.thn_nx, ↓DL.thn_rt, ↓DL.thn_ex, ↓DL.thn_bk, ↓DL.thn_ct, ↓DL.trn_nx, ↓DL.trn_rt, ↓DL.trn_ex, ↓DL.trn_bk, ↓DL.trn_ct, DL.Br_true, DL.Br_false, ↓DL.dSeq, ↓DL.dNext, ↓DL.dPass, ↓DL.dBrk, ↓DL.dCnt, ↓DL.dDrop, ↓DL.dRet, ↓DL.dRetN, ↓DL.dIfS, ↓DL.gdName, ↓DL.gdNil, ↓DL.gdCons, ↓DL.gdTup, ↓DL.gdSub, ↓DL.dAsg, ↓DL.dPar, ↓DL.dVar, ↓DL.dC, ↓DL.dUn, ↓DL.dBin, ↓DL.dTest, ↓DL.dNot, ↓DL.dAnd, ↓DL.dOr, ↓DL.dVal, ↓DL.dAndV, ↓DL.dOrV, ↓DL.dNotV, ↓DL.dIf, ↓DL.dNil, ↓DL.dCons, ↓DL.dChain, ↓DL.dTup, ↓DL.dLst, ↓DL.dLstM, ↓DL.dCB, ↓DL.dFor, ↓DL.dLc, ↓DL.dLcM, ↓DL.lcLoop, ↓DL.dYes, ↓DL.diVal, ↓DL.diRng1, ↓DL.diRng2, ↓DL.diEnum, ↓DL.diZip, ↓DL.walkD, ↓DL.dCall, ↓DL.dSl, ↓DL.dDct0, ↓DL.dDctM0, ↓DL.rII, ↓DL.rLt, ↓DL.rLe, ↓DL.rGt, ↓DL.rGe, ↓DL.rSub, ↓DL.rMul, ↓DL.rDivP, ↓DL.rDiv, ↓DL.rModP, ↓DL.rPow, ↓DL.rNeg, ↓DL.rAdd, ↓DL.rEq, ↓DL.rNe, ↓DL.rIsN, ↓DL.rNotN, ↓DL.isN, ↓DL.cmp, ↓DL.rIn, ↓DL.rNotIn, ↓DL.rInB, ↓DL.rIx, ↓DL.rSl, ↓DL.rLen, ↓DL.rAbs, ↓DL.rMax2, ↓DL.rMin2, ↓DL.rInt1, ↓DL.rStr1, ↓DL.rDivmod, ↓DL.rListF, ↓DL.rListM, ↓DL.rTuple, ↓DL.rAll, ↓DL.rAny, ↓DL.rSum, ↓DL.rMaxL, ↓DL.rMinL, ↓DL.rIsi, ↓DL.rRepr, ↓DL.rSetD, ↓DL.itemsD, ↓DL.lstD, DL.slots, DL.dWipe, DL.rs_non, DL.rs_bl, DL.rs_i, DL.rs_s, DL.rs_ty, DL.rs_t, DL.rs_l, DL.rs_k, DL.rs_d, DL.rs_in, DL.rs_c, DL.rs_upl, DL.rs_upd, DL.rs_upi, DL.okQ, DL.isS, DL.okN_int, DL.okN_bl, DL.okN_non, DL.deq_ii, DL.okN_ii, DL.deq_int, DL.deq_bl, DL.deq_str, DL.tysB_bool, DL.tysB_int, DL.tysB_str, DL.tysB_tuple, DL.tysB_list, DL.tysB_dict, DL.isT_NoneType_bool, DL.isT_NoneType_int, DL.isT_NoneType_str, DL.isT_NoneType_tuple, DL.isT_NoneType_list, DL.isT_NoneType_dict, DL.isT_bool_bool, DL.isT_bool_int, DL.isT_bool_str, DL.isT_bool_tuple, DL.isT_bool_list, DL.isT_bool_dict, DL.isT_int_bool, DL.isT_int_int, DL.isT_int_str, DL.isT_int_tuple, DL.isT_int_list, DL.isT_int_dict, DL.isT_str_bool, DL.isT_str_int, DL.isT_str_str, DL.isT_str_tuple, DL.isT_str_list, DL.isT_str_dict, DL.isT_tuple_bool, DL.isT_tuple_int, DL.isT_tuple_str, DL.isT_tuple_tuple, DL.isT_tuple_list, DL.isT_tuple_dict, DL.isT_list_bool, DL.isT_list_int, DL.isT_list_str, DL.isT_list_tuple, DL.isT_list_list, DL.isT_list_dict, DL.isT_dict_bool, DL.isT_dict_int, DL.isT_dict_str, DL.isT_dict_tuple, DL.isT_dict_list, DL.isT_dict_dict, true_and, and_true, eq_self, Bool.or_true, Bool.true_or, Bool.or_false, Bool.false_or, Bool.and_true, Bool.true_and, Bool.and_false, Bool.false_and, Bool.false_eq_true, ↓reduceIte, decide_true, decide_false, DL.tyD, DL.kyD, DL.atD, DL.atI_0, DL.atI_1, DL.atI_2, DL.atI_3, DL.atI_4, DL.atI_5, DL.atI_6, DL.atI_7, DL.atI_8, DL.atI_9, DL.atI_10, DL.atI_11, DL.atI_12, DL.ixN_0, DL.ixN_1, DL.upG_same, DL.upG_upG, List.getElem?_cons_zero, List.getElem?_cons_succ, List.cons_append, List.nil_append, Nat.add_one_sub_one, Nat.reduceAdd, Nat.reduceSub, List.length_cons, List.length_nil, decide_eq_true_eq, Bool.not_true, Bool.not_false, List.replicate_succ, List.replicate_zero, List.set_cons_zero, List.set_cons_succ, List.map_cons, List.map_nil]
      refine ⟨60, _, rfl, okS_two bu1 bl1 (by decide), ?_⟩
      simp -dsimp only [↓DL.thn_nx, ↓DL.thn_rt, ↓DL.thn_ex, ↓DL.thn_bk, ↓DL.thn_ct, ↓DL.trn_nx, ↓DL.trn_rt, ↓DL.trn_ex, ↓DL.trn_bk, ↓DL.trn_ct, DL.Br_true, DL.Br_false, ↓DL.dSeq, ↓DL.dNext, ↓DL.dPass, ↓DL.dBrk, ↓DL.dCnt, ↓DL.dDrop, ↓DL.dRet, ↓DL.dRetN, ↓DL.dIfS, ↓DL.gdName, ↓DL.gdNil, ↓DL.gdCons, ↓DL.gdTup, ↓DL.gdSub, ↓DL.dAsg, ↓DL.dPar, ↓DL.dVar, ↓DL.dC, ↓DL.dUn, ↓DL.dBin, ↓DL.dTest, ↓DL.dNot, ↓DL.dAnd, ↓DL.dOr, ↓DL.dVal, ↓DL.dAndV, ↓DL.dOrV, ↓DL.dNotV, ↓DL.dIf, ↓DL.dNil, ↓DL.dCons, ↓DL.dChain, ↓DL.dTup, ↓DL.dLst, ↓DL.dLstM, ↓DL.dCB, ↓DL.dFor, ↓DL.dLc, ↓DL.dLcM, ↓DL.lcLoop, ↓DL.dYes, ↓DL.diVal, ↓DL.diRng1, ↓DL.diRng2, ↓DL.diEnum, ↓DL.diZip, ↓DL.walkD, ↓DL.dCall, ↓DL.dSl, ↓DL.dDct0, ↓DL.dDctM0, ↓DL.rII, ↓DL.rLt, ↓DL.rLe, ↓DL.rGt, ↓DL.rGe, ↓DL.rSub, ↓DL.rMul, ↓DL.rDivP, ↓DL.rDiv, ↓DL.rModP, ↓DL.rPow, ↓DL.rNeg, ↓DL.rAdd, ↓DL.rEq, ↓DL.rNe, ↓DL.rIsN, ↓DL.rNotN, ↓DL.isN, ↓DL.cmp, ↓DL.rIn, ↓DL.rNotIn, ↓DL.rInB, ↓DL.rIx, ↓DL.rSl, ↓DL.rLen, ↓DL.rAbs, ↓DL.rMax2, ↓DL.rMin2, ↓DL.rInt1, ↓DL.rStr1, ↓DL.rDivmod, ↓DL.rListF, ↓DL.rListM, ↓DL.rTuple, ↓DL.rAll, ↓DL.rAny, ↓DL.rSum, ↓DL.rMaxL, ↓DL.rMinL, ↓DL.rIsi, ↓DL.rRepr, ↓DL.rSetD, ↓DL.itemsD, ↓DL.lstD, DL.slots, DL.dWipe, DL.rs_non, DL.rs_bl, DL.rs_i, DL.rs_s, DL.rs_ty, DL.rs_t, DL.rs_l, DL.rs_k, DL.rs_d, DL.rs_in, DL.rs_c, DL.rs_upl, DL.rs_upd, DL.rs_upi, DL.okQ, DL.isS, DL.okN_int, DL.okN_bl, DL.okN_non, DL.deq_ii, DL.okN_ii, DL.deq_int, DL.deq_bl, DL.deq_str, DL.tysB_bool, DL.tysB_int, DL.tysB_str, DL.tysB_tuple, DL.tysB_list, DL.tysB_dict, DL.isT_NoneType_bool, DL.isT_NoneType_int, DL.isT_NoneType_str, DL.isT_NoneType_tuple, DL.isT_NoneType_list, DL.isT_NoneType_dict, DL.isT_bool_bool, DL.isT_bool_int, DL.isT_bool_str, DL.isT_bool_tuple, DL.isT_bool_list, DL.isT_bool_dict, DL.isT_int_bool, DL.isT_int_int, DL.isT_int_str, DL.isT_int_tuple, DL.isT_int_list, DL.isT_int_dict, DL.isT_str_bool, DL.isT_str_int, DL.isT_str_str, DL.isT_str_tuple, DL.isT_str_list, DL.isT_str_dict, DL.isT_tuple_bool, DL.isT_tuple_int, DL.isT_tuple_str, DL.isT_tuple_tuple, DL.isT_tuple_list, DL.isT_tuple_dict, DL.isT_list_bool, DL.isT_list_int, DL.isT_list_str, DL.isT_list_tuple, DL.isT_list_list, DL.isT_list_dict, DL.isT_dict_bool, DL.isT_dict_int, DL.isT_dict_str, DL.isT_dict_tuple, DL.isT_dict_list, DL.isT_dict_dict, true_and, and_true, eq_self, Bool.or_true, Bool.true_or, Bool.or_false, Bool.false_or, Bool.and_true, Bool.true_and, Bool.and_false, Bool.false_and, Bool.false_eq_true, ↓reduceIte, decide_true, decide_false, DL.tyD, DL.kyD, DL.atD, DL.atI_0, DL.atI_1, DL.atI_2, DL.atI_3, DL.atI_4, DL.atI_5, DL.atI_6, DL.atI_7, DL.atI_8, DL.atI_9, DL.atI_10, DL.atI_11, DL.atI_12, DL.ixN_0, DL.ixN_1, DL.upG_same, DL.upG_upG, List.getElem?_cons_zero, List.getElem?_cons_succ, List.cons_append, List.nil_append, Nat.add_one_sub_one, Nat.reduceAdd, Nat.reduceSub, List.length_cons, List.length_nil, decide_eq_true_eq, Bool.not_true, Bool.not_false, List.replicate_succ, List.replicate_zero, List.set_cons_zero, List.set_cons_succ, List.map_cons, List.map_nil, isF, l1]
      have four : ∀ K : Int → Int → Int → Int → Prop, K u v r t → Four [.tup [.int u, .int v], .tup [.int r, .int t]] K := fun K hk => ⟨u, v, r, t, rfl, ⟨p1, p2⟩, ⟨bu1.mono (by decide), bl1.mono (by decide), bu2.mono (by decide), bl2.mono (by decide)⟩, hk⟩
      refine four _ ?_
      simp -dsimp only [↓DL.thn_nx, ↓DL.thn_rt, ↓DL.thn_ex, ↓DL.thn_bk, ↓DL.thn_ct, ↓DL.trn_nx, ↓DL.trn_rt, ↓DL.trn_ex, ↓DL.trn_bk, ↓DL.trn_ct, DL.Br_true, DL.Br_false, ↓DL.dSeq, ↓DL.dNext, ↓DL.dPass, ↓DL.dBrk, ↓DL.dCnt, ↓DL.dDrop, ↓DL.dRet, ↓DL.dRetN, ↓DL.dIfS, ↓DL.gdName, ↓DL.gdNil, ↓DL.gdCons, ↓DL.gdTup, ↓DL.gdSub, ↓DL.dAsg, ↓DL.dPar, ↓DL.dVar, ↓DL.dC, ↓DL.dUn, ↓DL.dBin, ↓DL.dTest, ↓DL.dNot, ↓DL.dAnd, ↓DL.dOr, ↓DL.dVal, ↓DL.dAndV, ↓DL.dOrV, ↓DL.dNotV, ↓DL.dIf, ↓DL.dNil, ↓DL.dCons, ↓DL.dChain, ↓DL.dTup, ↓DL.dLst, ↓DL.dLstM, ↓DL.dCB, ↓DL.dFor, ↓DL.dLc, ↓DL.dLcM, ↓DL.lcLoop, ↓DL.dYes, ↓DL.diVal, ↓DL.diRng1, ↓DL.diRng2, ↓DL.diEnum, ↓DL.diZip, ↓DL.walkD, ↓DL.dCall, ↓DL.dSl, ↓DL.dDct0, ↓DL.dDctM0, ↓DL.rII, ↓DL.rLt, ↓DL.rLe, ↓DL.rGt, ↓DL.rGe, ↓DL.rSub, ↓DL.rMul, ↓DL.rDivP, ↓DL.rDiv, ↓DL.rModP, ↓DL.rPow, ↓DL.rNeg, ↓DL.rAdd, ↓DL.rEq, ↓DL.rNe, ↓DL.rIsN, ↓DL.rNotN, ↓DL.isN, ↓DL.cmp, ↓DL.rIn, ↓DL.rNotIn, ↓DL.rInB, ↓DL.rIx, ↓DL.rSl, ↓DL.rLen, ↓DL.rAbs, ↓DL.rMax2, ↓DL.rMin2, ↓DL.rInt1, ↓DL.rStr1, ↓DL.rDivmod, ↓DL.rListF, ↓DL.rListM, ↓DL.rTuple, ↓DL.rAll, ↓DL.rAny, ↓DL.rSum, ↓DL.rMaxL, ↓DL.rMinL, ↓DL.rIsi, ↓DL.rRepr, ↓DL.rSetD, ↓DL.itemsD, ↓DL.lstD, DL.slots, DL.dWipe, DL.rs_non, DL.rs_bl, DL.rs_i, DL.rs_s, DL.rs_ty, DL.rs_t, DL.rs_l, DL.rs_k, DL.rs_d, DL.rs_in, DL.rs_c, DL.rs_upl, DL.rs_upd, DL.rs_upi, DL.okQ, DL.isS, DL.okN_int, DL.okN_bl, DL.okN_non, DL.deq_ii, DL.okN_ii, DL.deq_int, DL.deq_bl, DL.deq_str, DL.tysB_bool, DL.tysB_int, DL.tysB_str, DL.tysB_tuple, DL.tysB_list, DL.tysB_dict, DL.isT_NoneType_bool, DL.isT_NoneType_int, DL.isT_NoneType_str, DL.isT_NoneType_tuple, DL.isT_NoneType_list, DL.isT_NoneType_dict, DL.isT_bool_bool, DL.isT_bool_int, DL.isT_bool_str, DL.isT_bool_tuple, DL.isT_bool_list, DL.isT_bool_dict, DL.isT_int_bool, DL.isT_int_int, DL.isT_int_str, DL.isT_int_tuple, DL.isT_int_list, DL.isT_int_dict, DL.isT_str_bool, DL.isT_str_int, DL.isT_str_str, DL.isT_str_tuple, DL.isT_str_list, DL.isT_str_dict, DL.isT_tuple_bool, DL.isT_tuple_int, DL.isT_tuple_str, DL.isT_tuple_tuple, DL.isT_tuple_list, DL.isT_tuple_dict, DL.isT_list_bool, DL.isT_list_int, DL.isT_list_str, DL.isT_list_tuple, DL.isT_list_list, DL.isT_list_dict, DL.isT_dict_bool, DL.isT_dict_int, DL.isT_dict_str, DL.isT_dict_tuple, DL.isT_dict_list, DL.isT_dict_dict, true_and, and_true, eq_self, Bool.or_true, Bool.true_or, Bool.or_false, Bool.false_or, Bool.and_true, Bool.true_and, Bool.and_false, Bool.false_and, Bool.false_eq_true, ↓reduceIte, decide_true, decide_false, DL.tyD, DL.kyD, DL.atD, DL.atI_0, DL.atI_1, DL.atI_2, DL.atI_3, DL.atI_4, DL.atI_5, DL.atI_6, DL.atI_7, DL.atI_8, DL.atI_9, DL.atI_10, DL.atI_11, DL.atI_12, DL.ixN_0, DL.ixN_1, DL.upG_same, DL.upG_upG, List.getElem?_cons_zero, List.getElem?_cons_succ, List.cons_append, List.nil_append, Nat.add_one_sub_one, Nat.reduceAdd, Nat.reduceSub, List.length_cons, List.length_nil, decide_eq_true_eq, Bool.not_true, Bool.not_false, List.replicate_succ, List.replicate_zero, List.set_cons_zero, List.set_cons_succ, List.map_cons, List.map_nil]
      have m : ∀ {x y : Int}, Bd 110 x → Bd 110 y → MulOk x y := fun h k => h.mulOk k (by decide)
      have nvt : v * t ≠ 0 := Int.mul_ne_zero (by omega) (by omega)
      have bvt : Bd 450 (v * t) := (bl1.mul bl2).mono (by decide)
      have bbd : Bd 450 (b * d) := (bb.mul bd).mono (by decide)
      refine ⟨m ba bd, m bc bb, m bb bd, _, _, _, _, rfl, f_low nvt, cross (f_cross _ _) nvt (by grind), ⟨(fU_bd nvt ((bu1.mul bl2).add (bu2.mul bl1))).mono (by decide), fL_bd nvt bvt, ((ba.mul bd).add (bc.mul bb)).mono (by decide), bbd⟩, ?_⟩
      simp -dsimp only [↓DL.thn_nx, ↓DL.thn_rt, ↓DL.thn_ex, ↓DL.thn_bk, ↓DL.thn_ct, ↓DL.trn_nx, ↓DL.trn_rt, ↓DL.trn_ex, ↓DL.trn_bk, ↓DL.trn_ct, DL.Br_true, DL.Br_false, ↓DL.dSeq, ↓DL.dNext, ↓DL.dPass, ↓DL.dBrk, ↓DL.dCnt, ↓DL.dDrop, ↓DL.dRet, ↓DL.dRetN, ↓DL.dIfS, ↓DL.gdName, ↓DL.gdNil, ↓DL.gdCons, ↓DL.gdTup, ↓DL.gdSub, ↓DL.dAsg, ↓DL.dPar, ↓DL.dVar, ↓DL.dC, ↓DL.dUn, ↓DL.dBin, ↓DL.dTest, ↓DL.dNot, ↓DL.dAnd, ↓DL.dOr, ↓DL.dVal, ↓DL.dAndV, ↓DL.dOrV, ↓DL.dNotV, ↓DL.dIf, ↓DL.dNil, ↓DL.dCons, ↓DL.dChain, ↓DL.dTup, ↓DL.dLst, ↓DL.dLstM, ↓DL.dCB, ↓DL.dFor, ↓DL.dLc, ↓DL.dLcM, ↓DL.lcLoop, ↓DL.dYes, ↓DL.diVal, ↓DL.diRng1, ↓DL.diRng2, ↓DL.diEnum, ↓DL.diZip, ↓DL.walkD, ↓DL.dCall, ↓DL.dSl, ↓DL.dDct0, ↓DL.dDctM0, ↓DL.rII, ↓DL.rLt, ↓DL.rLe, ↓DL.rGt, ↓DL.rGe, ↓DL.rSub, ↓DL.rMul, ↓DL.rDivP, ↓DL.rDiv, ↓DL.rModP, ↓DL.rPow, ↓DL.rNeg, ↓DL.rAdd, ↓DL.rEq, ↓DL.rNe, ↓DL.rIsN, ↓DL.rNotN, ↓DL.isN, ↓DL.cmp, ↓DL.rIn, ↓DL.rNotIn, ↓DL.rInB, ↓DL.rIx, ↓DL.rSl, ↓DL.rLen, ↓DL.rAbs, ↓DL.rMax2, ↓DL.rMin2, ↓DL.rInt1, ↓DL.rStr1, ↓DL.rDivmod, ↓DL.rListF, ↓DL.rListM, ↓DL.rTuple, ↓DL.rAll, ↓DL.rAny, ↓DL.rSum, ↓DL.rMaxL, ↓DL.rMinL, ↓DL.rIsi, ↓DL.rRepr, ↓DL.rSetD, ↓DL.itemsD, ↓DL.lstD, DL.slots, DL.dWipe, DL.rs_non, DL.rs_bl, DL.rs_i, DL.rs_s, DL.rs_ty, DL.rs_t, DL.rs_l, DL.rs_k, DL.rs_d, DL.rs_in, DL.rs_c, DL.rs_upl, DL.rs_upd, DL.rs_upi, DL.okQ, DL.isS, DL.okN_int, DL.okN_bl, DL.okN_non, DL.deq_ii, DL.okN_ii, DL.deq_int, DL.deq_bl, DL.deq_str, DL.tysB_bool, DL.tysB_int, DL.tysB_str, DL.tysB_tuple, DL.tysB_list, DL.tysB_dict, DL.isT_NoneType_bool, DL.isT_NoneType_int, DL.isT_NoneType_str, DL.isT_NoneType_tuple, DL.isT_NoneType_list, DL.isT_NoneType_dict, DL.isT_bool_bool, DL.isT_bool_int, DL.isT_bool_str, DL.isT_bool_tuple, DL.isT_bool_list, DL.isT_bool_dict, DL.isT_int_bool, DL.isT_int_int, DL.isT_int_str, DL.isT_int_tuple, DL.isT_int_list, DL.isT_int_dict, DL.isT_str_bool, DL.isT_str_int, DL.isT_str_str, DL.isT_str_tuple, DL.isT_str_list, DL.isT_str_dict, DL.isT_tuple_bool, DL.isT_tuple_int, DL.isT_tuple_str, DL.isT_tuple_tuple, DL.isT_tuple_list, DL.isT_tuple_dict, DL.isT_list_bool, DL.isT_list_int, DL.isT_list_str, DL.isT_list_tuple, DL.isT_list_list, DL.isT_list_dict, DL.isT_dict_bool, DL.isT_dict_int, DL.isT_dict_str, DL.isT_dict_tuple, DL.isT_dict_list, DL.isT_dict_dict, true_and, and_true, eq_self, Bool.or_true, Bool.true_or, Bool.or_false, Bool.false_or, Bool.and_true, Bool.true_and, Bool.and_false, Bool.false_and, Bool.false_eq_true, ↓reduceIte, decide_true, decide_false, DL.tyD, DL.kyD, DL.atD, DL.atI_0, DL.atI_1, DL.atI_2, DL.atI_3, DL.atI_4, DL.atI_5, DL.atI_6, DL.atI_7, DL.atI_8, DL.atI_9, DL.atI_10, DL.atI_11, DL.atI_12, DL.ixN_0, DL.ixN_1, DL.upG_same, DL.upG_upG, List.getElem?_cons_zero, List.getElem?_cons_succ, List.cons_append, List.nil_append, Nat.add_one_sub_one, Nat.reduceAdd, Nat.reduceSub, List.length_cons, List.length_nil, decide_eq_true_eq, Bool.not_true, Bool.not_false, List.replicate_succ, List.replicate_zero, List.set_cons_zero, List.set_cons_succ, List.map_cons, List.map_nil]
      refine four _ ?_
      simp -dsimp only [↓DL.thn_nx, ↓DL.thn_rt, ↓DL.thn_ex, ↓DL.thn_bk, ↓DL.thn_ct, ↓DL.trn_nx, ↓DL.trn_rt, ↓DL.trn_ex, ↓DL.trn_bk, ↓DL.trn_ct, DL.Br_true, DL.Br_false, ↓DL.dSeq, ↓DL.dNext, ↓DL.dPass, ↓DL.dBrk, ↓DL.dCnt, ↓DL.dDrop, ↓DL.dRet, ↓DL.dRetN, ↓DL.dIfS, ↓DL.gdName, ↓DL.gdNil, ↓DL.gdCons, ↓DL.gdTup, ↓DL.gdSub, ↓DL.dAsg, ↓DL.dPar, ↓DL.dVar, ↓DL.dC, ↓DL.dUn, ↓DL.dBin, ↓DL.dTest, ↓DL.dNot, ↓DL.dAnd, ↓DL.dOr, ↓DL.dVal, ↓DL.dAndV, ↓DL.dOrV, ↓DL.dNotV, ↓DL.dIf, ↓DL.dNil, ↓DL.dCons, ↓DL.dChain, ↓DL.dTup, ↓DL.dLst, ↓DL.dLstM, ↓DL.dCB, ↓DL.dFor, ↓DL.dLc, ↓DL.dLcM, ↓DL.lcLoop, ↓DL.dYes, ↓DL.diVal, ↓DL.diRng1, ↓DL.diRng2, ↓DL.diEnum, ↓DL.diZip, ↓DL.walkD, ↓DL.dCall, ↓DL.dSl, ↓DL.dDct0, ↓DL.dDctM0, ↓DL.rII, ↓DL.rLt, ↓DL.rLe, ↓DL.rGt, ↓DL.rGe, ↓DL.rSub, ↓DL.rMul, ↓DL.rDivP, ↓DL.rDiv, ↓DL.rModP, ↓DL.rPow, ↓DL.rNeg, ↓DL.rAdd, ↓DL.rEq, ↓DL.rNe, ↓DL.rIsN, ↓DL.rNotN, ↓DL.isN, ↓DL.cmp, ↓DL.rIn, ↓DL.rNotIn, ↓DL.rInB, ↓DL.rIx, ↓DL.rSl, ↓DL.rLen, ↓DL.rAbs, ↓DL.rMax2, ↓DL.rMin2, ↓DL.rInt1, ↓DL.rStr1, ↓DL.rDivmod, ↓DL.rListF, ↓DL.rListM, ↓DL.rTuple, ↓DL.rAll, ↓DL.rAny, ↓DL.rSum, ↓DL.rMaxL, ↓DL.rMinL, ↓DL.rIsi, ↓DL.rRepr, ↓DL.rSetD, ↓DL.itemsD, ↓DL.lstD, DL.slots, DL.dWipe, DL.rs_non, DL.rs_bl, DL.rs_i, DL.rs_s, DL.rs_ty, DL.rs_t, DL.rs_l, DL.rs_k, DL.rs_d, DL.rs_in, DL.rs_c, DL.rs_upl, DL.rs_upd, DL.rs_upi, DL.okQ, DL.isS, DL.okN_int, DL.okN_bl, DL.okN_non, DL.deq_ii, DL.okN_ii, DL.deq_int, DL.deq_bl, DL.deq_str, DL.tysB_bool, DL.tysB_int, DL.tysB_str, DL.tysB_tuple, DL.tysB_list, DL.tysB_dict, DL.isT_NoneType_bool, DL.isT_NoneType_int, DL.isT_NoneType_str, DL.isT_NoneType_tuple, DL.isT_NoneType_list, DL.isT_NoneType_dict, DL.isT_bool_bool, DL.isT_bool_int, DL.isT_bool_str, DL.isT_bool_tuple, DL.isT_bool_list, DL.isT_bool_dict, DL.isT_int_bool, DL.isT_int_int, DL.isT_int_str, DL.isT_int_tuple, DL.isT_int_list, DL.isT_int_dict, DL.isT_str_bool, DL.isT_str_int, DL.isT_str_str, DL.isT_str_tuple, DL.isT_str_list, DL.isT_str_dict, DL.isT_tuple_bool, DL.isT_tuple_int, DL.isT_tuple_str, DL.isT_tuple_tuple, DL.isT_tuple_list, DL.isT_tuple_dict, DL.isT_list_bool, DL.isT_list_int, DL.isT_list_str, DL.isT_list_tuple, DL.isT_list_list, DL.isT_list_dict, DL.isT_dict_bool, DL.isT_dict_int, DL.isT_dict_str, DL.isT_dict_tuple, DL.isT_dict_list, DL.isT_dict_dict, true_and, and_true, eq_self, Bool.or_true, Bool.true_or, Bool.or_false, Bool.false_or, Bool.and_true, Bool.true_and, Bool.and_false, Bool.false_and, Bool.false_eq_true, ↓reduceIte, decide_true, decide_false, DL.tyD, DL.kyD, DL.atD, DL.atI_0, DL.atI_1, DL.atI_2, DL.atI_3, DL.atI_4, DL.atI_5, DL.atI_6, DL.atI_7, DL.atI_8, DL.atI_9, DL.atI_10, DL.atI_11, DL.atI_12, DL.ixN_0, DL.ixN_1, DL.upG_same, DL.upG_upG, List.getElem?_cons_zero, List.getElem?_cons_succ, List.cons_append, List.nil_append, Nat.add_one_sub_one, Nat.reduceAdd, Nat.reduceSub, List.length_cons, List.length_nil, decide_eq_true_eq, Bool.not_true, Bool.not_false, List.replicate_succ, List.replicate_zero, List.set_cons_zero, List.set_cons_succ, List.map_cons, List.map_nil]
      refine ⟨m ba bc, m bb bd, _, _, _, _, rfl, f_low nvt, cross (f_cross _ _) nvt (by grind), ⟨(fU_bd nvt (bu1.mul bu2)).mono (by decide), fL_bd nvt bvt, (ba.mul bc).mono (by decide), bbd⟩, ?_⟩
      simp -dsimp only [↓DL.thn_nx, ↓DL.thn_rt, ↓DL.thn_ex, ↓DL.thn_bk, ↓DL.thn_ct, ↓DL.trn_nx, ↓DL.trn_rt, ↓DL.trn_ex, ↓DL.trn_bk, ↓DL.trn_ct, DL.Br_true, DL.Br_false, ↓DL.dSeq, ↓DL.dNext, ↓DL.dPass, ↓DL.dBrk, ↓DL.dCnt, ↓DL.dDrop, ↓DL.dRet, ↓DL.dRetN, ↓DL.dIfS, ↓DL.gdName, ↓DL.gdNil, ↓DL.gdCons, ↓DL.gdTup, ↓DL.gdSub, ↓DL.dAsg, ↓DL.dPar, ↓DL.dVar, ↓DL.dC, ↓DL.dUn, ↓DL.dBin, ↓DL.dTest, ↓DL.dNot, ↓DL.dAnd, ↓DL.dOr, ↓DL.dVal, ↓DL.dAndV, ↓DL.dOrV, ↓DL.dNotV, ↓DL.dIf, ↓DL.dNil, ↓DL.dCons, ↓DL.dChain, ↓DL.dTup, ↓DL.dLst, ↓DL.dLstM, ↓DL.dCB, ↓DL.dFor, ↓DL.dLc, ↓DL.dLcM, ↓DL.lcLoop, ↓DL.dYes, ↓DL.diVal, ↓DL.diRng1, ↓DL.diRng2, ↓DL.diEnum, ↓DL.diZip, ↓DL.walkD, ↓DL.dCall, ↓DL.dSl, ↓DL.dDct0, ↓DL.dDctM0, ↓DL.rII, ↓DL.rLt, ↓DL.rLe, ↓DL.rGt, ↓DL.rGe, ↓DL.rSub, ↓DL.rMul, ↓DL.rDivP, ↓DL.rDiv, ↓DL.rModP, ↓DL.rPow, ↓DL.rNeg, ↓DL.rAdd, ↓DL.rEq, ↓DL.rNe, ↓DL.rIsN, ↓DL.rNotN, ↓DL.isN, ↓DL.cmp, ↓DL.rIn, ↓DL.rNotIn, ↓DL.rInB, ↓DL.rIx, ↓DL.rSl, ↓DL.rLen, ↓DL.rAbs, ↓DL.rMax2, ↓DL.rMin2, ↓DL.rInt1, ↓DL.rStr1, ↓DL.rDivmod, ↓DL.rListF, ↓DL.rListM, ↓DL.rTuple, ↓DL.rAll, ↓DL.rAny, ↓DL.rSum, ↓DL.rMaxL, ↓DL.rMinL, ↓DL.rIsi, ↓DL.rRepr, ↓DL.rSetD, ↓DL.itemsD, ↓DL.lstD, DL.slots, DL.dWipe, DL.rs_non, DL.rs_bl, DL.rs_i, DL.rs_s, DL.rs_ty, DL.rs_t, DL.rs_l, DL.rs_k, DL.rs_d, DL.rs_in, DL.rs_c, DL.rs_upl, DL.rs_upd, DL.rs_upi, DL.okQ, DL.isS, DL.okN_int, DL.okN_bl, DL.okN_non, DL.deq_ii, DL.okN_ii, DL.deq_int, DL.deq_bl, DL.deq_str, DL.tysB_bool, DL.tysB_int, DL.tysB_str, DL.tysB_tuple, DL.tysB_list, DL.tysB_dict, DL.isT_NoneType_bool, DL.isT_NoneType_int, DL.isT_NoneType_str, DL.isT_NoneType_tuple, DL.isT_NoneType_list, DL.isT_NoneType_dict, DL.isT_bool_bool, DL.isT_bool_int, DL.isT_bool_str, DL.isT_bool_tuple, DL.isT_bool_list, DL.isT_bool_dict, DL.isT_int_bool, DL.isT_int_int, DL.isT_int_str, DL.isT_int_tuple, DL.isT_int_list, DL.isT_int_dict, DL.isT_str_bool, DL.isT_str_int, DL.isT_str_str, DL.isT_str_tuple, DL.isT_str_list, DL.isT_str_dict, DL.isT_tuple_bool, DL.isT_tuple_int, DL.isT_tuple_str, DL.isT_tuple_tuple, DL.isT_tuple_list, DL.isT_tuple_dict, DL.isT_list_bool, DL.isT_list_int, DL.isT_list_str, DL.isT_list_tuple, DL.isT_list_list, DL.isT_list_dict, DL.isT_dict_bool, DL.isT_dict_int, DL.isT_dict_str, DL.isT_dict_tuple, DL.isT_dict_list, DL.isT_dict_dict, true_and, and_true, eq_self, Bool.or_true, Bool.true_or, Bool.or_false, Bool.false_or, Bool.and_true, Bool.true_and, Bool.and_false, Bool.false_and, Bool.false_eq_true, ↓reduceIte, decide_true, decide_false, DL.tyD, DL.kyD, DL.atD, DL.atI_0, DL.atI_1, DL.atI_2, DL.atI_3, DL.atI_4, DL.atI_5, DL.atI_6, DL.atI_7, DL.atI_8, DL.atI_9, DL.atI_10, DL.atI_11, DL.atI_12, DL.ixN_0, DL.ixN_1, DL.upG_same, DL.upG_upG, List.getElem?_cons_zero, List.getElem?_cons_succ, List.cons_append, List.nil_append, Nat.add_one_sub_one, Nat.reduceAdd, Nat.reduceSub, List.length_cons, List.length_nil, decide_eq_true_eq, Bool.not_true, Bool.not_false, List.replicate_succ, List.replicate_zero, List.set_cons_zero, List.set_cons_succ, List.map_cons, List.map_nil]
      refine four _ ?_
      simp -dsimp only [↓DL.thn_nx, ↓DL.thn_rt, ↓DL.thn_ex, ↓DL.thn_bk, ↓DL.thn_ct, ↓DL.trn_nx, ↓DL.trn_rt, ↓DL.trn_ex, ↓DL.trn_bk, ↓DL.trn_ct, DL.Br_true, DL.Br_false, ↓DL.dSeq, ↓DL.dNext, ↓DL.dPass, ↓DL.dBrk, ↓DL.dCnt, ↓DL.dDrop, ↓DL.dRet, ↓DL.dRetN, ↓DL.dIfS, ↓DL.gdName, ↓DL.gdNil, ↓DL.gdCons, ↓DL.gdTup, ↓DL.gdSub, ↓DL.dAsg, ↓DL.dPar, ↓DL.dVar, ↓DL.dC, ↓DL.dUn, ↓DL.dBin, ↓DL.dTest, ↓DL.dNot, ↓DL.dAnd, ↓DL.dOr, ↓DL.dVal, ↓DL.dAndV, ↓DL.dOrV, ↓DL.dNotV, ↓DL.dIf, ↓DL.dNil, ↓DL.dCons, ↓DL.dChain, ↓DL.dTup, ↓DL.dLst, ↓DL.dLstM, ↓DL.dCB, ↓DL.dFor, ↓DL.dLc, ↓DL.dLcM, ↓DL.lcLoop, ↓DL.dYes, ↓DL.diVal, ↓DL.diRng1, ↓DL.diRng2, ↓DL.diEnum, ↓DL.diZip, ↓DL.walkD, ↓DL.dCall, ↓DL.dSl, ↓DL.dDct0, ↓DL.dDctM0, ↓DL.rII, ↓DL.rLt, ↓DL.rLe, ↓DL.rGt, ↓DL.rGe, ↓DL.rSub, ↓DL.rMul, ↓DL.rDivP, ↓DL.rDiv, ↓DL.rModP, ↓DL.rPow, ↓DL.rNeg, ↓DL.rAdd, ↓DL.rEq, ↓DL.rNe, ↓DL.rIsN, ↓DL.rNotN, ↓DL.isN, ↓DL.cmp, ↓DL.rIn, ↓DL.rNotIn, ↓DL.rInB, ↓DL.rIx, ↓DL.rSl, ↓DL.rLen, ↓DL.rAbs, ↓DL.rMax2, ↓DL.rMin2, ↓DL.rInt1, ↓DL.rStr1, ↓DL.rDivmod, ↓DL.rListF, ↓DL.rListM, ↓DL.rTuple, ↓DL.rAll, ↓DL.rAny, ↓DL.rSum, ↓DL.rMaxL, ↓DL.rMinL, ↓DL.rIsi, ↓DL.rRepr, ↓DL.rSetD, ↓DL.itemsD, ↓DL.lstD, DL.slots, DL.dWipe, DL.rs_non, DL.rs_bl, DL.rs_i, DL.rs_s, DL.rs_ty, DL.rs_t, DL.rs_l, DL.rs_k, DL.rs_d, DL.rs_in, DL.rs_c, DL.rs_upl, DL.rs_upd, DL.rs_upi, DL.okQ, DL.isS, DL.okN_int, DL.okN_bl, DL.okN_non, DL.deq_ii, DL.okN_ii, DL.deq_int, DL.deq_bl, DL.deq_str, DL.tysB_bool, DL.tysB_int, DL.tysB_str, DL.tysB_tuple, DL.tysB_list, DL.tysB_dict, DL.isT_NoneType_bool, DL.isT_NoneType_int, DL.isT_NoneType_str, DL.isT_NoneType_tuple, DL.isT_NoneType_list, DL.isT_NoneType_dict, DL.isT_bool_bool, DL.isT_bool_int, DL.isT_bool_str, DL.isT_bool_tuple, DL.isT_bool_list, DL.isT_bool_dict, DL.isT_int_bool, DL.isT_int_int, DL.isT_int_str, DL.isT_int_tuple, DL.isT_int_list, DL.isT_int_dict, DL.isT_str_bool, DL.isT_str_int, DL.isT_str_str, DL.isT_str_tuple, DL.isT_str_list, DL.isT_str_dict, DL.isT_tuple_bool, DL.isT_tuple_int, DL.isT_tuple_str, DL.isT_tuple_tuple, DL.isT_tuple_list, DL.isT_tuple_dict, DL.isT_list_bool, DL.isT_list_int, DL.isT_list_str, DL.isT_list_tuple, DL.isT_list_list, DL.isT_list_dict, DL.isT_dict_bool, DL.isT_dict_int, DL.isT_dict_str, DL.isT_dict_tuple, DL.isT_dict_list, DL.isT_dict_dict, true_and, and_true, eq_self, Bool.or_true, Bool.true_or, Bool.or_false, Bool.false_or, Bool.and_true, Bool.true_and, Bool.and_false, Bool.false_and, Bool.false_eq_true, ↓reduceIte, decide_true, decide_false, DL.tyD, DL.kyD, DL.atD, DL.atI_0, DL.atI_1, DL.atI_2, DL.atI_3, DL.atI_4, DL.atI_5, DL.atI_6, DL.atI_7, DL.atI_8, DL.atI_9, DL.atI_10, DL.atI_11, DL.atI_12, DL.ixN_0, DL.ixN_1, DL.upG_same, DL.upG_upG, List.getElem?_cons_zero, List.getElem?_cons_succ, List.cons_append, List.nil_append, Nat.add_one_sub_one, Nat.reduceAdd, Nat.reduceSub, List.length_cons, List.length_nil, decide_eq_true_eq, Bool.not_true, Bool.not_false, List.replicate_succ, List.replicate_zero, List.set_cons_zero, List.set_cons_succ, List.map_cons, List.map_nil]
      refine ⟨m ba bd, m bc bb, m bb bd, _, _, _, _, rfl, f_low nvt, cross (f_cross _ _) nvt (by grind), ⟨(fU_bd nvt ((bu1.mul bl2).sub (bu2.mul bl1))).mono (by decide), fL_bd nvt bvt, ((ba.mul bd).sub (bc.mul bb)).mono (by decide), bbd⟩, ?_⟩
      simp -dsimp only [↓DL.thn_nx, ↓DL.thn_rt, ↓DL.thn_ex, ↓DL.thn_bk, ↓DL.thn_ct, ↓DL.trn_nx, ↓DL.trn_rt, ↓DL.trn_ex, ↓DL.trn_bk, ↓DL.trn_ct, DL.Br_true, DL.Br_false, ↓DL.dSeq, ↓DL.dNext, ↓DL.dPass, ↓DL.dBrk, ↓DL.dCnt, ↓DL.dDrop, ↓DL.dRet, ↓DL.dRetN, ↓DL.dIfS, ↓DL.gdName, ↓DL.gdNil, ↓DL.gdCons, ↓DL.gdTup, ↓DL.gdSub, ↓DL.dAsg, ↓DL.dPar, ↓DL.dVar, ↓DL.dC, ↓DL.dUn, ↓DL.dBin, ↓DL.dTest, ↓DL.dNot, ↓DL.dAnd, ↓DL.dOr, ↓DL.dVal, ↓DL.dAndV, ↓DL.dOrV, ↓DL.dNotV, ↓DL.dIf, ↓DL.dNil, ↓DL.dCons, ↓DL.dChain, ↓DL.dTup, ↓DL.dLst, ↓DL.dLstM, ↓DL.dCB, ↓DL.dFor, ↓DL.dLc, ↓DL.dLcM, ↓DL.lcLoop, ↓DL.dYes, ↓DL.diVal, ↓DL.diRng1, ↓DL.diRng2, ↓DL.diEnum, ↓DL.diZip, ↓DL.walkD, ↓DL.dCall, ↓DL.dSl, ↓DL.dDct0, ↓DL.dDctM0, ↓DL.rII, ↓DL.rLt, ↓DL.rLe, ↓DL.rGt, ↓DL.rGe, ↓DL.rSub, ↓DL.rMul, ↓DL.rDivP, ↓DL.rDiv, ↓DL.rModP, ↓DL.rPow, ↓DL.rNeg, ↓DL.rAdd, ↓DL.rEq, ↓DL.rNe, ↓DL.rIsN, ↓DL.rNotN, ↓DL.isN, ↓DL.cmp, ↓DL.rIn, ↓DL.rNotIn, ↓DL.rInB, ↓DL.rIx, ↓DL.rSl, ↓DL.rLen, ↓DL.rAbs, ↓DL.rMax2, ↓DL.rMin2, ↓DL.rInt1, ↓DL.rStr1, ↓DL.rDivmod, ↓DL.rListF, ↓DL.rListM, ↓DL.rTuple, ↓DL.rAll, ↓DL.rAny, ↓DL.rSum, ↓DL.rMaxL, ↓DL.rMinL, ↓DL.rIsi, ↓DL.rRepr, ↓DL.rSetD, ↓DL.itemsD, ↓DL.lstD, DL.slots, DL.dWipe, DL.rs_non, DL.rs_bl, DL.rs_i, DL.rs_s, DL.rs_ty, DL.rs_t, DL.rs_l, DL.rs_k, DL.rs_d, DL.rs_in, DL.rs_c, DL.rs_upl, DL.rs_upd, DL.rs_upi, DL.okQ, DL.isS, DL.okN_int, DL.okN_bl, DL.okN_non, DL.deq_ii, DL.okN_ii, DL.deq_int, DL.deq_bl, DL.deq_str, DL.tysB_bool, DL.tysB_int, DL.tysB_str, DL.tysB_tuple, DL.tysB_list, DL.tysB_dict, DL.isT_NoneType_bool, DL.isT_NoneType_int, DL.isT_NoneType_str, DL.isT_NoneType_tuple, DL.isT_NoneType_list, DL.isT_NoneType_dict, DL.isT_bool_bool, DL.isT_bool_int, DL.isT_bool_str, DL.isT_bool_tuple, DL.isT_bool_list, DL.isT_bool_dict, DL.isT_int_bool, DL.isT_int_int, DL.isT_int_str, DL.isT_int_tuple, DL.isT_int_list, DL.isT_int_dict, DL.isT_str_bool, DL.isT_str_int, DL.isT_str_str, DL.isT_str_tuple, DL.isT_str_list, DL.isT_str_dict, DL.isT_tuple_bool, DL.isT_tuple_int, DL.isT_tuple_str, DL.isT_tuple_tuple, DL.isT_tuple_list, DL.isT_tuple_dict, DL.isT_list_bool, DL.isT_list_int, DL.isT_list_str, DL.isT_list_tuple, DL.isT_list_list, DL.isT_list_dict, DL.isT_dict_bool, DL.isT_dict_int, DL.isT_dict_str, DL.isT_dict_tuple, DL.isT_dict_list, DL.isT_dict_dict, true_and, and_true, eq_self, Bool.or_true, Bool.true_or, Bool.or_false, Bool.false_or, Bool.and_true, Bool.true_and, Bool.and_false, Bool.false_and, Bool.false_eq_true, ↓reduceIte, decide_true, decide_false, DL.tyD, DL.kyD, DL.atD, DL.atI_0, DL.atI_1, DL.atI_2, DL.atI_3, DL.atI_4, DL.atI_5, DL.atI_6, DL.atI_7, DL.atI_8, DL.atI_9, DL.atI_10, DL.atI_11, DL.atI_12, DL.ixN_0, DL.ixN_1, DL.upG_same, DL.upG_upG, List.getElem?_cons_zero, List.getElem?_cons_succ, List.cons_append, List.nil_append, Nat.add_one_sub_one, Nat.reduceAdd, Nat.reduceSub, List.length_cons, List.length_nil, decide_eq_true_eq, Bool.not_true, Bool.not_false, List.replicate_succ, List.replicate_zero, List.set_cons_zero, List.set_cons_succ, List.map_cons, List.map_nil]
      have four' : ∀ K : Int → Int → Int → Int → Prop, K u v u v → Four [.tup [.int u, .int v], .tup [.int u, .int v]] K := fun K hk => ⟨u, v, u, v, rfl, ⟨p1, p1⟩, ⟨bu1.mono (by decide), bl1.mono (by decide), bu1.mono (by decide), bl1.mono (by decide)⟩, hk⟩
      refine four' _ ?_
      have nvv : v * v ≠ 0 := Int.mul_ne_zero (by omega) (by omega)
      rw [Int.sub_self, (f_zero nvv).1, (f_zero nvv).2]
      simp -dsimp only [↓DL.thn_nx, ↓DL.thn_rt, ↓DL.thn_ex, ↓DL.thn_bk, ↓DL.thn_ct, ↓DL.trn_nx, ↓DL.trn_rt, ↓DL.trn_ex, ↓DL.trn_bk, ↓DL.trn_ct, DL.Br_true, DL.Br_false, ↓DL.dSeq, ↓DL.dNext, ↓DL.dPass, ↓DL.dBrk, ↓DL.dCnt, ↓DL.dDrop, ↓DL.dRet, ↓DL.dRetN, ↓DL.dIfS, ↓DL.gdName, ↓DL.gdNil, ↓DL.gdCons, ↓DL.gdTup, ↓DL.gdSub, ↓DL.dAsg, ↓DL.dPar, ↓DL.dVar, ↓DL.dC, ↓DL.dUn, ↓DL.dBin, ↓DL.dTest, ↓DL.dNot, ↓DL.dAnd, ↓DL.dOr, ↓DL.dVal, ↓DL.dAndV, ↓DL.dOrV, ↓DL.dNotV, ↓DL.dIf, ↓DL.dNil, ↓DL.dCons, ↓DL.dChain, ↓DL.dTup, ↓DL.dLst, ↓DL.dLstM, ↓DL.dCB, ↓DL.dFor, ↓DL.dLc, ↓DL.dLcM, ↓DL.lcLoop, ↓DL.dYes, ↓DL.diVal, ↓DL.diRng1, ↓DL.diRng2, ↓DL.diEnum, ↓DL.diZip, ↓DL.walkD, ↓DL.dCall, ↓DL.dSl, ↓DL.dDct0, ↓DL.dDctM0, ↓DL.rII, ↓DL.rLt, ↓DL.rLe, ↓DL.rGt, ↓DL.rGe, ↓DL.rSub, ↓DL.rMul, ↓DL.rDivP, ↓DL.rDiv, ↓DL.rModP, ↓DL.rPow, ↓DL.rNeg, ↓DL.rAdd, ↓DL.rEq, ↓DL.rNe, ↓DL.rIsN, ↓DL.rNotN, ↓DL.isN, ↓DL.cmp, ↓DL.rIn, ↓DL.rNotIn, ↓DL.rInB, ↓DL.rIx, ↓DL.rSl, ↓DL.rLen, ↓DL.rAbs, ↓DL.rMax2, ↓DL.rMin2, ↓DL.rInt1, ↓DL.rStr1, ↓DL.rDivmod, ↓DL.rListF, ↓DL.rListM, ↓DL.rTuple, ↓DL.rAll, ↓DL.rAny, ↓DL.rSum, ↓DL.rMaxL, ↓DL.rMinL, ↓DL.rIsi, ↓DL.rRepr, ↓DL.rSetD, ↓DL.itemsD, ↓DL.lstD, DL.slots, DL.dWipe, DL.rs_non, DL.rs_bl, DL.rs_i, DL.rs_s, DL.rs_ty, DL.rs_t, DL.rs_l, DL.rs_k, DL.rs_d, DL.rs_in, DL.rs_c, DL.rs_upl, DL.rs_upd, DL.rs_upi, DL.okQ, DL.isS, DL.okN_int, DL.okN_bl, DL.okN_non, DL.deq_ii, DL.okN_ii, DL.deq_int, DL.deq_bl, DL.deq_str, DL.tysB_bool, DL.tysB_int, DL.tysB_str, DL.tysB_tuple, DL.tysB_list, DL.tysB_dict, DL.isT_NoneType_bool, DL.isT_NoneType_int, DL.isT_NoneType_str, DL.isT_NoneType_tuple, DL.isT_NoneType_list, DL.isT_NoneType_dict, DL.isT_bool_bool, DL.isT_bool_int, DL.isT_bool_str, DL.isT_bool_tuple, DL.isT_bool_list, DL.isT_bool_dict, DL.isT_int_bool, DL.isT_int_int, DL.isT_int_str, DL.isT_int_tuple, DL.isT_int_list, DL.isT_int_dict, DL.isT_str_bool, DL.isT_str_int, DL.isT_str_str, DL.isT_str_tuple, DL.isT_str_list, DL.isT_str_dict, DL.isT_tuple_bool, DL.isT_tuple_int, DL.isT_tuple_str, DL.isT_tuple_tuple, DL.isT_tuple_list, DL.isT_tuple_dict, DL.isT_list_bool, DL.isT_list_int, DL.isT_list_str, DL.isT_list_tuple, DL.isT_list_list, DL.isT_list_dict, DL.isT_dict_bool, DL.isT_dict_int, DL.isT_dict_str, DL.isT_dict_tuple, DL.isT_dict_list, DL.isT_dict_dict, true_and, and_true, eq_self, Bool.or_true, Bool.true_or, Bool.or_false, Bool.false_or, Bool.and_true, Bool.true_and, Bool.and_false, Bool.false_and, Bool.false_eq_true, ↓reduceIte, decide_true, decide_false, DL.tyD, DL.kyD, DL.atD, DL.atI_0, DL.atI_1, DL.atI_2, DL.atI_3, DL.atI_4, DL.atI_5, DL.atI_6, DL.atI_7, DL.atI_8, DL.atI_9, DL.atI_10, DL.atI_11, DL.atI_12, DL.ixN_0, DL.ixN_1, DL.upG_same, DL.upG_upG, List.getElem?_cons_zero, List.getElem?_cons_succ, List.cons_append, List.nil_append, Nat.add_one_sub_one, Nat.reduceAdd, Nat.reduceSub, List.length_cons, List.length_nil, decide_eq_true_eq, Bool.not_true, Bool.not_false, List.replicate_succ, List.replicate_zero, List.set_cons_zero, List.set_cons_succ, List.map_cons, List.map_nil]
      refine ⟨by decide, m bu1 bl2, m bu2 bl1, ?_⟩
      refine four _ ?_
      simp -dsimp only [↓DL.thn_nx, ↓DL.thn_rt, ↓DL.thn_ex, ↓DL.thn_bk, ↓DL.thn_ct, ↓DL.trn_nx, ↓DL.trn_rt, ↓DL.trn_ex, ↓DL.trn_bk, ↓DL.trn_ct, DL.Br_true, DL.Br_false, ↓DL.dSeq, ↓DL.dNext, ↓DL.dPass, ↓DL.dBrk, ↓DL.dCnt, ↓DL.dDrop, ↓DL.dRet, ↓DL.dRetN, ↓DL.dIfS, ↓DL.gdName, ↓DL.gdNil, ↓DL.gdCons, ↓DL.gdTup, ↓DL.gdSub, ↓DL.dAsg, ↓DL.dPar, ↓DL.dVar, ↓DL.dC, ↓DL.dUn, ↓DL.dBin, ↓DL.dTest, ↓DL.dNot, ↓DL.dAnd, ↓DL.dOr, ↓DL.dVal, ↓DL.dAndV, ↓DL.dOrV, ↓DL.dNotV, ↓DL.dIf, ↓DL.dNil, ↓DL.dCons, ↓DL.dChain, ↓DL.dTup, ↓DL.dLst, ↓DL.dLstM, ↓DL.dCB, ↓DL.dFor, ↓DL.dLc, ↓DL.dLcM, ↓DL.lcLoop, ↓DL.dYes, ↓DL.diVal, ↓DL.diRng1, ↓DL.diRng2, ↓DL.diEnum, ↓DL.diZip, ↓DL.walkD, ↓DL.dCall, ↓DL.dSl, ↓DL.dDct0, ↓DL.dDctM0, ↓DL.rII, ↓DL.rLt, ↓DL.rLe, ↓DL.rGt, ↓DL.rGe, ↓DL.rSub, ↓DL.rMul, ↓DL.rDivP, ↓DL.rDiv, ↓DL.rModP, ↓DL.rPow, ↓DL.rNeg, ↓DL.rAdd, ↓DL.rEq, ↓DL.rNe, ↓DL.rIsN, ↓DL.rNotN, ↓DL.isN, ↓DL.cmp, ↓DL.rIn, ↓DL.rNotIn, ↓DL.rInB, ↓DL.rIx, ↓DL.rSl, ↓DL.rLen, ↓DL.rAbs, ↓DL.rMax2, ↓DL.rMin2, ↓DL.rInt1, ↓DL.rStr1, ↓DL.rDivmod, ↓DL.rListF, ↓DL.rListM, ↓DL.rTuple, ↓DL.rAll, ↓DL.rAny, ↓DL.rSum, ↓DL.rMaxL, ↓DL.rMinL, ↓DL.rIsi, ↓DL.rRepr, ↓DL.rSetD, ↓DL.itemsD, ↓DL.lstD, DL.slots, DL.dWipe, DL.rs_non, DL.rs_bl, DL.rs_i, DL.rs_s, DL.rs_ty, DL.rs_t, DL.rs_l, DL.rs_k, DL.rs_d, DL.rs_in, DL.rs_c, DL.rs_upl, DL.rs_upd, DL.rs_upi, DL.okQ, DL.isS, DL.okN_int, DL.okN_bl, DL.okN_non, DL.deq_ii, DL.okN_ii, DL.deq_int, DL.deq_bl, DL.deq_str, DL.tysB_bool, DL.tysB_int, DL.tysB_str, DL.tysB_tuple, DL.tysB_list, DL.tysB_dict, DL.isT_NoneType_bool, DL.isT_NoneType_int, DL.isT_NoneType_str, DL.isT_NoneType_tuple, DL.isT_NoneType_list, DL.isT_NoneType_dict, DL.isT_bool_bool, DL.isT_bool_int, DL.isT_bool_str, DL.isT_bool_tuple, DL.isT_bool_list, DL.isT_bool_dict, DL.isT_int_bool, DL.isT_int_int, DL.isT_int_str, DL.isT_int_tuple, DL.isT_int_list, DL.isT_int_dict, DL.isT_str_bool, DL.isT_str_int, DL.isT_str_str, DL.isT_str_tuple, DL.isT_str_list, DL.isT_str_dict, DL.isT_tuple_bool, DL.isT_tuple_int, DL.isT_tuple_str, DL.isT_tuple_tuple, DL.isT_tuple_list, DL.isT_tuple_dict, DL.isT_list_bool, DL.isT_list_int, DL.isT_list_str, DL.isT_list_tuple, DL.isT_list_list, DL.isT_list_dict, DL.isT_dict_bool, DL.isT_dict_int, DL.isT_dict_str, DL.isT_dict_tuple, DL.isT_dict_list, DL.isT_dict_dict, true_and, and_true, eq_self, Bool.or_true, Bool.true_or, Bool.or_false, Bool.false_or, Bool.and_true, Bool.true_and, Bool.and_false, Bool.false_and, Bool.false_eq_true, ↓reduceIte, decide_true, decide_false, DL.tyD, DL.kyD, DL.atD, DL.atI_0, DL.atI_1, DL.atI_2, DL.atI_3, DL.atI_4, DL.atI_5, DL.atI_6, DL.atI_7, DL.atI_8, DL.atI_9, DL.atI_10, DL.atI_11, DL.atI_12, DL.ixN_0, DL.ixN_1, DL.upG_same, DL.upG_upG, List.getElem?_cons_zero, List.getElem?_cons_succ, List.cons_append, List.nil_append, Nat.add_one_sub_one, Nat.reduceAdd, Nat.reduceSub, List.length_cons, List.length_nil, decide_eq_true_eq, Bool.not_true, Bool.not_false, List.replicate_succ, List.replicate_zero, List.set_cons_zero, List.set_cons_succ, List.map_cons, List.map_nil]
      refine four' _ ?_
      simp -dsimp only [↓DL.thn_nx, ↓DL.thn_rt, ↓DL.thn_ex, ↓DL.thn_bk, ↓DL.thn_ct, ↓DL.trn_nx, ↓DL.trn_rt, ↓DL.trn_ex, ↓DL.trn_bk, ↓DL.trn_ct, DL.Br_true, DL.Br_false, ↓DL.dSeq, ↓DL.dNext, ↓DL.dPass, ↓DL.dBrk, ↓DL.dCnt, ↓DL.dDrop, ↓DL.dRet, ↓DL.dRetN, ↓DL.dIfS, ↓DL.gdName, ↓DL.gdNil, ↓DL.gdCons, ↓DL.gdTup, ↓DL.gdSub, ↓DL.dAsg, ↓DL.dPar, ↓DL.dVar, ↓DL.dC, ↓DL.dUn, ↓DL.dBin, ↓DL.dTest, ↓DL.dNot, ↓DL.dAnd, ↓DL.dOr, ↓DL.dVal, ↓DL.dAndV, ↓DL.dOrV, ↓DL.dNotV, ↓DL.dIf, ↓DL.dNil, ↓DL.dCons, ↓DL.dChain, ↓DL.dTup, ↓DL.dLst, ↓DL.dLstM, ↓DL.dCB, ↓DL.dFor, ↓DL.dLc, ↓DL.dLcM, ↓DL.lcLoop, ↓DL.dYes, ↓DL.diVal, ↓DL.diRng1, ↓DL.diRng2, ↓DL.diEnum, ↓DL.diZip, ↓DL.walkD, ↓DL.dCall, ↓DL.dSl, ↓DL.dDct0, ↓DL.dDctM0, ↓DL.rII, ↓DL.rLt, ↓DL.rLe, ↓DL.rGt, ↓DL.rGe, ↓DL.rSub, ↓DL.rMul, ↓DL.rDivP, ↓DL.rDiv, ↓DL.rModP, ↓DL.rPow, ↓DL.rNeg, ↓DL.rAdd, ↓DL.rEq, ↓DL.rNe, ↓DL.rIsN, ↓DL.rNotN, ↓DL.isN, ↓DL.cmp, ↓DL.rIn, ↓DL.rNotIn, ↓DL.rInB, ↓DL.rIx, ↓DL.rSl, ↓DL.rLen, ↓DL.rAbs, ↓DL.rMax2, ↓DL.rMin2, ↓DL.rInt1, ↓DL.rStr1, ↓DL.rDivmod, ↓DL.rListF, ↓DL.rListM, ↓DL.rTuple, ↓DL.rAll, ↓DL.rAny, ↓DL.rSum, ↓DL.rMaxL, ↓DL.rMinL, ↓DL.rIsi, ↓DL.rRepr, ↓DL.rSetD, ↓DL.itemsD, ↓DL.lstD, DL.slots, DL.dWipe, DL.rs_non, DL.rs_bl, DL.rs_i, DL.rs_s, DL.rs_ty, DL.rs_t, DL.rs_l, DL.rs_k, DL.rs_d, DL.rs_in, DL.rs_c, DL.rs_upl, DL.rs_upd, DL.rs_upi, DL.okQ, DL.isS, DL.okN_int, DL.okN_bl, DL.okN_non, DL.deq_ii, DL.okN_ii, DL.deq_int, DL.deq_bl, DL.deq_str, DL.tysB_bool, DL.tysB_int, DL.tysB_str, DL.tysB_tuple, DL.tysB_list, DL.tysB_dict, DL.isT_NoneType_bool, DL.isT_NoneType_int, DL.isT_NoneType_str, DL.isT_NoneType_tuple, DL.isT_NoneType_list, DL.isT_NoneType_dict, DL.isT_bool_bool, DL.isT_bool_int, DL.isT_bool_str, DL.isT_bool_tuple, DL.isT_bool_list, DL.isT_bool_dict, DL.isT_int_bool, DL.isT_int_int, DL.isT_int_str, DL.isT_int_tuple, DL.isT_int_list, DL.isT_int_dict, DL.isT_str_bool, DL.isT_str_int, DL.isT_str_str, DL.isT_str_tuple, DL.isT_str_list, DL.isT_str_dict, DL.isT_tuple_bool, DL.isT_tuple_int, DL.isT_tuple_str, DL.isT_tuple_tuple, DL.isT_tuple_list, DL.isT_tuple_dict, DL.isT_list_bool, DL.isT_list_int, DL.isT_list_str, DL.isT_list_tuple, DL.isT_list_list, DL.isT_list_dict, DL.isT_dict_bool, DL.isT_dict_int, DL.isT_dict_str, DL.isT_dict_tuple, DL.isT_dict_list, DL.isT_dict_dict, true_and, and_true, eq_self, Bool.or_true, Bool.true_or, Bool.or_false, Bool.false_or, Bool.and_true, Bool.true_and, Bool.and_false, Bool.false_and, Bool.false_eq_true, ↓reduceIte, decide_true, decide_false, DL.tyD, DL.kyD, DL.atD, DL.atI_0, DL.atI_1, DL.atI_2, DL.atI_3, DL.atI_4, DL.atI_5, DL.atI_6, DL.atI_7, DL.atI_8, DL.atI_9, DL.atI_10, DL.atI_11, DL.atI_12, DL.ixN_0, DL.ixN_1, DL.upG_same, DL.upG_upG, List.getElem?_cons_zero, List.getElem?_cons_succ, List.cons_append, List.nil_append, Nat.add_one_sub_one, Nat.reduceAdd, Nat.reduceSub, List.length_cons, List.length_nil, decide_eq_true_eq, Bool.not_true, Bool.not_false, List.replicate_succ, List.replicate_zero, List.set_cons_zero, List.set_cons_succ, List.map_cons, List.map_nil]
      rw [decide_eq_false (Int.lt_irrefl (u * v))]
      refine ⟨by decide, ⟨?_, ?_⟩, ?_⟩
      · simp [okS, okSL]
      · exact bl_short _ _
      refine ⟨by decide, ⟨?_, ?_⟩, ?_⟩
      · simp [okS, okSL]
      · exact bl_short _ _
      (refine br_npos (by first | rfl | trivial) ?_; try simp -dsimp only [↓DL.thn_nx, ↓DL.thn_rt, ↓DL.thn_ex, ↓DL.thn_bk, ↓DL.thn_ct, ↓DL.trn_nx, ↓DL.trn_rt, ↓DL.trn_ex, ↓DL.trn_bk, ↓DL.trn_ct, DL.Br_true, DL.Br_false, ↓DL.dSeq, ↓DL.dNext, ↓DL.dPass, ↓DL.dBrk, ↓DL.dCnt, ↓DL.dDrop, ↓DL.dRet, ↓DL.dRetN, ↓DL.dIfS, ↓DL.gdName, ↓DL.gdNil, ↓DL.gdCons, ↓DL.gdTup, ↓DL.gdSub, ↓DL.dAsg, ↓DL.dPar, ↓DL.dVar, ↓DL.dC, ↓DL.dUn, ↓DL.dBin, ↓DL.dTest, ↓DL.dNot, ↓DL.dAnd, ↓DL.dOr, ↓DL.dVal, ↓DL.dAndV, ↓DL.dOrV, ↓DL.dNotV, ↓DL.dIf, ↓DL.dNil, ↓DL.dCons, ↓DL.dChain, ↓DL.dTup, ↓DL.dLst, ↓DL.dLstM, ↓DL.dCB, ↓DL.dFor, ↓DL.dLc, ↓DL.dLcM, ↓DL.lcLoop, ↓DL.dYes, ↓DL.diVal, ↓DL.diRng1, ↓DL.diRng2, ↓DL.diEnum, ↓DL.diZip, ↓DL.walkD, ↓DL.dCall, ↓DL.dSl, ↓DL.dDct0, ↓DL.dDctM0, ↓DL.rII, ↓DL.rLt, ↓DL.rLe, ↓DL.rGt, ↓DL.rGe, ↓DL.rSub, ↓DL.rMul, ↓DL.rDivP, ↓DL.rDiv, ↓DL.rModP, ↓DL.rPow, ↓DL.rNeg, ↓DL.rAdd, ↓DL.rEq, ↓DL.rNe, ↓DL.rIsN, ↓DL.rNotN, ↓DL.isN, ↓DL.cmp, ↓DL.rIn, ↓DL.rNotIn, ↓DL.rInB, ↓DL.rIx, ↓DL.rSl, ↓DL.rLen, ↓DL.rAbs, ↓DL.rMax2, ↓DL.rMin2, ↓DL.rInt1, ↓DL.rStr1, ↓DL.rDivmod, ↓DL.rListF, ↓DL.rListM, ↓DL.rTuple, ↓DL.rAll, ↓DL.rAny, ↓DL.rSum, ↓DL.rMaxL, ↓DL.rMinL, ↓DL.rIsi, ↓DL.rRepr, ↓DL.rSetD, ↓DL.itemsD, ↓DL.lstD, DL.slots, DL.dWipe, DL.rs_non, DL.rs_bl, DL.rs_i, DL.rs_s, DL.rs_ty, DL.rs_t, DL.rs_l, DL.rs_k, DL.rs_d, DL.rs_in, DL.rs_c, DL.rs_upl, DL.rs_upd, DL.rs_upi, DL.okQ, DL.isS, DL.okN_int, DL.okN_bl, DL.okN_non, DL.deq_ii, DL.okN_ii, DL.deq_int, DL.deq_bl, DL.deq_str, DL.tysB_bool, DL.tysB_int, DL.tysB_str, DL.tysB_tuple, DL.tysB_list, DL.tysB_dict, DL.isT_NoneType_bool, DL.isT_NoneType_int, DL.isT_NoneType_str, DL.isT_NoneType_tuple, DL.isT_NoneType_list, DL.isT_NoneType_dict, DL.isT_bool_bool, DL.isT_bool_int, DL.isT_bool_str, DL.isT_bool_tuple, DL.isT_bool_list, DL.isT_bool_dict, DL.isT_int_bool, DL.isT_int_int, DL.isT_int_str, DL.isT_int_tuple, DL.isT_int_list, DL.isT_int_dict, DL.isT_str_bool, DL.isT_str_int, DL.isT_str_str, DL.isT_str_tuple, DL.isT_str_list, DL.isT_str_dict, DL.isT_tuple_bool, DL.isT_tuple_int, DL.isT_tuple_str, DL.isT_tuple_tuple, DL.isT_tuple_list, DL.isT_tuple_dict, DL.isT_list_bool, DL.isT_list_int, DL.isT_list_str, DL.isT_list_tuple, DL.isT_list_list, DL.isT_list_dict, DL.isT_dict_bool, DL.isT_dict_int, DL.isT_dict_str, DL.isT_dict_tuple, DL.isT_dict_list, DL.isT_dict_dict, true_and, and_true, eq_self, Bool.or_true, Bool.true_or, Bool.or_false, Bool.false_or, Bool.and_true, Bool.true_and, Bool.and_false, Bool.false_and, Bool.false_eq_true, ↓reduceIte, decide_true, decide_false, DL.tyD, DL.kyD, DL.atD, DL.atI_0, DL.atI_1, DL.atI_2, DL.atI_3, DL.atI_4, DL.atI_5, DL.atI_6, DL.atI_7, DL.atI_8, DL.atI_9, DL.atI_10, DL.atI_11, DL.atI_12, DL.ixN_0, DL.ixN_1, DL.upG_same, DL.upG_upG, List.getElem?_cons_zero, List.getElem?_cons_succ, List.cons_append, List.nil_append, Nat.add_one_sub_one, Nat.reduceAdd, Nat.reduceSub, List.length_cons, List.length_nil, decide_eq_true_eq, Bool.not_true, Bool.not_false, List.replicate_succ, List.replicate_zero, List.set_cons_zero, List.set_cons_succ, List.map_cons, List.map_nil])
      refine ⟨p, rfl, s14.pot, fun z G5 hz s5 => ?_⟩
      simp -dsimp only [↓DL.thn_nx, ↓DL.thn_rt, ↓DL.thn_ex, ↓DL.thn_bk, ↓DL.thn_ct, ↓DL.trn_nx, ↓DL.trn_rt, ↓DL.trn_ex, ↓DL.trn_bk, ↓DL.trn_ct, DL.Br_true, DL.Br_false, ↓DL.dSeq, ↓DL.dNext, ↓DL.dPass, ↓DL.dBrk, ↓DL.dCnt, ↓DL.dDrop, ↓DL.dRet, ↓DL.dRetN, ↓DL.dIfS, ↓DL.gdName, ↓DL.gdNil, ↓DL.gdCons, ↓DL.gdTup, ↓DL.gdSub, ↓DL.dAsg, ↓DL.dPar, ↓DL.dVar, ↓DL.dC, ↓DL.dUn, ↓DL.dBin, ↓DL.dTest, ↓DL.dNot, ↓DL.dAnd, ↓DL.dOr, ↓DL.dVal, ↓DL.dAndV, ↓DL.dOrV, ↓DL.dNotV, ↓DL.dIf, ↓DL.dNil, ↓DL.dCons, ↓DL.dChain, ↓DL.dTup, ↓DL.dLst, ↓DL.dLstM, ↓DL.dCB, ↓DL.dFor, ↓DL.dLc, ↓DL.dLcM, ↓DL.lcLoop, ↓DL.dYes, ↓DL.diVal, ↓DL.diRng1, ↓DL.diRng2, ↓DL.diEnum, ↓DL.diZip, ↓DL.walkD, ↓DL.dCall, ↓DL.dSl, ↓DL.dDct0, ↓DL.dDctM0, ↓DL.rII, ↓DL.rLt, ↓DL.rLe, ↓DL.rGt, ↓DL.rGe, ↓DL.rSub, ↓DL.rMul, ↓DL.rDivP, ↓DL.rDiv, ↓DL.rModP, ↓DL.rPow, ↓DL.rNeg, ↓DL.rAdd, ↓DL.rEq, ↓DL.rNe, ↓DL.rIsN, ↓DL.rNotN, ↓DL.isN, ↓DL.cmp, ↓DL.rIn, ↓DL.rNotIn, ↓DL.rInB, ↓DL.rIx, ↓DL.rSl, ↓DL.rLen, ↓DL.rAbs, ↓DL.rMax2, ↓DL.rMin2, ↓DL.rInt1, ↓DL.rStr1, ↓DL.rDivmod, ↓DL.rListF, ↓DL.rListM, ↓DL.rTuple, ↓DL.rAll, ↓DL.rAny, ↓DL.rSum, ↓DL.rMaxL, ↓DL.rMinL, ↓DL.rIsi, ↓DL.rRepr, ↓DL.rSetD, ↓DL.itemsD, ↓DL.lstD, DL.slots, DL.dWipe, DL.rs_non, DL.rs_bl, DL.rs_i, DL.rs_s, DL.rs_ty, DL.rs_t, DL.rs_l, DL.rs_k, DL.rs_d, DL.rs_in, DL.rs_c, DL.rs_upl, DL.rs_upd, DL.rs_upi, DL.okQ, DL.isS, DL.okN_int, DL.okN_bl, DL.okN_non, DL.deq_ii, DL.okN_ii, DL.deq_int, DL.deq_bl, DL.deq_str, DL.tysB_bool, DL.tysB_int, DL.tysB_str, DL.tysB_tuple, DL.tysB_list, DL.tysB_dict, DL.isT_NoneType_bool, DL.isT_NoneType_int, DL.isT_NoneType_str, DL.isT_NoneType_tuple, DL.isT_NoneType_list, DL.isT_NoneType_dict, DL.isT_bool_bool, DL.isT_bool_int, DL.isT_bool_str, DL.isT_bool_tuple, DL.isT_bool_list, DL.isT_bool_dict, DL.isT_int_bool, DL.isT_int_int, DL.isT_int_str, DL.isT_int_tuple, DL.isT_int_list, DL.isT_int_dict, DL.isT_str_bool, DL.isT_str_int, DL.isT_str_str, DL.isT_str_tuple, DL.isT_str_list, DL.isT_str_dict, DL.isT_tuple_bool, DL.isT_tuple_int, DL.isT_tuple_str, DL.isT_tuple_tuple, DL.isT_tuple_list, DL.isT_tuple_dict, DL.isT_list_bool, DL.isT_list_int, DL.isT_list_str, DL.isT_list_tuple, DL.isT_list_list, DL.isT_list_dict, DL.isT_dict_bool, DL.isT_dict_int, DL.isT_dict_str, DL.isT_dict_tuple, DL.isT_dict_list, DL.isT_dict_dict, true_and, and_true, eq_self, Bool.or_true, Bool.true_or, Bool.or_false, Bool.false_or, Bool.and_true, Bool.true_and, Bool.and_false, Bool.false_and, Bool.false_eq_true, ↓reduceIte, decide_true, decide_false, DL.tyD, DL.kyD, DL.atD, DL.atI_0, DL.atI_1, DL.atI_2, DL.atI_3, DL.atI_4, DL.atI_5, DL.atI_6, DL.atI_7, DL.atI_8, DL.atI_9, DL.atI_10, DL.atI_11, DL.atI_12, DL.ixN_0, DL.ixN_1, DL.upG_same, DL.upG_upG, List.getElem?_cons_zero, List.getElem?_cons_succ, List.cons_append, List.nil_append, Nat.add_one_sub_one, Nat.reduceAdd, Nat.reduceSub, List.length_cons, List.length_nil, decide_eq_true_eq, Bool.not_true, Bool.not_false, List.replicate_succ, List.replicate_zero, List.set_cons_zero, List.set_cons_succ, List.map_cons, List.map_nil, rs_okS hz.1]
      refine ⟨⟨hz.1, hz.size⟩, 60, z, rfl, hz.1, ?_⟩
      simp -dsimp only [↓DL.thn_nx, ↓DL.thn_rt, ↓DL.thn_ex, ↓DL.thn_bk, ↓DL.thn_ct, ↓DL.trn_nx, ↓DL.trn_rt, ↓DL.trn_ex, ↓DL.trn_bk, ↓DL.trn_ct, DL.Br_true, DL.Br_false, ↓DL.dSeq, ↓DL.dNext, ↓DL.dPass, ↓DL.dBrk, ↓DL.dCnt, ↓DL.dDrop, ↓DL.dRet, ↓DL.dRetN, ↓DL.dIfS, ↓DL.gdName, ↓DL.gdNil, ↓DL.gdCons, ↓DL.gdTup, ↓DL.gdSub, ↓DL.dAsg, ↓DL.dPar, ↓DL.dVar, ↓DL.dC, ↓DL.dUn, ↓DL.dBin, ↓DL.dTest, ↓DL.dNot, ↓DL.dAnd, ↓DL.dOr, ↓DL.dVal, ↓DL.dAndV, ↓DL.dOrV, ↓DL.dNotV, ↓DL.dIf, ↓DL.dNil, ↓DL.dCons, ↓DL.dChain, ↓DL.dTup, ↓DL.dLst, ↓DL.dLstM, ↓DL.dCB, ↓DL.dFor, ↓DL.dLc, ↓DL.dLcM, ↓DL.lcLoop, ↓DL.dYes, ↓DL.diVal, ↓DL.diRng1, ↓DL.diRng2, ↓DL.diEnum, ↓DL.diZip, ↓DL.walkD, ↓DL.dCall, ↓DL.dSl, ↓DL.dDct0, ↓DL.dDctM0, ↓DL.rII, ↓DL.rLt, ↓DL.rLe, ↓DL.rGt, ↓DL.rGe, ↓DL.rSub, ↓DL.rMul, ↓DL.rDivP, ↓DL.rDiv, ↓DL.rModP, ↓DL.rPow, ↓DL.rNeg, ↓DL.rAdd, ↓DL.rEq, ↓DL.rNe, ↓DL.rIsN, ↓DL.rNotN, ↓DL.isN, ↓DL.cmp, ↓DL.rIn, ↓DL.rNotIn, ↓DL.rInB, ↓DL.rIx, ↓DL.rSl, ↓DL.rLen, ↓DL.rAbs, ↓DL.rMax2, ↓DL.rMin2, ↓DL.rInt1, ↓DL.rStr1, ↓DL.rDivmod, ↓DL.rListF, ↓DL.rListM, ↓DL.rTuple, ↓DL.rAll, ↓DL.rAny, ↓DL.rSum, ↓DL.rMaxL, ↓DL.rMinL, ↓DL.rIsi, ↓DL.rRepr, ↓DL.rSetD, ↓DL.itemsD, ↓DL.lstD, DL.slots, DL.dWipe, DL.rs_non, DL.rs_bl, DL.rs_i, DL.rs_s, DL.rs_ty, DL.rs_t, DL.rs_l, DL.rs_k, DL.rs_d, DL.rs_in, DL.rs_c, DL.rs_upl, DL.rs_upd, DL.rs_upi, DL.okQ, DL.isS, DL.okN_int, DL.okN_bl, DL.okN_non, DL.deq_ii, DL.okN_ii, DL.deq_int, DL.deq_bl, DL.deq_str, DL.tysB_bool, DL.tysB_int, DL.tysB_str, DL.tysB_tuple, DL.tysB_list, DL.tysB_dict, DL.isT_NoneType_bool, DL.isT_NoneType_int, DL.isT_NoneType_str, DL.isT_NoneType_tuple, DL.isT_NoneType_list, DL.isT_NoneType_dict, DL.isT_bool_bool, DL.isT_bool_int, DL.isT_bool_str, DL.isT_bool_tuple, DL.isT_bool_list, DL.isT_bool_dict, DL.isT_int_bool, DL.isT_int_int, DL.isT_int_str, DL.isT_int_tuple, DL.isT_int_list, DL.isT_int_dict, DL.isT_str_bool, DL.isT_str_int, DL.isT_str_str, DL.isT_str_tuple, DL.isT_str_list, DL.isT_str_dict, DL.isT_tuple_bool, DL.isT_tuple_int, DL.isT_tuple_str, DL.isT_tuple_tuple, DL.isT_tuple_list, DL.isT_tuple_dict, DL.isT_list_bool, DL.isT_list_int, DL.isT_list_str, DL.isT_list_tuple, DL.isT_list_list, DL.isT_list_dict, DL.isT_dict_bool, DL.isT_dict_int, DL.isT_dict_str, DL.isT_dict_tuple, DL.isT_dict_list, DL.isT_dict_dict, true_and, and_true, eq_self, Bool.or_true, Bool.true_or, Bool.or_false, Bool.false_or, Bool.and_true, Bool.true_and, Bool.and_false, Bool.false_and, Bool.false_eq_true, ↓reduceIte, decide_true, decide_false, DL.tyD, DL.kyD, DL.atD, DL.atI_0, DL.atI_1, DL.atI_2, DL.atI_3, DL.atI_4, DL.atI_5, DL.atI_6, DL.atI_7, DL.atI_8, DL.atI_9, DL.atI_10, DL.atI_11, DL.atI_12, DL.ixN_0, DL.ixN_1, DL.upG_same, DL.upG_upG, List.getElem?_cons_zero, List.getElem?_cons_succ, List.cons_append, List.nil_append, Nat.add_one_sub_one, Nat.reduceAdd, Nat.reduceSub, List.length_cons, List.length_nil, decide_eq_true_eq, Bool.not_true, Bool.not_false, List.replicate_succ, List.replicate_zero, List.set_cons_zero, List.set_cons_succ, List.map_cons, List.map_nil]
      have sz : ∀ q : Bool, (py (.bl q)).shown.length ≤ sizeLine := fun q => by cases q <;> decide +kernel
      refine ⟨⟨by simp [okS], sz _⟩, 60, z, rfl, hz.1, ?_⟩
      simp -dsimp only [↓DL.thn_nx, ↓DL.thn_rt, ↓DL.thn_ex, ↓DL.thn_bk, ↓DL.thn_ct, ↓DL.trn_nx, ↓DL.trn_rt, ↓DL.trn_ex, ↓DL.trn_bk, ↓DL.trn_ct, DL.Br_true, DL.Br_false, ↓DL.dSeq, ↓DL.dNext, ↓DL.dPass, ↓DL.dBrk, ↓DL.dCnt, ↓DL.dDrop, ↓DL.dRet, ↓DL.dRetN, ↓DL.dIfS, ↓DL.gdName, ↓DL.gdNil, ↓DL.gdCons, ↓DL.gdTup, ↓DL.gdSub, ↓DL.dAsg, ↓DL.dPar, ↓DL.dVar, ↓DL.dC, ↓DL.dUn, ↓DL.dBin, ↓DL.dTest, ↓DL.dNot, ↓DL.dAnd, ↓DL.dOr, ↓DL.dVal, ↓DL.dAndV, ↓DL.dOrV, ↓DL.dNotV, ↓DL.dIf, ↓DL.dNil, ↓DL.dCons, ↓DL.dChain, ↓DL.dTup, ↓DL.dLst, ↓DL.dLstM, ↓DL.dCB, ↓DL.dFor, ↓DL.dLc, ↓DL.dLcM, ↓DL.lcLoop, ↓DL.dYes, ↓DL.diVal, ↓DL.diRng1, ↓DL.diRng2, ↓DL.diEnum, ↓DL.diZip, ↓DL.walkD, ↓DL.dCall, ↓DL.dSl, ↓DL.dDct0, ↓DL.dDctM0, ↓DL.rII, ↓DL.rLt, ↓DL.rLe, ↓DL.rGt, ↓DL.rGe, ↓DL.rSub, ↓DL.rMul, ↓DL.rDivP, ↓DL.rDiv, ↓DL.rModP, ↓DL.rPow, ↓DL.rNeg, ↓DL.rAdd, ↓DL.rEq, ↓DL.rNe, ↓DL.rIsN, ↓DL.rNotN, ↓DL.isN, ↓DL.cmp, ↓DL.rIn, ↓DL.rNotIn, ↓DL.rInB, ↓DL.rIx, ↓DL.rSl, ↓DL.rLen, ↓DL.rAbs, ↓DL.rMax2, ↓DL.rMin2, ↓DL.rInt1, ↓DL.rStr1, ↓DL.rDivmod, ↓DL.rListF, ↓DL.rListM, ↓DL.rTuple, ↓DL.rAll, ↓DL.rAny, ↓DL.rSum, ↓DL.rMaxL, ↓DL.rMinL, ↓DL.rIsi, ↓DL.rRepr, ↓DL.rSetD, ↓DL.itemsD, ↓DL.lstD, DL.slots, DL.dWipe, DL.rs_non, DL.rs_bl, DL.rs_i, DL.rs_s, DL.rs_ty, DL.rs_t, DL.rs_l, DL.rs_k, DL.rs_d, DL.rs_in, DL.rs_c, DL.rs_upl, DL.rs_upd, DL.rs_upi, DL.okQ, DL.isS, DL.okN_int, DL.okN_bl, DL.okN_non, DL.deq_ii, DL.okN_ii, DL.deq_int, DL.deq_bl, DL.deq_str, DL.tysB_bool, DL.tysB_int, DL.tysB_str, DL.tysB_tuple, DL.tysB_list, DL.tysB_dict, DL.isT_NoneType_bool, DL.isT_NoneType_int, DL.isT_NoneType_str, DL.isT_NoneType_tuple, DL.isT_NoneType_list, DL.isT_NoneType_dict, DL.isT_bool_bool, DL.isT_bool_int, DL.isT_bool_str, DL.isT_bool_tuple, DL.isT_bool_list, DL.isT_bool_dict, DL.isT_int_bool, DL.isT_int_int, DL.isT_int_str, DL.isT_int_tuple, DL.isT_int_list, DL.isT_int_dict, DL.isT_str_bool, DL.isT_str_int, DL.isT_str_str, DL.isT_str_tuple, DL.isT_str_list, DL.isT_str_dict, DL.isT_tuple_bool, DL.isT_tuple_int, DL.isT_tuple_str, DL.isT_tuple_tuple, DL.isT_tuple_list, DL.isT_tuple_dict, DL.isT_list_bool, DL.isT_list_int, DL.isT_list_str, DL.isT_list_tuple, DL.isT_list_list, DL.isT_list_dict, DL.isT_dict_bool, DL.isT_dict_int, DL.isT_dict_str, DL.isT_dict_tuple, DL.isT_dict_list, DL.isT_dict_dict, true_and, and_true, eq_self, Bool.or_true, Bool.true_or, Bool.or_false, Bool.false_or, Bool.and_true, Bool.true_and, Bool.and_false, Bool.false_and, Bool.false_eq_true, ↓reduceIte, decide_true, decide_false, DL.tyD, DL.kyD, DL.atD, DL.atI_0, DL.atI_1, DL.atI_2, DL.atI_3, DL.atI_4, DL.atI_5, DL.atI_6, DL.atI_7, DL.atI_8, DL.atI_9, DL.atI_10, DL.atI_11, DL.atI_12, DL.ixN_0, DL.ixN_1, DL.upG_same, DL.upG_upG, List.getElem?_cons_zero, List.getElem?_cons_succ, List.cons_append, List.nil_append, Nat.add_one_sub_one, Nat.reduceAdd, Nat.reduceSub, List.length_cons, List.length_nil, decide_eq_true_eq, Bool.not_true, Bool.not_false, List.replicate_succ, List.replicate_zero, List.set_cons_zero, List.set_cons_succ, List.map_cons, List.map_nil]
      refine ⟨⟨by simp [okS], sz _⟩, ?_⟩
      simp -dsimp only [↓DL.thn_nx, ↓DL.thn_rt, ↓DL.thn_ex, ↓DL.thn_bk, ↓DL.thn_ct, ↓DL.trn_nx, ↓DL.trn_rt, ↓DL.trn_ex, ↓DL.trn_bk, ↓DL.trn_ct, DL.Br_true, DL.Br_false, ↓DL.dSeq, ↓DL.dNext, ↓DL.dPass, ↓DL.dBrk, ↓DL.dCnt, ↓DL.dDrop, ↓DL.dRet, ↓DL.dRetN, ↓DL.dIfS, ↓DL.gdName, ↓DL.gdNil, ↓DL.gdCons, ↓DL.gdTup, ↓DL.gdSub, ↓DL.dAsg, ↓DL.dPar, ↓DL.dVar, ↓DL.dC, ↓DL.dUn, ↓DL.dBin, ↓DL.dTest, ↓DL.dNot, ↓DL.dAnd, ↓DL.dOr, ↓DL.dVal, ↓DL.dAndV, ↓DL.dOrV, ↓DL.dNotV, ↓DL.dIf, ↓DL.dNil, ↓DL.dCons, ↓DL.dChain, ↓DL.dTup, ↓DL.dLst, ↓DL.dLstM, ↓DL.dCB, ↓DL.dFor, ↓DL.dLc, ↓DL.dLcM, ↓DL.lcLoop, ↓DL.dYes, ↓DL.diVal, ↓DL.diRng1, ↓DL.diRng2, ↓DL.diEnum, ↓DL.diZip, ↓DL.walkD, ↓DL.dCall, ↓DL.dSl, ↓DL.dDct0, ↓DL.dDctM0, ↓DL.rII, ↓DL.rLt, ↓DL.rLe, ↓DL.rGt, ↓DL.rGe, ↓DL.rSub, ↓DL.rMul, ↓DL.rDivP, ↓DL.rDiv, ↓DL.rModP, ↓DL.rPow, ↓DL.rNeg, ↓DL.rAdd, ↓DL.rEq, ↓DL.rNe, ↓DL.rIsN, ↓DL.rNotN, ↓DL.isN, ↓DL.cmp, ↓DL.rIn, ↓DL.rNotIn, ↓DL.rInB, ↓DL.rIx, ↓DL.rSl, ↓DL.rLen, ↓DL.rAbs, ↓DL.rMax2, ↓DL.rMin2, ↓DL.rInt1, ↓DL.rStr1, ↓DL.rDivmod, ↓DL.rListF, ↓DL.rListM, ↓DL.rTuple, ↓DL.rAll, ↓DL.rAny, ↓DL.rSum, ↓DL.rMaxL, ↓DL.rMinL, ↓DL.rIsi, ↓DL.rRepr, ↓DL.rSetD, ↓DL.itemsD, ↓DL.lstD, DL.slots, DL.dWipe, DL.rs_non, DL.rs_bl, DL.rs_i, DL.rs_s, DL.rs_ty, DL.rs_t, DL.rs_l, DL.rs_k, DL.rs_d, DL.rs_in, DL.rs_c, DL.rs_upl, DL.rs_upd, DL.rs_upi, DL.okQ, DL.isS, DL.okN_int, DL.okN_bl, DL.okN_non, DL.deq_ii, DL.okN_ii, DL.deq_int, DL.deq_bl, DL.deq_str, DL.tysB_bool, DL.tysB_int, DL.tysB_str, DL.tysB_tuple, DL.tysB_list, DL.tysB_dict, DL.isT_NoneType_bool, DL.isT_NoneType_int, DL.isT_NoneType_str, DL.isT_NoneType_tuple, DL.isT_NoneType_list, DL.isT_NoneType_dict, DL.isT_bool_bool, DL.isT_bool_int, DL.isT_bool_str, DL.isT_bool_tuple, DL.isT_bool_list, DL.isT_bool_dict, DL.isT_int_bool, DL.isT_int_int, DL.isT_int_str, DL.isT_int_tuple, DL.isT_int_list, DL.isT_int_dict, DL.isT_str_bool, DL.isT_str_int, DL.isT_str_str, DL.isT_str_tuple, DL.isT_str_list, DL.isT_str_dict, DL.isT_tuple_bool, DL.isT_tuple_int, DL.isT_tuple_str, DL.isT_tuple_tuple, DL.isT_tuple_list, DL.isT_tuple_dict, DL.isT_list_bool, DL.isT_list_int, DL.isT_list_str, DL.isT_list_tuple, DL.isT_list_list, DL.isT_list_dict, DL.isT_dict_bool, DL.isT_dict_int, DL.isT_dict_str, DL.isT_dict_tuple, DL.isT_dict_list, DL.isT_dict_dict, true_and, and_true, eq_self, Bool.or_true, Bool.true_or, Bool.or_false, Bool.false_or, Bool.and_true, Bool.true_and, Bool.and_false, Bool.false_and, Bool.false_eq_true, ↓reduceIte, decide_true, decide_false, DL.tyD, DL.kyD, DL.atD, DL.atI_0, DL.atI_1, DL.atI_2, DL.atI_3, DL.atI_4, DL.atI_5, DL.atI_6, DL.atI_7, DL.atI_8, DL.atI_9, DL.atI_10, DL.atI_11, DL.atI_12, DL.ixN_0, DL.ixN_1, DL.upG_same, DL.upG_upG, List.getElem?_cons_zero, List.getElem?_cons_succ, List.cons_append, List.nil_append, Nat.add_one_sub_one, Nat.reduceAdd, Nat.reduceSub, List.length_cons, List.length_nil, decide_eq_true_eq, Bool.not_true, Bool.not_false, List.replicate_succ, List.replicate_zero, List.set_cons_zero, List.set_cons_succ, List.map_cons, List.map_nil, rs_okS hz.1]
      refine ⟨⟨hz.1, hz.size⟩, ?_⟩
      exact ⟨(s14.trans s5).pot, _, _, _, _, _, _, _, _, _, _, rfl⟩
    · rintro δ G' ⟨hp, o3, o4, o5, o6, o7, o8, o9, o10, o11, o12, rfl⟩
      exact ⟨trivial, _, _, _, _, _, _, _, _, _, _, _, _, rfl⟩
  · rintro δ G ⟨o1, o2, o3, o4, o5, o6, o7, o8, o9, o10, o11, o12, rfl⟩
    refine ⟨trivial, ?_⟩
    simp -dsimp only [↓DL.thn_nx, ↓DL.thn_rt, ↓DL.thn_ex, ↓DL.thn_bk, ↓DL.thn_ct, ↓DL.trn_nx, ↓DL.trn_rt, ↓DL.trn_ex, ↓DL.trn_bk, ↓DL.trn_ct, DL.Br_true, DL.Br_false, ↓DL.dSeq, ↓DL.dNext, ↓DL.dPass, ↓DL.dBrk, ↓DL.dCnt, ↓DL.dDrop, ↓DL.dRet, ↓DL.dRetN, ↓DL.dIfS, ↓DL.gdName, ↓DL.gdNil, ↓DL.gdCons, ↓DL.gdTup, ↓DL.gdSub, ↓DL.dAsg, ↓DL.dPar, ↓DL.dVar, ↓DL.dC, ↓DL.dUn, ↓DL.dBin, ↓DL.dTest, ↓DL.dNot, ↓DL.dAnd, ↓DL.dOr, ↓DL.dVal, ↓DL.dAndV, ↓DL.dOrV, ↓DL.dNotV, ↓DL.dIf, ↓DL.dNil, ↓DL.dCons, ↓DL.dChain, ↓DL.dTup, ↓DL.dLst, ↓DL.dLstM, ↓DL.dCB, ↓DL.dFor, ↓DL.dLc, ↓DL.dLcM, ↓DL.lcLoop, ↓DL.dYes, ↓DL.diVal, ↓DL.diRng1, ↓DL.diRng2, ↓DL.diEnum, ↓DL.diZip, ↓DL.walkD, ↓DL.dCall, ↓DL.dSl, ↓DL.dDct0, ↓DL.dDctM0, ↓DL.rII, ↓DL.rLt, ↓DL.rLe, ↓DL.rGt, ↓DL.rGe, ↓DL.rSub, ↓DL.rMul, ↓DL.rDivP, ↓DL.rDiv, ↓DL.rModP, ↓DL.rPow, ↓DL.rNeg, ↓DL.rAdd, ↓DL.rEq, ↓DL.rNe, ↓DL.rIsN, ↓DL.rNotN, ↓DL.isN, ↓DL.cmp, ↓DL.rIn, ↓DL.rNotIn, ↓DL.rInB, ↓DL.rIx, ↓DL.rSl, ↓DL.rLen, ↓DL.rAbs, ↓DL.rMax2, ↓DL.rMin2, ↓DL.rInt1, ↓DL.rStr1, ↓DL.rDivmod, ↓DL.rListF, ↓DL.rListM, ↓DL.rTuple, ↓DL.rAll, ↓DL.rAny, ↓DL.rSum, ↓DL.rMaxL, ↓DL.rMinL, ↓DL.rIsi, ↓DL.rRepr, ↓DL.rSetD, ↓DL.itemsD, ↓DL.lstD, DL.slots, DL.dWipe, DL.rs_non, DL.rs_bl, DL.rs_i, DL.rs_s, DL.rs_ty, DL.rs_t, DL.rs_l, DL.rs_k, DL.rs_d, DL.rs_in, DL.rs_c, DL.rs_upl, DL.rs_upd, DL.rs_upi, DL.okQ, DL.isS, DL.okN_int, DL.okN_bl, DL.okN_non, DL.deq_ii, DL.okN_ii, DL.deq_int, DL.deq_bl, DL.deq_str, DL.tysB_bool, DL.tysB_int, DL.tysB_str, DL.tysB_tuple, DL.tysB_list, DL.tysB_dict, DL.isT_NoneType_bool, DL.isT_NoneType_int, DL.isT_NoneType_str, DL.isT_NoneType_tuple, DL.isT_NoneType_list, DL.isT_NoneType_dict, DL.isT_bool_bool, DL.isT_bool_int, DL.isT_bool_str, DL.isT_bool_tuple, DL.isT_bool_list, DL.isT_bool_dict, DL.isT_int_bool, DL.isT_int_int, DL.isT_int_str, DL.isT_int_tuple, DL.isT_int_list, DL.isT_int_dict, DL.isT_str_bool, DL.isT_str_int, DL.isT_str_str, DL.isT_str_tuple, DL.isT_str_list, DL.isT_str_dict, DL.isT_tuple_bool, DL.isT_tuple_int, DL.isT_tuple_str, DL.isT_tuple_tuple, DL.isT_tuple_list, DL.isT_tuple_dict, DL.isT_list_bool, DL.isT_list_int, DL.isT_list_str, DL.isT_list_tuple, DL.isT_list_list, DL.isT_list_dict, DL.isT_dict_bool, DL.isT_dict_int, DL.isT_dict_str, DL.isT_dict_tuple, DL.isT_dict_list, DL.isT_dict_dict, true_and, and_true, eq_self, Bool.or_true, Bool.true_or, Bool.or_false, Bool.false_or, Bool.and_true, Bool.true_and, Bool.and_false, Bool.false_and, Bool.false_eq_true, ↓reduceIte, decide_true, decide_false, DL.tyD, DL.kyD, DL.atD, DL.atI_0, DL.atI_1, DL.atI_2, DL.atI_3, DL.atI_4, DL.atI_5, DL.atI_6, DL.atI_7, DL.atI_8, DL.atI_9, DL.atI_10, DL.atI_11, DL.atI_12, DL.ixN_0, DL.ixN_1, DL.upG_same, DL.upG_upG, List.getElem?_cons_zero, List.getElem?_cons_succ, List.cons_append, List.nil_append, Nat.add_one_sub_one, Nat.reduceAdd, Nat.reduceSub, List.length_cons, List.length_nil, decide_eq_true_eq, Bool.not_true, Bool.not_false, List.replicate_succ, List.replicate_zero, List.set_cons_zero, List.set_cons_succ, List.map_cons, List.map_nil]
    exact be_rt (h G)
end K71

namespace K71
open DL L2 PyProof.Rows PySem PySem.Spec
theorem hf_common_part {P : Program} {w : World} {K : PySem.W.Frag} {mg : Str → Option Value} {base : Heap} (M : Tx mg) {f : Addr} {fd : FuncData} (hm : mg "common_part" = some (.ref f)) (F : FunD K "common_part" "common_part" (defArgs (top 1)) (defBody (top 1)) (defScope (top 1)) [] [] f fd) :
    HasF P w K mg base "common_part" 1 ps_common_part sp_common_part :=
  hasF_of hm F sc_common_part (fun _ _ _ _ _ _ us hl => match us, hl with | [_, _], _ => rfl) (by
    rintro ds G Q E ⟨_, _, rfl, _⟩
    rfl) (fun cdv A outer s H E => bd_common_part M _ cdv A outer s H E) ok_common_part
theorem hf_fraction {P : Program} {w : World} {K : PySem.W.Frag} {mg : Str → Option Value} {base : Heap} (M : Tx mg) (h_common_part : HasF P w K mg base "common_part" 1 ps_common_part sp_common_part) {f : Addr} {fd : FuncData} (hm : mg "fraction" = some (.ref f)) (F : FunD K "fraction" "fraction" (defArgs (top 2)) (defBody (top 2)) (defScope (top 2)) [] [] f fd) :
    HasF P w K mg base "fraction" 2 ps_fraction sp_fraction :=
  hasF_of hm F sc_fraction (fun _ _ _ _ _ _ us hl => match us, hl with | [_, _], _ => rfl) (by
    rintro ds G Q E ⟨_, _, rfl, _⟩
    rfl) (fun cdv A outer s H E => bd_fraction M h_common_part _ cdv A outer s H E) ok_fraction
theorem hf_is_whole {P : Program} {w : World} {K : PySem.W.Frag} {mg : Str → Option Value} {base : Heap} (M : Tx mg) {f : Addr} {fd : FuncData} (hm : mg "is_whole" = some (.ref f)) (F : FunD K "is_whole" "is_whole" (defArgs (top 3)) (defBody (top 3)) (defScope (top 3)) [] [] f fd) :
    HasF P w K mg base "is_whole" 1 ps_is_whole sp_is_whole :=
  hasF_of hm F sc_is_whole (fun _ _ _ _ _ _ us hl => match us, hl with | [_], _ => rfl) (by
    rintro ds G Q E ⟨_, _, rfl, _⟩
    rfl) (fun cdv A outer s H E => bd_is_whole M _ cdv A outer s H E) ok_is_whole
theorem hf_is_fraction {P : Program} {w : World} {K : PySem.W.Frag} {mg : Str → Option Value} {base : Heap} (M : Tx mg) (h_is_whole : HasF P w K mg base "is_whole" 1 ps_is_whole sp_is_whole) (h_common_part : HasF P w K mg base "common_part" 1 ps_common_part sp_common_part) {f : Addr} {fd : FuncData} (hm : mg "is_fraction" = some (.ref f)) (F : FunD K "is_fraction" "is_fraction" (defArgs (top 4)) (defBody (top 4)) (defScope (top 4)) [] [] f fd) :
    HasF P w K mg base "is_fraction" 2 ps_is_fraction sp_is_fraction :=
  hasF_of hm F sc_is_fraction (fun _ _ _ _ _ _ us hl => match us, hl with | [_], _ => rfl) (by
    rintro ds G Q E ⟨_, _, rfl, _⟩
    rfl) (fun cdv A outer s H E => bd_is_fraction M h_is_whole h_common_part _ cdv A outer s H E) ok_is_fraction
theorem hf_plus {P : Program} {w : World} {K : PySem.W.Frag} {mg : Str → Option Value} {base : Heap} (M : Tx mg) (h_fraction : HasF P w K mg base "fraction" 2 ps_fraction sp_fraction) {f : Addr} {fd : FuncData} (hm : mg "plus" = some (.ref f)) (F : FunD K "plus" "plus" (defArgs (top 5)) (defBody (top 5)) (defScope (top 5)) [] [] f fd) :
    HasF P w K mg base "plus" 3 ps_plus sp_plus :=
  hasF_of hm F sc_plus (fun _ _ _ _ _ _ us hl => match us, hl with | [_, _], _ => rfl) (by
    rintro ds G Q E ⟨_, _, _, _, rfl, _⟩
    rfl) (fun cdv A outer s H E => bd_plus M h_fraction _ cdv A outer s H E) ok_plus
theorem hf_minus {P : Program} {w : World} {K : PySem.W.Frag} {mg : Str → Option Value} {base : Heap} (M : Tx mg) (h_fraction : HasF P w K mg base "fraction" 2 ps_fraction sp_fraction) {f : Addr} {fd : FuncData} (hm : mg "minus" = some (.ref f)) (F : FunD K "minus" "minus" (defArgs (top 6)) (defBody (top 6)) (defScope (top 6)) [] [] f fd) :
    HasF P w K mg base "minus" 3 ps_minus sp_minus :=
  hasF_of hm F sc_minus (fun _ _ _ _ _ _ us hl => match us, hl with | [_, _], _ => rfl) (by
    rintro ds G Q E ⟨_, _, _, _, rfl, _⟩
    rfl) (fun cdv A outer s H E => bd_minus M h_fraction _ cdv A outer s H E) ok_minus
theorem hf_times {P : Program} {w : World} {K : PySem.W.Frag} {mg : Str → Option Value} {base : Heap} (M : Tx mg) (h_fraction : HasF P w K mg base "fraction" 2 ps_fraction sp_fraction) {f : Addr} {fd : FuncData} (hm : mg "times" = some (.ref f)) (F : FunD K "times" "times" (defArgs (top 7)) (defBody (top 7)) (defScope (top 7)) [] [] f fd) :
    HasF P w K mg base "times" 3 ps_times sp_times :=
  hasF_of hm F sc_times (fun _ _ _ _ _ _ us hl => match us, hl with | [_, _], _ => rfl) (by
    rintro ds G Q E ⟨_, _, _, _, rfl, _⟩
    rfl) (fun cdv A outer s H E => bd_times M h_fraction _ cdv A outer s H E) ok_times
theorem hf_is_less {P : Program} {w : World} {K : PySem.W.Frag} {mg : Str → Option Value} {base : Heap} (M : Tx mg) {f : Addr} {fd : FuncData} (hm : mg "is_less" = some (.ref f)) (F : FunD K "is_less" "is_less" (defArgs (top 8)) (defBody (top 8)) (defScope (top 8)) [] [] f fd) :
    HasF P w K mg base "is_less" 1 ps_is_less sp_is_less :=
  hasF_of hm F sc_is_less (fun _ _ _ _ _ _ us hl => match us, hl with | [_, _], _ => rfl) (by
    rintro ds G Q E ⟨_, _, _, _, rfl, _⟩
    rfl) (fun cdv A outer s H E => bd_is_less M _ cdv A outer s H E) ok_is_less
theorem hf__law_pot {P : Program} {w : World} {K : PySem.W.Frag} {mg : Str → Option Value} {base : Heap} (M : Tx mg) {f : Addr} {fd : FuncData} (hm : mg "_law_pot" = some (.ref f)) (F : FunD K "_law_pot" "_law_pot" (defArgs (top 10)) (defBody (top 10)) (defScope (top 10)) [] [] f fd) :
    HasF P w K mg base "_law_pot" 1 ps__law_pot sp__law_pot :=
  hasF_of hm F sc__law_pot (fun _ _ _ _ _ _ us hl => match us, hl with | [_, _], _ => rfl) (by
    rintro ds G Q E ⟨_, _, rfl, _⟩
    rfl) (fun cdv A outer s H E => bd__law_pot M _ cdv A outer s H E) ok__law_pot
theorem hf__law_take {P : Program} {w : World} {K : PySem.W.Frag} {mg : Str → Option Value} {base : Heap} (M : Tx mg) {f : Addr} {fd : FuncData} (hm : mg "_law_take" = some (.ref f)) (F : FunD K "_law_take" "_law_take" (defArgs (top 11)) (defBody (top 11)) (defScope (top 11)) [] [] f fd) :
    HasF P w K mg base "_law_take" 1 ps__law_take sp__law_take :=
  hasF_of hm F sc__law_take (fun _ _ _ _ _ _ us hl => match us, hl with | [_, _], _ => rfl) (by
    rintro ds G Q E ⟨_, _, rfl, _⟩
    rfl) (fun cdv A outer s H E => bd__law_take M _ cdv A outer s H E) ok__law_take
theorem hf__law_among {P : Program} {w : World} {K : PySem.W.Frag} {mg : Str → Option Value} {base : Heap} (M : Tx mg) (h__law_take : HasF P w K mg base "_law_take" 1 ps__law_take sp__law_take) {f : Addr} {fd : FuncData} (hm : mg "_law_among" = some (.ref f)) (F : FunD K "_law_among" "_law_among" (defArgs (top 12)) (defBody (top 12)) (defScope (top 12)) [] [] f fd) :
    HasF P w K mg base "_law_among" 2 ps__law_among sp__law_among :=
  hasF_of hm F sc__law_among (fun _ _ _ _ _ _ us hl => match us, hl with | [_, _], _ => rfl) (by
    rintro ds G Q E ⟨_, _, rfl, _⟩
    rfl) (fun cdv A outer s H E => bd__law_among M h__law_take _ cdv A outer s H E) ok__law_among
theorem hf__law_whole {P : Program} {w : World} {K : PySem.W.Frag} {mg : Str → Option Value} {base : Heap} (M : Tx mg) (h__law_take : HasF P w K mg base "_law_take" 1 ps__law_take sp__law_take) {f : Addr} {fd : FuncData} (hm : mg "_law_whole" = some (.ref f)) (F : FunD K "_law_whole" "_law_whole" (defArgs (top 13)) (defBody (top 13)) (defScope (top 13)) [] [] f fd) :
    HasF P w K mg base "_law_whole" 2 ps__law_whole sp__law_whole :=
  hasF_of hm F sc__law_whole (fun _ _ _ _ _ _ us hl => match us, hl with | [_], _ => rfl) (by
    rintro ds G Q E ⟨_, rfl, _⟩
    rfl) (fun cdv A outer s H E => bd__law_whole M h__law_take _ cdv A outer s H E) ok__law_whole
theorem hf__law_lower {P : Program} {w : World} {K : PySem.W.Frag} {mg : Str → Option Value} {base : Heap} (M : Tx mg) (h__law_whole : HasF P w K mg base "_law_whole" 2 ps__law_whole sp__law_whole) (h__law_take : HasF P w K mg base "_law_take" 1 ps__law_take sp__law_take) {f : Addr} {fd : FuncData} (hm : mg "_law_lower" = some (.ref f)) (F : FunD K "_law_lower" "_law_lower" (defArgs (top 14)) (defBody (top 14)) (defScope (top 14)) [] [] f fd) :
    HasF P w K mg base "_law_lower" 3 ps__law_lower sp__law_lower :=
  hasF_of hm F sc__law_lower (fun _ _ _ _ _ _ us hl => match us, hl with | [_], _ => rfl) (by
    rintro ds G Q E ⟨_, rfl, _⟩
    rfl) (fun cdv A outer s H E => bd__law_lower M h__law_whole h__law_take _ cdv A outer s H E) ok__law_lower
theorem hf__law_share {P : Program} {w : World} {K : PySem.W.Frag} {mg : Str → Option Value} {base : Heap} (M : Tx mg) {f : Addr} {fd : FuncData} (hm : mg "_law_share" = some (.ref f)) (F : FunD K "_law_share" "_law_share" (defArgs (top 15)) (defBody (top 15)) (defScope (top 15)) [] [] f fd) :
    HasF P w K mg base "_law_share" 1 ps__law_share sp__law_share :=
  hasF_of hm F sc__law_share (fun _ _ _ _ _ _ us hl => match us, hl with | [_, _], _ => rfl) (by
    rintro ds G Q E ⟨_, _, rfl, _⟩
    rfl) (fun cdv A outer s H E => bd__law_share M _ cdv A outer s H E) ok__law_share
theorem hf__law_is_lowest {P : Program} {w : World} {K : PySem.W.Frag} {mg : Str → Option Value} {base : Heap} (M : Tx mg) (h__law_share : HasF P w K mg base "_law_share" 1 ps__law_share sp__law_share) {f : Addr} {fd : FuncData} (hm : mg "_law_is_lowest" = some (.ref f)) (F : FunD K "_law_is_lowest" "_law_is_lowest" (defArgs (top 16)) (defBody (top 16)) (defScope (top 16)) [] [] f fd) :
    HasF P w K mg base "_law_is_lowest" 2 ps__law_is_lowest sp__law_is_lowest :=
  hasF_of hm F sc__law_is_lowest (fun _ _ _ _ _ _ us hl => match us, hl with | [_], _ => rfl) (by
    rintro ds G Q E ⟨_, _, rfl, _⟩
    rfl) (fun cdv A outer s H E => bd__law_is_lowest M h__law_share _ cdv A outer s H E) ok__law_is_lowest
theorem hf__law_is {P : Program} {w : World} {K : PySem.W.Frag} {mg : Str → Option Value} {base : Heap} (M : Tx mg) (h__law_is_lowest : HasF P w K mg base "_law_is_lowest" 2 ps__law_is_lowest sp__law_is_lowest) {f : Addr} {fd : FuncData} (hm : mg "_law_is" = some (.ref f)) (F : FunD K "_law_is" "_law_is" (defArgs (top 17)) (defBody (top 17)) (defScope (top 17)) [] [] f fd) :
    HasF P w K mg base "_law_is" 3 ps__law_is sp__law_is :=
  hasF_of hm F sc__law_is (fun _ _ _ _ _ _ us hl => match us, hl with | [_, _, _], _ => rfl) (by
    rintro ds G Q E ⟨_, _, _, _, rfl, _⟩
    rfl) (fun cdv A outer s H E => bd__law_is M h__law_is_lowest _ cdv A outer s H E) ok__law_is
theorem hf__law_odd {P : Program} {w : World} {K : PySem.W.Frag} {mg : Str → Option Value} {base : Heap} (M : Tx mg) (h_fraction : HasF P w K mg base "fraction" 2 ps_fraction sp_fraction) (h__law_lower : HasF P w K mg base "_law_lower" 3 ps__law_lower sp__law_lower) (h__law_whole : HasF P w K mg base "_law_whole" 2 ps__law_whole sp__law_whole) (h__law_among : HasF P w K mg base "_law_among" 2 ps__law_among sp__law_among) {f : Addr} {fd : FuncData} (hm : mg "_law_odd" = some (.ref f)) (F : FunD K "_law_odd" "_law_odd" (defArgs (top 18)) (defBody (top 18)) (defScope (top 18)) [] [] f fd) :
    HasF P w K mg base "_law_odd" 4 ps__law_odd sp__law_odd :=
  hasF_of hm F sc__law_odd (fun _ _ _ _ _ _ us hl => match us, hl with | [_], _ => rfl) (by
    rintro ds G Q E ⟨_, rfl, _⟩
    rfl) (fun cdv A outer s H E => bd__law_odd M h_fraction h__law_lower h__law_whole h__law_among _ cdv A outer s H E) ok__law_odd
theorem all_mk {P : Program} {w : World} {K : PySem.W.Frag} {h : Heap} {mg : Str → Option Value} {fa : Addr} (X : K.In h) (G : h.Ns mainGlobals mg) (hfa : mg "law" = some (.ref fa))
    {f0 f1 f2 f3 f4 f5 f6 f7 f8 f9 f10 f11 f12 f13 f14 f15 f16 f17 : Addr} {od0 an0 od1 an1 od2 an2 od3 an3 od4 an4 od5 an5 od6 an6 od7 an7 od8 an8 od9 an9 od10 an10 od11 an11 od12 an12 od13 an13 od14 an14 od15 an15 od16 an16 od17 an17 : Option Addr} {sl0 sl1 sl2 sl3 sl4 sl5 sl6 sl7 sl8 sl9 sl10 sl11 sl12 sl13 sl14 sl15 sl16 sl17 : Array (Option Value)} {oc0 kV0 dc0 pm0 cd0 ct0 oc1 kV1 dc1 pm1 cd1 ct1 oc2 kV2 dc2 pm2 cd2 ct2 oc3 kV3 dc3 pm3 cd3 ct3 oc4 kV4 dc4 pm4 cd4 ct4 oc5 kV5 dc5 pm5 cd5 ct5 oc6 kV6 dc6 pm6 cd6 ct6 oc7 kV7 dc7 pm7 cd7 ct7 oc8 kV8 dc8 pm8 cd8 ct8 oc9 kV9 dc9 pm9 cd9 ct9 oc10 kV10 dc10 pm10 cd10 ct10 oc11 kV11 dc11 pm11 cd11 ct11 oc12 kV12 dc12 pm12 cd12 ct12 oc13 kV13 dc13 pm13 cd13 ct13 oc14 kV14 dc14 pm14 cd14 ct14 oc15 kV15 dc15 pm15 cd15 ct15 oc16 kV16 dc16 pm16 cd16 ct16 oc17 kV17 dc17 pm17 cd17 ct17 : Value}
    (a0 : PySem.W.nsIn K mainGlobals "common_part" = some (some (.ref f0))) (l0 : K.lookup f0 = some ⟨oc0, od0, .func (PySem.W.fnOf "common_part" "common_part" (defArgs (top 1)) (defBody (top 1)) (defScope (top 1)) .none kV0 dc0 pm0 an0 cd0 ct0), sl0⟩) (c0 : PySem.W.codeIn K cd0 "common_part" = true) (k0 : PySem.W.keepIn K (.ref f0) = true)
    (a1 : PySem.W.nsIn K mainGlobals "fraction" = some (some (.ref f1))) (l1 : K.lookup f1 = some ⟨oc1, od1, .func (PySem.W.fnOf "fraction" "fraction" (defArgs (top 2)) (defBody (top 2)) (defScope (top 2)) .none kV1 dc1 pm1 an1 cd1 ct1), sl1⟩) (c1 : PySem.W.codeIn K cd1 "fraction" = true) (k1 : PySem.W.keepIn K (.ref f1) = true)
    (a2 : PySem.W.nsIn K mainGlobals "is_whole" = some (some (.ref f2))) (l2 : K.lookup f2 = some ⟨oc2, od2, .func (PySem.W.fnOf "is_whole" "is_whole" (defArgs (top 3)) (defBody (top 3)) (defScope (top 3)) .none kV2 dc2 pm2 an2 cd2 ct2), sl2⟩) (c2 : PySem.W.codeIn K cd2 "is_whole" = true) (k2 : PySem.W.keepIn K (.ref f2) = true)
    (a3 : PySem.W.nsIn K mainGlobals "is_fraction" = some (some (.ref f3))) (l3 : K.lookup f3 = some ⟨oc3, od3, .func (PySem.W.fnOf "is_fraction" "is_fraction" (defArgs (top 4)) (defBody (top 4)) (defScope (top 4)) .none kV3 dc3 pm3 an3 cd3 ct3), sl3⟩) (c3 : PySem.W.codeIn K cd3 "is_fraction" = true) (k3 : PySem.W.keepIn K (.ref f3) = true)
    (a4 : PySem.W.nsIn K mainGlobals "plus" = some (some (.ref f4))) (l4 : K.lookup f4 = some ⟨oc4, od4, .func (PySem.W.fnOf "plus" "plus" (defArgs (top 5)) (defBody (top 5)) (defScope (top 5)) .none kV4 dc4 pm4 an4 cd4 ct4), sl4⟩) (c4 : PySem.W.codeIn K cd4 "plus" = true) (k4 : PySem.W.keepIn K (.ref f4) = true)
    (a5 : PySem.W.nsIn K mainGlobals "minus" = some (some (.ref f5))) (l5 : K.lookup f5 = some ⟨oc5, od5, .func (PySem.W.fnOf "minus" "minus" (defArgs (top 6)) (defBody (top 6)) (defScope (top 6)) .none kV5 dc5 pm5 an5 cd5 ct5), sl5⟩) (c5 : PySem.W.codeIn K cd5 "minus" = true) (k5 : PySem.W.keepIn K (.ref f5) = true)
    (a6 : PySem.W.nsIn K mainGlobals "times" = some (some (.ref f6))) (l6 : K.lookup f6 = some ⟨oc6, od6, .func (PySem.W.fnOf "times" "times" (defArgs (top 7)) (defBody (top 7)) (defScope (top 7)) .none kV6 dc6 pm6 an6 cd6 ct6), sl6⟩) (c6 : PySem.W.codeIn K cd6 "times" = true) (k6 : PySem.W.keepIn K (.ref f6) = true)
    (a7 : PySem.W.nsIn K mainGlobals "is_less" = some (some (.ref f7))) (l7 : K.lookup f7 = some ⟨oc7, od7, .func (PySem.W.fnOf "is_less" "is_less" (defArgs (top 8)) (defBody (top 8)) (defScope (top 8)) .none kV7 dc7 pm7 an7 cd7 ct7), sl7⟩) (c7 : PySem.W.codeIn K cd7 "is_less" = true) (k7 : PySem.W.keepIn K (.ref f7) = true)
    (a8 : PySem.W.nsIn K mainGlobals "_law_pot" = some (some (.ref f8))) (l8 : K.lookup f8 = some ⟨oc8, od8, .func (PySem.W.fnOf "_law_pot" "_law_pot" (defArgs (top 10)) (defBody (top 10)) (defScope (top 10)) .none kV8 dc8 pm8 an8 cd8 ct8), sl8⟩) (c8 : PySem.W.codeIn K cd8 "_law_pot" = true) (k8 : PySem.W.keepIn K (.ref f8) = true)
    (a9 : PySem.W.nsIn K mainGlobals "_law_take" = some (some (.ref f9))) (l9 : K.lookup f9 = some ⟨oc9, od9, .func (PySem.W.fnOf "_law_take" "_law_take" (defArgs (top 11)) (defBody (top 11)) (defScope (top 11)) .none kV9 dc9 pm9 an9 cd9 ct9), sl9⟩) (c9 : PySem.W.codeIn K cd9 "_law_take" = true) (k9 : PySem.W.keepIn K (.ref f9) = true)
    (a10 : PySem.W.nsIn K mainGlobals "_law_among" = some (some (.ref f10))) (l10 : K.lookup f10 = some ⟨oc10, od10, .func (PySem.W.fnOf "_law_among" "_law_among" (defArgs (top 12)) (defBody (top 12)) (defScope (top 12)) .none kV10 dc10 pm10 an10 cd10 ct10), sl10⟩) (c10 : PySem.W.codeIn K cd10 "_law_among" = true) (k10 : PySem.W.keepIn K (.ref f10) = true)
    (a11 : PySem.W.nsIn K mainGlobals "_law_whole" = some (some (.ref f11))) (l11 : K.lookup f11 = some ⟨oc11, od11, .func (PySem.W.fnOf "_law_whole" "_law_whole" (defArgs (top 13)) (defBody (top 13)) (defScope (top 13)) .none kV11 dc11 pm11 an11 cd11 ct11), sl11⟩) (c11 : PySem.W.codeIn K cd11 "_law_whole" = true) (k11 : PySem.W.keepIn K (.ref f11) = true)
    (a12 : PySem.W.nsIn K mainGlobals "_law_lower" = some (some (.ref f12))) (l12 : K.lookup f12 = some ⟨oc12, od12, .func (PySem.W.fnOf "_law_lower" "_law_lower" (defArgs (top 14)) (defBody (top 14)) (defScope (top 14)) .none kV12 dc12 pm12 an12 cd12 ct12), sl12⟩) (c12 : PySem.W.codeIn K cd12 "_law_lower" = true) (k12 : PySem.W.keepIn K (.ref f12) = true)
    (a13 : PySem.W.nsIn K mainGlobals "_law_share" = some (some (.ref f13))) (l13 : K.lookup f13 = some ⟨oc13, od13, .func (PySem.W.fnOf "_law_share" "_law_share" (defArgs (top 15)) (defBody (top 15)) (defScope (top 15)) .none kV13 dc13 pm13 an13 cd13 ct13), sl13⟩) (c13 : PySem.W.codeIn K cd13 "_law_share" = true) (k13 : PySem.W.keepIn K (.ref f13) = true)
    (a14 : PySem.W.nsIn K mainGlobals "_law_is_lowest" = some (some (.ref f14))) (l14 : K.lookup f14 = some ⟨oc14, od14, .func (PySem.W.fnOf "_law_is_lowest" "_law_is_lowest" (defArgs (top 16)) (defBody (top 16)) (defScope (top 16)) .none kV14 dc14 pm14 an14 cd14 ct14), sl14⟩) (c14 : PySem.W.codeIn K cd14 "_law_is_lowest" = true) (k14 : PySem.W.keepIn K (.ref f14) = true)
    (a15 : PySem.W.nsIn K mainGlobals "_law_is" = some (some (.ref f15))) (l15 : K.lookup f15 = some ⟨oc15, od15, .func (PySem.W.fnOf "_law_is" "_law_is" (defArgs (top 17)) (defBody (top 17)) (defScope (top 17)) .none kV15 dc15 pm15 an15 cd15 ct15), sl15⟩) (c15 : PySem.W.codeIn K cd15 "_law_is" = true) (k15 : PySem.W.keepIn K (.ref f15) = true)
    (a16 : PySem.W.nsIn K mainGlobals "_law_odd" = some (some (.ref f16))) (l16 : K.lookup f16 = some ⟨oc16, od16, .func (PySem.W.fnOf "_law_odd" "_law_odd" (defArgs (top 18)) (defBody (top 18)) (defScope (top 18)) .none kV16 dc16 pm16 an16 cd16 ct16), sl16⟩) (c16 : PySem.W.codeIn K cd16 "_law_odd" = true) (k16 : PySem.W.keepIn K (.ref f16) = true)
    (a17 : PySem.W.nsIn K mainGlobals "law" = some (some (.ref f17))) (l17 : K.lookup f17 = some ⟨oc17, od17, .func (PySem.W.fnOf "law" "law" (defArgs (top 19)) (defBody (top 19)) (defScope (top 19)) .none kV17 dc17 pm17 an17 cd17 ct17), sl17⟩) (c17 : PySem.W.codeIn K cd17 "law" = true) (k17 : PySem.W.keepIn K (.ref f17) = true)
    (z_abs : PySem.W.nsIn K mainGlobals "abs" = some none) (z_all : PySem.W.nsIn K mainGlobals "all" = some none) (z_bool : PySem.W.nsIn K mainGlobals "bool" = some none) (z_divmod : PySem.W.nsIn K mainGlobals "divmod" = some none) (z_int : PySem.W.nsIn K mainGlobals "int" = some none) (z_isinstance : PySem.W.nsIn K mainGlobals "isinstance" = some none) (z_len : PySem.W.nsIn K mainGlobals "len" = some none) (z_list : PySem.W.nsIn K mainGlobals "list" = some none) (z_max : PySem.W.nsIn K mainGlobals "max" = some none) (z_min : PySem.W.nsIn K mainGlobals "min" = some none) (z_range : PySem.W.nsIn K mainGlobals "range" = some none) (z_repr : PySem.W.nsIn K mainGlobals "repr" = some none) (z_tuple : PySem.W.nsIn K mainGlobals "tuple" = some none) :
    ∃ fd : FuncData, (∀ (s : Shared) (u : Value), BindsTo s fd ⟨[u], []⟩ [("_law_script", u)]) ∧ ∀ base : Heap, K.In base → base.Ns mainGlobals mg → FnG P w K mg base 5 fa fd ["_law_script"] (upSp K mg (lawSp 63)) := by
  have e := hfa.symm.trans (PySem.W.mg_of X G a17)
  cases e
  have M : Tx mg := ⟨PySem.W.mg_none_of X G z_abs, PySem.W.mg_none_of X G z_all, PySem.W.mg_none_of X G z_bool, PySem.W.mg_none_of X G z_divmod, PySem.W.mg_none_of X G z_int, PySem.W.mg_none_of X G z_isinstance, PySem.W.mg_none_of X G z_len, PySem.W.mg_none_of X G z_list, PySem.W.mg_none_of X G z_max, PySem.W.mg_none_of X G z_min, PySem.W.mg_none_of X G z_range, PySem.W.mg_none_of X G z_repr, PySem.W.mg_none_of X G z_tuple⟩
  have F0 := funD_mk l0 c0 k0
  have F1 := funD_mk l1 c1 k1
  have F2 := funD_mk l2 c2 k2
  have F3 := funD_mk l3 c3 k3
  have F4 := funD_mk l4 c4 k4
  have F5 := funD_mk l5 c5 k5
  have F6 := funD_mk l6 c6 k6
  have F7 := funD_mk l7 c7 k7
  have F8 := funD_mk l8 c8 k8
  have F9 := funD_mk l9 c9 k9
  have F10 := funD_mk l10 c10 k10
  have F11 := funD_mk l11 c11 k11
  have F12 := funD_mk l12 c12 k12
  have F13 := funD_mk l13 c13 k13
  have F14 := funD_mk l14 c14 k14
  have F15 := funD_mk l15 c15 k15
  have F16 := funD_mk l16 c16 k16
  have F17 := funD_mk l17 c17 k17
  refine ⟨_, fun s v => F17.bindsA (ps := ["_law_script"]) (fun _ _ _ _ _ _ us hl => match us, hl with | [_], _ => rfl) s [v] rfl, fun base _ _ => ?_⟩
  have h_common_part : HasF P w K mg base "common_part" 1 ps_common_part sp_common_part := hf_common_part M (PySem.W.mg_of X G a0) F0
  have h_fraction : HasF P w K mg base "fraction" 2 ps_fraction sp_fraction := hf_fraction M h_common_part (PySem.W.mg_of X G a1) F1
  have h_is_whole : HasF P w K mg base "is_whole" 1 ps_is_whole sp_is_whole := hf_is_whole M (PySem.W.mg_of X G a2) F2
  have h_is_fraction : HasF P w K mg base "is_fraction" 2 ps_is_fraction sp_is_fraction := hf_is_fraction M h_is_whole h_common_part (PySem.W.mg_of X G a3) F3
  have h_plus : HasF P w K mg base "plus" 3 ps_plus sp_plus := hf_plus M h_fraction (PySem.W.mg_of X G a4) F4
  have h_minus : HasF P w K mg base "minus" 3 ps_minus sp_minus := hf_minus M h_fraction (PySem.W.mg_of X G a5) F5
  have h_times : HasF P w K mg base "times" 3 ps_times sp_times := hf_times M h_fraction (PySem.W.mg_of X G a6) F6
  have h_is_less : HasF P w K mg base "is_less" 1 ps_is_less sp_is_less := hf_is_less M (PySem.W.mg_of X G a7) F7
  have h__law_pot : HasF P w K mg base "_law_pot" 1 ps__law_pot sp__law_pot := hf__law_pot M (PySem.W.mg_of X G a8) F8
  have h__law_take : HasF P w K mg base "_law_take" 1 ps__law_take sp__law_take := hf__law_take M (PySem.W.mg_of X G a9) F9
  have h__law_among : HasF P w K mg base "_law_among" 2 ps__law_among sp__law_among := hf__law_among M h__law_take (PySem.W.mg_of X G a10) F10
  have h__law_whole : HasF P w K mg base "_law_whole" 2 ps__law_whole sp__law_whole := hf__law_whole M h__law_take (PySem.W.mg_of X G a11) F11
  have h__law_lower : HasF P w K mg base "_law_lower" 3 ps__law_lower sp__law_lower := hf__law_lower M h__law_whole h__law_take (PySem.W.mg_of X G a12) F12
  have h__law_share : HasF P w K mg base "_law_share" 1 ps__law_share sp__law_share := hf__law_share M (PySem.W.mg_of X G a13) F13
  have h__law_is_lowest : HasF P w K mg base "_law_is_lowest" 2 ps__law_is_lowest sp__law_is_lowest := hf__law_is_lowest M h__law_share (PySem.W.mg_of X G a14) F14
  have h__law_is : HasF P w K mg base "_law_is" 3 ps__law_is sp__law_is := hf__law_is M h__law_is_lowest (PySem.W.mg_of X G a15) F15
  have h__law_odd : HasF P w K mg base "_law_odd" 4 ps__law_odd sp__law_odd := hf__law_odd M h_fraction h__law_lower h__law_whole h__law_among (PySem.W.mg_of X G a16) F16
  exact fnG_FunD F17 sc_law (by
    rintro ds G Q E ⟨_, rfl, _⟩
    rfl) (fun cdv A outer s H E => bd_law M h__law_pot h__law_lower h__law_whole h_fraction h__law_is h_is_fraction h_plus h_times h_minus h_is_less h__law_odd h__law_is_lowest _ cdv A outer s H E) ok_law
end K71
open PySem PySem.W PyProof.Rows
set_option maxRecDepth 100000 in
set_option maxHeartbeats 0 in
theorem PySem.Challenge.cw_crywalks_k71_fractions_holds : PySem.Challenge.rw_crywalks_k71_fractions.Holds := by
  w_on; o_law; k_head; (case hw => w_witness2)
  k_fill
  refine DL.walk_ofG (l := PySem.Challenge.rw_crywalks_k71_fractions) (n := 63) (k := 5) (x := "_law_script") rfl (by decide) rfl ⟨rfl, by decide, by decide⟩ (fun w h Y => PySem.W.kIn_of Y) ?F
  case F =>
    intro w mg fa h KX G hmg
    refine' K71.all_mk KX G hmg ?a0 ?l0 ?c0 ?k0 ?a1 ?l1 ?c1 ?k1 ?a2 ?l2 ?c2 ?k2 ?a3 ?l3 ?c3 ?k3 ?a4 ?l4 ?c4 ?k4 ?a5 ?l5 ?c5 ?k5 ?a6 ?l6 ?c6 ?k6 ?a7 ?l7 ?c7 ?k7 ?a8 ?l8 ?c8 ?k8 ?a9 ?l9 ?c9 ?k9 ?a10 ?l10 ?c10 ?k10 ?a11 ?l11 ?c11 ?k11 ?a12 ?l12 ?c12 ?k12 ?a13 ?l13 ?c13 ?k13 ?a14 ?l14 ?c14 ?k14 ?a15 ?l15 ?c15 ?k15 ?a16 ?l16 ?c16 ?k16 ?a17 ?l17 ?c17 ?k17 ?z_abs ?z_all ?z_bool ?z_divmod ?z_int ?z_isinstance ?z_len ?z_list ?z_max ?z_min ?z_range ?z_repr ?z_tuple
    (case a0 => k_is); (case l0 => k_is); (case c0 => k_is); (case k0 => k_is); (case a1 => k_is); (case l1 => k_is)
    (case c1 => k_is); (case k1 => k_is); (case a2 => k_is); (case l2 => k_is); (case c2 => k_is); (case k2 => k_is)
    (case a3 => k_is); (case l3 => k_is); (case c3 => k_is); (case k3 => k_is); (case a4 => k_is); (case l4 => k_is)
    (case c4 => k_is); (case k4 => k_is); (case a5 => k_is); (case l5 => k_is); (case c5 => k_is); (case k5 => k_is)
    (case a6 => k_is); (case l6 => k_is); (case c6 => k_is); (case k6 => k_is); (case a7 => k_is); (case l7 => k_is)
    (case c7 => k_is); (case k7 => k_is); (case a8 => k_is); (case l8 => k_is); (case c8 => k_is); (case k8 => k_is)
    (case a9 => k_is); (case l9 => k_is); (case c9 => k_is); (case k9 => k_is); (case a10 => k_is); (case l10 => k_is)
    (case c10 => k_is); (case k10 => k_is); (case a11 => k_is); (case l11 => k_is); (case c11 => k_is); (case k11 => k_is)
    (case a12 => k_is); (case l12 => k_is); (case c12 => k_is); (case k12 => k_is); (case a13 => k_is); (case l13 => k_is)
    (case c13 => k_is); (case k13 => k_is); (case a14 => k_is); (case l14 => k_is); (case c14 => k_is); (case k14 => k_is)
    (case a15 => k_is); (case l15 => k_is); (case c15 => k_is); (case k15 => k_is); (case a16 => k_is); (case l16 => k_is)
    (case c16 => k_is); (case k16 => k_is); (case a17 => k_is); (case l17 => k_is); (case c17 => k_is); (case k17 => k_is)
    (case z_abs => k_is); (case z_all => k_is); (case z_bool => k_is); (case z_divmod => k_is); (case z_int => k_is); (case z_isinstance => k_is)
    (case z_len => k_is); (case z_list => k_is); (case z_max => k_is); (case z_min => k_is); (case z_range => k_is); (case z_repr => k_is)
    (case z_tuple => k_is)
