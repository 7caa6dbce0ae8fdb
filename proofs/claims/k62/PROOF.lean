import PyProof.Rows.All
import Wide.All
import OpenK.AllK
import Wide.FinOn
import HandS.ForMost
import HandS.Walk
import HandS.Property
import HandS.Defaults
import HandS.HeadHook2
import KE.DataEq
import HandS.TupAny
import HandS.Wide
import HandS.Style
import HandS.FStr
import HandS.Flow
import HandS.HeadEnd
import KE.GoesMore
import KE.GoesZip
import HandS.IsInst
import HandS.MakeKwOnly
import HandS.Head0
import HandS.Head1
import HandS.Head2
import HandS.HeadHook1
import KE.KStateDown
import PySem.Challenge.RW_betweentwoclocks_k62_gaps_of_the_latest
set_option Elab.async false
set_option linter.all false
set_option maxRecDepth 100000
set_option maxHeartbeats 0
section
/-! Fn, part A: plain values, cells, and how they stand in the tracked heap. A functional layer over the hand layer. -/
namespace Fn
open PySem L2

/-! ### values: frozen data; a cell that may change; a list that is only read -/
abbrev D := PyData
inductive A where
  | d (x : D)
  | loc (n : Nat)
  | ro (xs : List D)
inductive Cell where
  | lst (xs : List D)
  | dct (kvs : List (Key × A))
  | ins (c : Str) (fs : List (Str × A))
abbrev Env := List (Option A)
abbrev Cs := List Cell
inductive Out where
  | nx | rt (x : A) | bk | ct
abbrev E := Env → Cs → Option (A × Cs)
abbrev T := Env → Cs → Option (Bool × Cs)
abbrev F := Env → Cs → Option (List D × Cs)
abbrev As := Env → Cs → Option (List A × Cs)
abbrev S := Env → Cs → Option (Out × Env × Cs)
def keyD : Key → D
  | .inl i => .int i
  | .inr s => .str s

/-! ### frozen data in a heap that stays -/
mutual
inductive RD (K : PySem.W.Frag) (Z : Hp) : V → D → Prop
  | non : RD K Z .non .none
  | bl (b : Bool) : RD K Z (.bl b) (.bool b)
  | int (i : Int) : RD K Z (.int i) (.int i)
  | str (x : Str) : RD K Z (.str x) (.str x)
  | lst {a : Addr} {vs : List V} {ds : List D} : Z a = some (.lst vs) → RDs K Z vs ds → RD K Z (.ref a) (.list ds)
  | tup {a : Addr} {vs : List V} {ds : List D} : SqT K Z a vs → RDs K Z vs ds → RD K Z (.ref a) (.tuple ds)
inductive RDs (K : PySem.W.Frag) (Z : Hp) : List V → List D → Prop
  | nil : RDs K Z [] []
  | cons {v : V} {vs : List V} {x : D} {ds : List D} : RD K Z v x → RDs K Z vs ds → RDs K Z (v :: vs) (x :: ds)
end
theorem same_t {K : PySem.W.Frag} {H H' : Hp} {a : Addr} {xs : List V} (e : Same H H') (h : SqT K H a xs) : SqT K H' a xs := by
  rcases h with (h | ⟨o, h⟩) | h
  · exact .inl (.inl (e _ _ h))
  · exact .inl (.inr ⟨o, e _ _ h⟩)
  · exact .inr h
section
variable {K : PySem.W.Frag} {Z Z' : Hp}
mutual
theorem RD.mono (e : Same Z Z') : ∀ (x : D) (v : V), RD K Z v x → RD K Z' v x
  | .none, _, h => by cases h; exact .non
  | .bool b, _, h => by cases h; exact .bl b
  | .int i, _, h => by cases h; exact .int i
  | .str s, _, h => by cases h; exact .str s
  | .list ds, _, h => by
    cases h with
    | lst h1 h2 => exact .lst (e _ _ h1) (RDs.mono e ds _ h2)
  | .tuple ds, _, h => by
    cases h with
    | tup h1 h2 => exact .tup (same_t e h1) (RDs.mono e ds _ h2)
  | .dict es, _, h => nomatch h
theorem RDs.mono (e : Same Z Z') : ∀ (ds : List D) (vs : List V), RDs K Z vs ds → RDs K Z' vs ds
  | [], _, h => by cases h; exact .nil
  | x :: ds, _, h => by
    cases h with
    | cons h1 h2 => exact .cons (RD.mono e x _ h1) (RDs.mono e ds _ h2)
end
mutual
theorem RD.dp {H : Hp} (e : Same Z H) : ∀ (x : D) (v : V), RD K Z v x → Dp K H v x ∧ x.plain = true
  | .none, _, h => by cases h; exact ⟨.non, rfl⟩
  | .bool b, _, h => by cases h; exact ⟨.bl b, rfl⟩
  | .int i, _, h => by cases h; exact ⟨.int i, rfl⟩
  | .str s, _, h => by cases h; exact ⟨.str s, rfl⟩
  | .list ds, _, h => by
    cases h with
    | lst h1 h2 => exact ⟨.lst (.of (e _ _ h1)) (RDs.dp e ds _ h2).1, (RDs.dp e ds _ h2).2⟩
  | .tuple ds, _, h => by
    cases h with
    | tup h1 h2 => exact ⟨.tup (same_t e h1) (RDs.dp e ds _ h2).1, (RDs.dp e ds _ h2).2⟩
  | .dict es, _, h => nomatch h
theorem RDs.dp {H : Hp} (e : Same Z H) : ∀ (ds : List D) (vs : List V), RDs K Z vs ds → DpAll K H vs ds ∧ PyData.plainAll ds = true
  | [], _, h => by cases h; exact ⟨.nil, rfl⟩
  | x :: ds, _, h => by
    cases h with
    | cons h1 h2 => exact ⟨.cons (RD.dp e x _ h1).1 (RDs.dp e ds _ h2).1, by simp only [PyData.plainAll, (RD.dp e x _ h1).2, (RDs.dp e ds _ h2).2, Bool.and_self]⟩
end
theorem RDs.length : ∀ {vs : List V} {ds : List D}, RDs K Z vs ds → vs.length = ds.length
  | _, _, .nil => rfl
  | _, _, .cons _ t => congrArg Nat.succ (RDs.length t)
theorem RDs.append : ∀ {vs ws : List V} {ds es : List D}, RDs K Z vs ds → RDs K Z ws es → RDs K Z (vs ++ ws) (ds ++ es)
  | _, _, _, _, .nil, h => h
  | _, _, _, _, .cons r t, h => .cons r (RDs.append t h)
theorem RDs.one {v : V} {x : D} (h : RD K Z v x) : RDs K Z [v] [x] := .cons h .nil
theorem RDs.get : ∀ {vs : List V} {ds : List D} {i : Nat} {x : D}, RDs K Z vs ds → ds[i]? = some x → ∃ v, vs[i]? = some v ∧ RD K Z v x
  | _, _, i, x, .nil, e => by simp at e
  | _, _, 0, x, .cons (v := v) r t, e => by
    simp at e; subst e; exact ⟨v, rfl, r⟩
  | _, _, i + 1, x, .cons r t, e => by
    obtain ⟨v, h1, h2⟩ := RDs.get (i := i) t (by simpa using e)
    exact ⟨v, by simpa using h1, h2⟩
theorem RDs.getV : ∀ {vs : List V} {ds : List D} {i : Nat} {v : V}, RDs K Z vs ds → vs[i]? = some v → ∃ x, ds[i]? = some x ∧ RD K Z v x
  | _, _, i, x, .nil, e => by simp at e
  | _, _, 0, v, .cons (x := x) r t, e => by
    simp at e; subst e; exact ⟨x, rfl, r⟩
  | _, _, i + 1, x, .cons r t, e => by
    obtain ⟨v, h1, h2⟩ := RDs.getV (i := i) t (by simpa using e)
    exact ⟨v, by simpa using h1, h2⟩
theorem RDs.take : ∀ {vs : List V} {ds : List D} (n : Nat), RDs K Z vs ds → RDs K Z (vs.take n) (ds.take n)
  | _, _, 0, _ => .nil
  | _, _, _ + 1, .nil => .nil
  | _, _, n + 1, .cons r t => .cons r (RDs.take n t)
theorem RDs.drop : ∀ {vs : List V} {ds : List D} (n : Nat), RDs K Z vs ds → RDs K Z (vs.drop n) (ds.drop n)
  | _, _, 0, r => r
  | _, _, _ + 1, .nil => .nil
  | _, _, n + 1, .cons _ t => RDs.drop n t
theorem RDs.set : ∀ {vs : List V} {ds : List D} {v : V} {x : D} (i : Nat), RDs K Z vs ds → RD K Z v x → RDs K Z (vs.set i v) (ds.set i x)
  | _, _, _, _, _, .nil, _ => .nil
  | _, _, _, _, 0, .cons _ t, h => .cons h t
  | _, _, _, _, i + 1, .cons r t, h => .cons r (RDs.set i t h)
theorem RDs.rep : ∀ {vs : List V} {ds : List D} (k : Nat), RDs K Z vs ds → RDs K Z (List.replicate k vs).flatten (List.replicate k ds).flatten
  | _, _, 0, _ => .nil
  | _, _, k + 1, h => by
    rw [List.replicate_succ, List.replicate_succ, List.flatten_cons, List.flatten_cons]
    exact h.append (RDs.rep k h)
theorem RDs.reverse : ∀ {vs : List V} {ds : List D}, RDs K Z vs ds → RDs K Z vs.reverse ds.reverse
  | _, _, .nil => .nil
  | _, _, .cons r t => by
    rw [List.reverse_cons, List.reverse_cons]
    exact (RDs.reverse t).append (.one r)
theorem RDs.ints : ∀ (ns : List Int), RDs K Z (ns.map V.int) (ns.map PyData.int)
  | [] => .nil
  | n :: ns => .cons (.int n) (RDs.ints ns)
end
end Fn
end
section
/-! Fn, part B: states, extensions, the functional readings and the joining of two. -/
namespace Fn
open PySem L2

section
variable (K : PySem.W.Frag)
/-- a value of the plain side stands for a value of the heap's side. r: the cells' addresses, Z: the frozen part -/
def RA (r : List Addr) (Z : Hp) (v : V) : A → Prop
  | .d x => RD K Z v x
  | .loc n => ∃ a, r[n]? = some a ∧ v = .ref a
  | .ro xs => ∃ a vs, v = .ref a ∧ SqL K Z a vs ∧ RDs K Z vs xs
inductive RAs (r : List Addr) (Z : Hp) : List V → List A → Prop
  | nil : RAs r Z [] []
  | cons {v : V} {vs : List V} {x : A} {xs : List A} : RA K r Z v x → RAs r Z vs xs → RAs r Z (v :: vs) (x :: xs)
inductive RP {κ : Type} (r : List Addr) (Z : Hp) : List (κ × V) → List (κ × A) → Prop
  | nil : RP r Z [] []
  | cons {k : κ} {v : V} {vs : List (κ × V)} {x : A} {xs : List (κ × A)} : RA K r Z v x → RP r Z vs xs → RP r Z ((k, v) :: vs) ((k, x) :: xs)
def RC (r : List Addr) (Z H : Hp) (a : Addr) : Cell → Prop
  | .lst ds => ∃ vs, H a = some (.lst vs) ∧ RDs K Z vs ds
  | .dct kvs => ∃ vs, H a = some (.dK vs) ∧ RP K r Z vs kvs
  | .ins c fs => ∃ dx vs, H a = some (.ins (He.ga K c) dx vs) ∧ RP K r Z vs fs
structure RS (r : List Addr) (Z H : Hp) (cs : Cs) : Prop where
  fz : Same Z H
  len : r.length = cs.length
  nd : r.Nodup
  off : ∀ a ∈ r, Z a = none
  cell : ∀ (i : Nat) (a : Addr) (c : Cell), r[i]? = some a → cs[i]? = some c → RC K r Z H a c
def RE (r : List Addr) (Z : Hp) (env : Env) (σ : St) : Prop :=
  env.length = σ.length ∧ ∀ (i : Nat) (x : A), env[i]? = some (some x) → ∃ v, σ[i]? = some (some v) ∧ RA K r Z v x
end
structure Ext (r : List Addr) (Z H : Hp) (r' : List Addr) (Z' H' : Hp) : Prop where
  pre : r <+: r'
  fz : Same Z Z'
  keep : ∀ b o, H b = some o → b ∉ r → H' b = some o
  new : ∀ b ∈ r', b ∈ r ∨ H b = none
  fnew : ∀ b o, Z' b = some o → Z b = some o ∨ H b = none
  dom : ∀ b, H' b = none → H b = none
section
variable {K : PySem.W.Frag} {r r' r1 r2 : List Addr} {Z Z' Z1 Z2 H H' H1 H2 : Hp}
theorem Ext.refl : Ext r Z H r Z H := ⟨List.prefix_rfl, Same.refl _, fun _ _ h _ => h, fun _ h => .inl h, fun _ _ h => .inl h, fun _ h => h⟩
theorem Ext.trans (a : Ext r Z H r1 Z1 H1) (b : Ext r1 Z1 H1 r2 Z2 H2) : Ext r Z H r2 Z2 H2 where
  pre := a.pre.trans b.pre
  fz := a.fz.trans b.fz
  keep := fun c o h n => b.keep c o (a.keep c o h n) fun hc => by
    rcases a.new c hc with q | q
    · exact n q
    · rw [h] at q; cases q
  new := fun c hc => by
    rcases b.new c hc with q | q
    · exact a.new c q
    · exact .inr (a.dom c q)
  fnew := fun c o h => by
    rcases b.fnew c o h with q | q
    · exact a.fnew c o q
    · exact .inr (a.dom c q)
  dom := fun c h => a.dom c (b.dom c h)
theorem pre_get {α : Type} {l l' : List α} (h : l <+: l') {n : Nat} {a : α} (e : l[n]? = some a) : l'[n]? = some a := by
  obtain ⟨t, rfl⟩ := h
  obtain ⟨h1, h2⟩ := List.getElem?_eq_some_iff.mp e
  rw [List.getElem?_append_left h1]
  exact e
theorem same_l {a : Addr} {xs : List V} (e : Same Z Z') (h : SqL K Z a xs) : SqL K Z' a xs := e.seq h
theorem RA.mono (hp : r <+: r') (e : Same Z Z') : ∀ {x : A} {v : V}, RA K r Z v x → RA K r' Z' v x
  | .d x, v, h => RD.mono e x v h
  | .loc n, v, ⟨a, h, q⟩ => ⟨a, pre_get hp h, q⟩
  | .ro xs, v, ⟨a, vs, q, h1, h2⟩ => ⟨a, vs, q, same_l e h1, RDs.mono e xs vs h2⟩
theorem RAs.mono (hp : r <+: r') (e : Same Z Z') : ∀ {xs : List A} {vs : List V}, RAs K r Z vs xs → RAs K r' Z' vs xs
  | _, _, .nil => .nil
  | _, _, .cons h t => .cons (h.mono hp e) (RAs.mono hp e t)
theorem RP.mono {κ : Type} (hp : r <+: r') (e : Same Z Z') : ∀ {xs : List (κ × A)} {vs : List (κ × V)}, RP K r Z vs xs → RP K r' Z' vs xs
  | _, _, .nil => .nil
  | _, _, .cons h t => .cons (h.mono hp e) (RP.mono hp e t)
theorem RC.mono (hp : r <+: r') (e : Same Z Z') {a : Addr} (hH : ∀ o, H a = some o → H' a = some o) : ∀ {c : Cell}, RC K r Z H a c → RC K r' Z' H' a c
  | .lst ds, ⟨vs, h1, h2⟩ => ⟨vs, hH _ h1, RDs.mono e ds vs h2⟩
  | .dct kvs, ⟨vs, h1, h2⟩ => ⟨vs, hH _ h1, h2.mono hp e⟩
  | .ins c fs, ⟨dx, vs, h1, h2⟩ => ⟨dx, vs, hH _ h1, h2.mono hp e⟩
theorem RE.mono {env : Env} {σ : St} (hp : r <+: r') (e : Same Z Z') (h : RE K r Z env σ) : RE K r' Z' env σ :=
  ⟨h.1, fun i x hx => let ⟨v, h1, h2⟩ := h.2 i x hx; ⟨v, h1, h2.mono hp e⟩⟩
theorem RAs.length : ∀ {vs : List V} {xs : List A}, RAs K r Z vs xs → vs.length = xs.length
  | _, _, .nil => rfl
  | _, _, .cons _ t => congrArg Nat.succ (RAs.length t)
theorem RC.there {a : Addr} : ∀ {c : Cell}, RC K r Z H a c → ∃ o, H a = some o
  | .lst ds, ⟨vs, h1, h2⟩ => ⟨_, h1⟩
  | .dct kvs, ⟨vs, h1, h2⟩ => ⟨_, h1⟩
  | .ins c fs, ⟨dx, vs, h1, h2⟩ => ⟨_, h1⟩
theorem RS.there {cs : Cs} (h : RS K r Z H cs) {a : Addr} (ha : a ∈ r) : ∃ o, H a = some o := by
  obtain ⟨i, hi⟩ := List.getElem?_of_mem ha
  have hl : i < cs.length := by
    have := (List.getElem?_eq_some_iff.mp hi).1
    rw [h.len] at this; exact this
  exact (h.cell i a cs[i] hi (List.getElem?_eq_getElem hl)).there
/-- a new object, frozen at once -/
theorem RS.freeze {cs : Cs} {p : Addr} {o : HO} (h : RS K r Z H cs) (hp : H p = none) : RS K r (upd Z p o) (upd H p o) cs ∧ Ext r Z H r (upd Z p o) (upd H p o) := by
  have zp : Z p = none := h.fz.free hp
  have e : Same Z (upd Z p o) := fun b u q => by rw [upd_ne (ne_of_none q zp)]; exact q
  refine ⟨⟨fun b u q => ?_, h.len, h.nd, fun a ha => ?_, fun i a c h1 h2 => ?_⟩, ⟨List.prefix_rfl, e, fun b u q _ => ?_, fun _ q => .inl q, fun b u q => ?_, fun b q => ?_⟩⟩
  · by_cases hb : b = p
    · subst hb; rw [upd_same] at q; rw [upd_same]; exact q
    · rw [upd_ne hb] at q; rw [upd_ne hb]; exact h.fz _ _ q
  · obtain ⟨u, hu⟩ := h.there ha
    rw [upd_ne (ne_of_none hu hp)]; exact h.off a ha
  · exact (h.cell i a c h1 h2).mono List.prefix_rfl e fun u q => by rw [upd_ne (ne_of_none q hp)]; exact q
  · rw [upd_ne (ne_of_none q hp)]; exact q
  · by_cases hb : b = p
    · subst hb; exact .inr hp
    · rw [upd_ne hb] at q; exact .inl q
  · by_cases hb : b = p
    · subst hb; exact hp
    · rw [upd_ne hb] at q; exact q
theorem mem_of_ix {α : Type} {l : List α} {i : Nat} {a : α} (h : l[i]? = some a) : a ∈ l := List.mem_of_getElem? h
/-- a new object as a new cell -/
theorem RS.alloc {cs : Cs} {p : Addr} {o : HO} {c : Cell} (h : RS K r Z H cs) (hp : H p = none) (hc : RC K (r ++ [p]) Z (upd H p o) p c) :
    RS K (r ++ [p]) Z (upd H p o) (cs ++ [c]) ∧ Ext r Z H (r ++ [p]) Z (upd H p o) := by
  have zp : Z p = none := h.fz.free hp
  have np : p ∉ r := fun hm => by obtain ⟨u, hu⟩ := h.there hm; rw [hp] at hu; cases hu
  have pre : r <+: r ++ [p] := List.prefix_append r [p]
  refine ⟨⟨fun b u q => ?_, by simp [h.len], ?_, fun a ha => ?_, fun i a d h1 h2 => ?_⟩, ⟨pre, Same.refl _, fun b u q _ => ?_, fun b q => ?_, fun b u q => .inl q, fun b q => ?_⟩⟩
  · rw [upd_ne (ne_of_none q zp)]; exact h.fz _ _ q
  · rw [List.nodup_append]
    refine ⟨h.nd, by simp, fun a ha b hb e => ?_⟩
    rw [List.mem_singleton] at hb
    subst hb; subst e; exact np ha
  · rcases List.mem_append.mp ha with q | q
    · exact h.off a q
    · rw [List.mem_singleton] at q; subst q; exact zp
  · by_cases hi : i < r.length
    · rw [List.getElem?_append_left hi] at h1
      rw [List.getElem?_append_left (by rw [← h.len]; exact hi)] at h2
      exact (h.cell i a d h1 h2).mono pre (Same.refl _) fun u q => by rw [upd_ne (ne_of_none q hp)]; exact q
    · have hl : (r ++ [p]).length = r.length + 1 := by simp
      have := (List.getElem?_eq_some_iff.mp h1).1
      have ei : i = r.length := by omega
      subst ei
      rw [List.getElem?_append_right (Nat.le_refl _)] at h1
      rw [h.len, List.getElem?_append_right (Nat.le_refl _)] at h2
      simp at h1 h2
      subst h1; subst h2; exact hc
  · rw [upd_ne (ne_of_none q hp)]; exact q
  · rcases List.mem_append.mp q with z | z
    · exact .inl z
    · rw [List.mem_singleton] at z; subst z; exact .inr hp
  · by_cases hb : b = p
    · subst hb; exact hp
    · rw [upd_ne hb] at q; exact q
theorem ix_inj {l : List Addr} (nd : l.Nodup) {i j : Nat} {a : Addr} (h1 : l[i]? = some a) (h2 : l[j]? = some a) : i = j := by
  obtain ⟨p, e1⟩ := List.getElem?_eq_some_iff.mp h1
  obtain ⟨q, e2⟩ := List.getElem?_eq_some_iff.mp h2
  exact (List.getElem_inj nd).mp (e1.trans e2.symm)
/-- a cell is written -/
theorem RS.put {cs : Cs} {n : Nat} {a : Addr} {o : HO} {c : Cell} (h : RS K r Z H cs) (ha : r[n]? = some a) (hc : RC K r Z (upd H a o) a c) :
    RS K r Z (upd H a o) (cs.set n c) ∧ Ext r Z H r Z (upd H a o) := by
  have am : a ∈ r := mem_of_ix ha
  have za : Z a = none := h.off a am
  refine ⟨⟨fun b u q => ?_, by simp [h.len], h.nd, h.off, fun i b d h1 h2 => ?_⟩, ⟨List.prefix_rfl, Same.refl _, fun b u q nb => ?_, fun _ q => .inl q, fun _ _ q => .inl q, fun b q => ?_⟩⟩
  · rw [upd_ne (ne_of_none q za)]; exact h.fz _ _ q
  · by_cases hi : n = i
    · subst hi
      rw [ha] at h1; cases h1
      have hl : n < cs.length := by rw [← h.len]; exact (List.getElem?_eq_some_iff.mp ha).1
      rw [List.getElem?_set_self hl] at h2
      cases h2; exact hc
    · rw [List.getElem?_set_ne hi] at h2
      have nb : b ≠ a := fun q => hi (ix_inj h.nd ha (q ▸ h1))
      exact (h.cell i b d h1 h2).mono List.prefix_rfl (Same.refl _) fun u q => by rw [upd_ne nb]; exact q
  · rw [upd_ne (fun z => nb (by rw [z]; exact am))]; exact q
  · by_cases hb : b = a
    · subst hb; rw [upd_same] at q; cases q
    · rw [upd_ne hb] at q; exact q
end

/-! ### functional readings -/
section
variable (K : PySem.W.Frag)
def tE (f : E) : TE := fun σ H Q => ∃ r Z env cs x cs', RS K r Z H cs ∧ RE K r Z env σ ∧ f env cs = some (x, cs') ∧
  ∀ r' Z' H' v, Ext r Z H r' Z' H' → RS K r' Z' H' cs' → RA K r' Z' v x → Q v H'
def tT (f : T) : TT := fun σ H Q => ∃ r Z env cs b cs', RS K r Z H cs ∧ RE K r Z env σ ∧ f env cs = some (b, cs') ∧
  ∀ r' Z' H', Ext r Z H r' Z' H' → RS K r' Z' H' cs' → Q b H'
def tAs (f : As) : TA := fun σ H Q => ∃ r Z env cs xs cs', RS K r Z H cs ∧ RE K r Z env σ ∧ f env cs = some (xs, cs') ∧
  ∀ r' Z' H' vs, Ext r Z H r' Z' H' → RS K r' Z' H' cs' → RAs K r' Z' vs xs → Q vs H'
/-- a list just made, not yet frozen, no cell yet -/
def tF (f : F) : TE := fun σ H Q => ∃ r Z env cs ds cs', RS K r Z H cs ∧ RE K r Z env σ ∧ f env cs = some (ds, cs') ∧
  ∀ r' Z' H' p vs, Ext r Z H r' Z' H' → RS K r' Z' H' cs' → H' p = none → RDs K Z' vs ds → Q (.ref p) (upd H' p (.lst vs))
/-- what is wanted behind a statement, by its outcome -/
def fin (D : Ends) (r : List Addr) (Z : Hp) (σ : St) (H : Hp) : Out → Prop
  | .nx => D.nx σ H
  | .bk => D.bk σ H
  | .ct => D.ct σ H
  | .rt x => ∀ v, RA K r Z v x → D.rt v H
def tS (f : S) : TS := fun D σ H => ∃ r Z env cs o env' cs', RS K r Z H cs ∧ RE K r Z env σ ∧ f env cs = some (o, env', cs') ∧
  ∀ r' Z' H' σ', Ext r Z H r' Z' H' → RS K r' Z' H' cs' → RE K r' Z' env' σ' → fin K D r' Z' σ' H' o
end
/-! weakening of a reading -/
section
variable {X : Cx}
theorem pe_imp {e : Expr} {t u : TE} (h : PE X e t) (w : ∀ σ H Q, u σ H Q → t σ H Q) : PE X e u := ⟨fun pins s σ H Q I q => h.run pins s σ H Q I (w σ H Q q)⟩
theorem pt_imp {e : Expr} {t u : TT} (h : PT X e t) (w : ∀ σ H Q, u σ H Q → t σ H Q) : PT X e u := ⟨fun pins s σ H Q I q => h.run pins s σ H Q I (w σ H Q q)⟩
theorem pw_imp {e : Expr} {t u : TT} (h : PW X e t) (w : ∀ σ H Q, u σ H Q → t σ H Q) : PW X e u := ⟨fun wh pins s σ H Q I q => h.run wh pins s σ H Q I (w σ H Q q)⟩
theorem pa_imp {es : List Expr} {t u : TA} (h : PA X es t) (w : ∀ σ H Q, u σ H Q → t σ H Q) : PA X es u := ⟨fun pos pins s σ H Q I q => h.run pos pins s σ H Q I (w σ H Q q)⟩
theorem ps_imp {s : Stmt} {t u : TS} (h : PS X s t) (w : ∀ D σ H, u D σ H → t D σ H) : PS X s u := ⟨fun pins s σ H D I q => h.run pins s σ H D I (w D σ H q)⟩
theorem pss_imp {s : List Stmt} {t u : TS} (h : PSs X s t) (w : ∀ D σ H, u D σ H → t D σ H) : PSs X s u := ⟨fun pins s σ H D I q => h.run pins s σ H D I (w D σ H q)⟩
theorem pk_imp {es : List Keyword} {t u : TA} (h : PK X es t) (w : ∀ σ H Q, u σ H Q → t σ H Q) : PK X es u := ⟨fun pos pins s σ H Q I q => h.run pos pins s σ H Q I (w σ H Q q)⟩
end
/-- the judgements of this layer -/
abbrev XE (X : Cx) (e : Expr) (f : E) : Prop := PE X e (tE X.K f)
abbrev XT (X : Cx) (e : Expr) (f : T) : Prop := PT X e (tT X.K f)
abbrev XW (X : Cx) (e : Expr) (f : T) : Prop := PW X e (tT X.K f)
abbrev XA (X : Cx) (es : List Expr) (f : As) : Prop := PA X es (tAs X.K f)
abbrev XF (X : Cx) (e : Expr) (f : F) : Prop := PE X e (tF X.K f)
abbrev XS (X : Cx) (s : Stmt) (f : S) : Prop := PS X s (tS X.K f)
abbrev XSs (X : Cx) (s : List Stmt) (f : S) : Prop := PSs X s (tS X.K f)
end Fn
end
section
/-! Fn, part C: expressions. -/
namespace Fn
open PySem L2

/-! ### reading values -/
def lstAt (cs : Cs) (n : Nat) : Option (List D) := match cs[n]? with
  | some (.lst xs) => some xs
  | _ => none
def trkL : A → Cs → Option (List D)
  | .d (.list xs), _ => some xs
  | .loc n, cs => lstAt cs n
  | _, _ => none
def seqL (x : A) (cs : Cs) : Option (List D) := match x with
  | .ro xs => some xs
  | x => trkL x cs
def seqT : A → Option (List D)
  | .d (.tuple xs) => some xs
  | _ => none
/-- as data -/
def toD (x : A) (cs : Cs) : Option D := match x with
  | .d x => some x
  | .ro xs => some (.list xs)
  | .loc n => (lstAt cs n).bind fun xs => some (.list xs)
section
variable {K : PySem.W.Frag} {r : List Addr} {Z H : Hp} {cs : Cs} {x : A} {v : V} {ds : List D}
theorem lstAt_ok {n : Nat} (h : lstAt cs n = some ds) : cs[n]? = some (.lst ds) := by
  unfold lstAt at h
  split at h
  · rename_i xs hc
    cases h; exact hc
  · cases h
theorem trkL_ok (h : RS K r Z H cs) (hx : RA K r Z v x) (e : trkL x cs = some ds) : ∃ a vs, v = .ref a ∧ H a = some (.lst vs) ∧ RDs K Z vs ds := by
  cases x with
  | d x =>
    cases x with
    | list xs =>
      cases e
      have hx : RD K Z v (.list ds) := hx
      cases hx with
      | lst h1 h2 => exact ⟨_, _, rfl, h.fz _ _ h1, h2⟩
    | _ => cases e
  | loc n =>
    obtain ⟨a, ha, rfl⟩ := hx
    obtain ⟨vs, h1, h2⟩ := h.cell n a _ ha (lstAt_ok e)
    exact ⟨a, vs, rfl, h1, h2⟩
  | ro xs => cases e
theorem seqL_ok (h : RS K r Z H cs) (hx : RA K r Z v x) (e : seqL x cs = some ds) : ∃ a vs, v = .ref a ∧ SqL K H a vs ∧ RDs K Z vs ds := by
  cases x with
  | ro xs =>
    cases e
    obtain ⟨a, vs, q, h1, h2⟩ := hx
    exact ⟨a, vs, q, same_l h.fz h1, h2⟩
  | d x =>
    obtain ⟨a, vs, q, h1, h2⟩ := trkL_ok h hx e
    exact ⟨a, vs, q, .of h1, h2⟩
  | loc n =>
    obtain ⟨a, vs, q, h1, h2⟩ := trkL_ok h hx e
    exact ⟨a, vs, q, .of h1, h2⟩
theorem seqT_ok (h : RS K r Z H cs) (hx : RA K r Z v x) (e : seqT x = some ds) : ∃ a vs, v = .ref a ∧ SqT K H a vs ∧ RDs K Z vs ds := by
  cases x with
  | d x =>
    cases x with
    | tuple xs =>
      cases e
      have hx : RD K Z v (.tuple ds) := hx
      cases hx with
      | tup h1 h2 => exact ⟨_, _, rfl, same_t h.fz h1, h2⟩
    | _ => cases e
  | _ => cases e
theorem seqT_z (hx : RA K r Z v x) (e : seqT x = some ds) : ∃ a vs, v = .ref a ∧ SqT K Z a vs ∧ RDs K Z vs ds := by
  cases x with
  | d x =>
    cases x with
    | tuple xs =>
      cases e
      have hx : RD K Z v (.tuple ds) := hx
      cases hx with
      | tup h1 h2 => exact ⟨_, _, rfl, h1, h2⟩
    | _ => cases e
  | _ => cases e
theorem dps_of {vs : List V} (h : RDs K Z vs ds) (e : Same Z H) : DpAll K H vs ds ∧ PyData.plainAll ds = true := RDs.dp e ds vs h
theorem toD_ok {y : D} (h : RS K r Z H cs) (hx : RA K r Z v x) (e : toD x cs = some y) : Dp K H v y ∧ y.plain = true := by
  cases x with
  | d x => cases e; exact RD.dp h.fz y v hx
  | ro xs =>
    cases e
    obtain ⟨a, vs, rfl, h1, h2⟩ := hx
    exact ⟨.lst (same_l h.fz h1) (dps_of h2 h.fz).1, (dps_of h2 h.fz).2⟩
  | loc n =>
    obtain ⟨a, ha, rfl⟩ := hx
    obtain ⟨xs, hc, e⟩ := Option.bind_eq_some_iff.mp (show ((lstAt cs n).bind fun xs => some (PyData.list xs)) = some y from e)
    cases e
    obtain ⟨vs, h1, h2⟩ := h.cell n a _ ha (lstAt_ok hc)
    exact ⟨.lst (.of h1) (dps_of h2 h.fz).1, (dps_of h2 h.fz).2⟩
end

/-! ### names, constants -/
def eVar (i : Nat) : E := fun env cs => match env[i]? with
  | some (some x) => some (x, cs)
  | _ => none
def eC (x : D) : E := fun _ cs => some (.d x, cs)
section
variable {X : Cx} {e e2 : Expr} {pos : Pos} {f g : E}
theorem bnd {α β : Type} {o : Option α} {k : α → Option β} {z : β} (h : o.bind k = some z) : ∃ a, o = some a ∧ k a = some z := Option.bind_eq_some_iff.mp h
theorem x_var {i : Nat} (h : PE X e (tVar i)) : XE X e (eVar i) := by
  refine pe_imp h fun σ H Q ⟨r, Z, env, cs, x, cs', hs, he, hf, q⟩ => ?_
  unfold eVar at hf
  split at hf
  · rename_i y hy
    cases hf
    obtain ⟨v, h1, h2⟩ := he.2 i x hy
    exact ⟨v, h1, q r Z H v .refl hs h2⟩
  · cases hf
theorem x_c {v : V} {x : D} (h : PE X e (tC v)) (hv : ∀ Z, RD X.K Z v x) : XE X e (eC x) := by
  refine pe_imp h fun σ H Q ⟨r, Z, env, cs, y, cs', hs, he, hf, q⟩ => ?_
  cases hf
  exact q r Z H v .refl hs (hv Z)
theorem x_int {i : Int} {j} : XE X (.Constant (.int i) j pos) (eC (.int i)) := x_c pe_int fun _ => .int i
theorem x_bl {i : Bool} {j} : XE X (.Constant (.bool i) j pos) (eC (.bool i)) := x_c pe_bl fun _ => .bl i
theorem x_str {i : Str} {j} : XE X (.Constant (.str i) j pos) (eC (.str i)) := x_c pe_str fun _ => .str i
theorem x_non {j} : XE X (.Constant .none j pos) (eC .none) := x_c pe_non fun _ => .non

/-! ### two places -/
/-- what a rule of two values asks is answered by a plain function -/
def OpF (K : PySem.W.Frag) (t : R2) (op : A → A → Cs → Option A) : Prop := ∀ {r : List Addr} {Z H : Hp} {cs : Cs} {x y z : A} {u w : V} {Q : VK}, RS K r Z H cs → RA K r Z u x → RA K r Z w y → op x y cs = some z →
  (∀ r' Z' H' v, Ext r Z H r' Z' H' → RS K r' Z' H' cs → RA K r' Z' v z → Q v H') → t u w H Q
def eBin (op : A → A → Cs → Option A) (f g : E) : E := fun env cs => (f env cs).bind fun p => (g env p.2).bind fun q => (op p.1 q.1 q.2).bind fun z => some (z, q.2)
theorem bin_ok {K : PySem.W.Frag} {t : R2} {op : A → A → Cs → Option A} (ho : OpF K t op) {σ : St} {H : Hp} {Q : VK} (h : tE K (eBin op f g) σ H Q) : tOp t (tE K f) (tE K g) σ H Q := by
  obtain ⟨r, Z, env, cs, x, cs', hs, he, hf, q⟩ := h
  obtain ⟨⟨p, cs1⟩, h1, hf⟩ := bnd hf
  obtain ⟨⟨p2, cs2⟩, h2, hf⟩ := bnd hf
  obtain ⟨z, h3, hf⟩ := bnd hf
  cases hf
  refine ⟨r, Z, env, cs, p, cs1, hs, he, h1, fun r1 Z1 H1 v x1 hs1 ha => ?_⟩
  refine ⟨r1, Z1, env, cs1, p2, cs2, hs1, he.mono x1.pre x1.fz, h2, fun r2 Z2 H2 w x2 hs2 hb => ?_⟩
  exact ho hs2 (ha.mono x2.pre x2.fz) hb h3 fun r3 Z3 H3 v3 x3 hs3 hc => q r3 Z3 H3 v3 ((x1.trans x2).trans x3) hs3 hc
theorem x_bin {op : Operator} {t : R2} {o : A → A → Cs → Option A} (ho : OpR X (binaryOp op) t) (hf : OpF X.K t o) (ha : XE X e f) (hb : XE X e2 g) : XE X (.BinOp e op e2 pos) (eBin o f g) :=
  pe_imp (pe_op ho ha hb) fun _ _ _ h => bin_ok hf h
/-- comparisons: a rule of two values whose answer is a truth value, nothing is made -/
def CmF (K : PySem.W.Frag) (t : R2) (c : A → A → Cs → Option Bool) : Prop := ∀ {r : List Addr} {Z H : Hp} {cs : Cs} {x y : A} {u w : V} {Q : VK} {b : Bool}, RS K r Z H cs → RA K r Z u x → RA K r Z w y → c x y cs = some b → Q (.bl b) H → t u w H Q
def eCmp (c : A → A → Cs → Option Bool) (f g : E) : E := fun env cs => (f env cs).bind fun p => (g env p.2).bind fun q => (c p.1 q.1 q.2).bind fun b => some (.d (.bool b), q.2)
def tCmp (c : A → A → Cs → Option Bool) (f g : E) : T := fun env cs => (f env cs).bind fun p => (g env p.2).bind fun q => (c p.1 q.1 q.2).bind fun b => some (b, q.2)
theorem cmp_ok {K : PySem.W.Frag} {t : R2} {c : A → A → Cs → Option Bool} (ho : CmF K t c) {σ : St} {H : Hp} {Q : VK} (h : tE K (eCmp c f g) σ H Q) : tOp t (tE K f) (tE K g) σ H Q := by
  obtain ⟨r, Z, env, cs, x, cs', hs, he, hf, q⟩ := h
  obtain ⟨⟨p, cs1⟩, h1, hf⟩ := bnd hf
  obtain ⟨⟨p2, cs2⟩, h2, hf⟩ := bnd hf
  obtain ⟨b, h3, hf⟩ := bnd hf
  cases hf
  refine ⟨r, Z, env, cs, p, cs1, hs, he, h1, fun r1 Z1 H1 v x1 hs1 ha => ?_⟩
  refine ⟨r1, Z1, env, cs1, p2, cs2, hs1, he.mono x1.pre x1.fz, h2, fun r2 Z2 H2 w x2 hs2 hb => ?_⟩
  exact ho hs2 (ha.mono x2.pre x2.fz) hb h3 (q r2 Z2 H2 (.bl b) (x1.trans x2) hs2 (.bl b))
theorem tcmp_ok {K : PySem.W.Frag} {t : R2} {c : A → A → Cs → Option Bool} (ho : CmF K t c) {σ : St} {H : Hp} {Q : Bool → Hp → Prop} (h : tT K (tCmp c f g) σ H Q) : tTest (tOp t (tE K f) (tE K g)) σ H Q := by
  obtain ⟨r, Z, env, cs, x, cs', hs, he, hf, q⟩ := h
  obtain ⟨⟨p, cs1⟩, h1, hf⟩ := bnd hf
  obtain ⟨⟨p2, cs2⟩, h2, hf⟩ := bnd hf
  obtain ⟨b, h3, hf⟩ := bnd hf
  cases hf
  refine ⟨r, Z, env, cs, p, cs1, hs, he, h1, fun r1 Z1 H1 v x1 hs1 ha => ?_⟩
  refine ⟨r1, Z1, env, cs1, p2, cs2, hs1, he.mono x1.pre x1.fz, h2, fun r2 Z2 H2 w x2 hs2 hb => ?_⟩
  exact ho hs2 (ha.mono x2.pre x2.fz) hb h3 ⟨_, rfl, q r2 Z2 H2 (x1.trans x2) hs2⟩
theorem x_cmp {op : CmpOp} {t : R2} {c : A → A → Cs → Option Bool} (ho : OpR X (compareOp op) t) (hf : CmF X.K t c) (ha : XE X e f) (hb : XE X e2 g) (hm : behindInMarks op e2 = false) : XE X (.Compare e [op] [e2] pos) (eCmp c f g) :=
  pe_imp (pe_cmpR ho ha hb hm) fun _ _ _ h => cmp_ok hf h
theorem xt_cmp {op : CmpOp} {t : R2} {c : A → A → Cs → Option Bool} (ho : OpR X (compareOp op) t) (hf : CmF X.K t c) (ha : XE X e f) (hb : XE X e2 g) (hm : behindInMarks op e2 = false) : XT X (.Compare e [op] [e2] pos) (tCmp c f g) :=
  pt_imp (pt_cmpR ho ha hb hm) fun _ _ _ h => tcmp_ok hf h
end

/-! ### + - * // % ** -/
def oAdd (x y : A) (cs : Cs) : Option A := match x, y with
  | .d (.int i), .d (.int j) => some (.d (.int (i + j)))
  | .d (.str s), .d (.str t) => if s.length + t.length ≤ sizeLine then some (.d (.str (s ++ t))) else none
  | .d (.tuple a), .d (.tuple b) => if a.length + b.length ≤ sizeLine then some (.d (.tuple (a ++ b))) else none
  | x, y => (trkL x cs).bind fun a => (trkL y cs).bind fun b => if a.length + b.length ≤ sizeLine then some (.d (.list (a ++ b))) else none
def rAddAny (K : PySem.W.Frag) : R2 := fun x y H Q => (rI0 (fun i j => .int (i + j)) x y H Q ∨ (∃ i j, x = .str i ∧ y = .str j ∧ i.length + j.length ≤ sizeLine ∧ Q (.str (i ++ j)) H)) ∨ (rCat x y H Q ∨ rCatA K x y H Q)
theorem op_addAny {X : Cx} : OpR X (binaryOp .Add) (rAddAny X.K) := (op_add.or op_add_str).or (op_cat.or op_catA)
section
variable {K : PySem.W.Frag}
theorem frz_l {r : List Addr} {Z H : Hp} {cs : Cs} {p : Addr} {vs : List V} {ds : List D} {Q : VK} (hs : RS K r Z H cs) (hp : H p = none) (h : RDs K Z vs ds)
    (q : ∀ r' Z' H' v, Ext r Z H r' Z' H' → RS K r' Z' H' cs → RA K r' Z' v (.d (.list ds)) → Q v H') : Q (.ref p) (upd H p (.lst vs)) := by
  obtain ⟨h1, h2⟩ := hs.freeze (o := .lst vs) hp
  exact q r _ _ _ h2 h1 (RD.lst upd_same (RDs.mono h2.fz ds vs h))
theorem frz_t {r : List Addr} {Z H : Hp} {cs : Cs} {p : Addr} {vs : List V} {ds : List D} {Q : VK} (hs : RS K r Z H cs) (hp : H p = none) (h : RDs K Z vs ds)
    (q : ∀ r' Z' H' v, Ext r Z H r' Z' H' → RS K r' Z' H' cs → RA K r' Z' v (.d (.tuple ds)) → Q v H') : Q (.ref p) (upd H p (.tup vs)) := by
  obtain ⟨h1, h2⟩ := hs.freeze (o := .tup vs) hp
  exact q r _ _ _ h2 h1 (RD.tup (.inl (.inl upd_same)) (RDs.mono h2.fz ds vs h))
theorem ifs {α : Type} {c : Prop} [Decidable c] {a z : α} (h : (if c then some a else none) = some z) : c ∧ z = a := by
  split at h
  · rename_i hc; cases h; exact ⟨hc, rfl⟩
  · cases h
theorem of_int {r : List Addr} {Z : Hp} {u : V} {i : Int} (h : RA K r Z u (.d (.int i))) : u = .int i := by
  have h : RD K Z u (.int i) := h
  cases h; rfl
theorem of_str {r : List Addr} {Z : Hp} {u : V} {i : Str} (h : RA K r Z u (.d (.str i))) : u = .str i := by
  have h : RD K Z u (.str i) := h
  cases h; rfl
theorem of_bl {r : List Addr} {Z : Hp} {u : V} {i : Bool} (h : RA K r Z u (.d (.bool i))) : u = .bl i := by
  have h : RD K Z u (.bool i) := h
  cases h; rfl
theorem of_non {r : List Addr} {Z : Hp} {u : V} (h : RA K r Z u (.d .none)) : u = .non := by
  have h : RD K Z u .none := h
  cases h; rfl
theorem f_add : OpF K (rAddAny K) oAdd := by
  intro r Z H cs x y z u w Q hs hx hy e q
  unfold oAdd at e
  split at e
  · rename_i i j
    cases e
    exact .inl (.inl ⟨i, j, of_int hx, of_int hy, q r Z H _ .refl hs (RD.int _)⟩)
  · rename_i s t
    obtain ⟨h1, rfl⟩ := ifs e
    exact .inl (.inr ⟨s, t, of_str hx, of_str hy, h1, q r Z H _ .refl hs (RD.str _)⟩)
  · rename_i a b
    obtain ⟨h1, rfl⟩ := ifs e
    obtain ⟨p, vs, rfl, t1, d1⟩ := seqT_z hx rfl
    obtain ⟨p2, ws, rfl, t2, d2⟩ := seqT_z hy rfl
    have l1 := d1.length
    have l2 := d2.length
    refine .inr (.inr ⟨p, p2, vs, ws, rfl, rfl, same_t hs.fz t1, same_t hs.fz t2, by omega, fun e1 => ?_, fun e1 e2 => ?_, fun e1 e2 p3 hp => ?_⟩)
    · subst e1
      have : a = [] := List.eq_nil_of_length_eq_zero (by simp at l1; omega)
      subst this
      exact q r Z H _ .refl hs (RD.tup t2 d2)
    · subst e2
      have : b = [] := List.eq_nil_of_length_eq_zero (by simp at l2; omega)
      subst this
      rw [List.append_nil] at q
      exact q r Z H _ .refl hs (RD.tup t1 d1)
    · exact frz_t hs hp (d1.append d2) q
  · obtain ⟨a, h1, e⟩ := bnd e
    obtain ⟨b, h2, e⟩ := bnd e
    obtain ⟨h3, rfl⟩ := ifs e
    obtain ⟨p, vs, rfl, t1, d1⟩ := trkL_ok hs hx h1
    obtain ⟨p2, ws, rfl, t2, d2⟩ := trkL_ok hs hy h2
    have l1 := d1.length
    have l2 := d2.length
    exact .inr (.inl ⟨p, p2, vs, ws, rfl, rfl, t1, t2, by omega, fun p3 hp => frz_l hs hp (d1.append d2) q⟩)
/-- ints alone -/
def oInt (c : Int → Int → Bool) (g : Int → Int → Int) (x y : A) (_ : Cs) : Option A := match x, y with
  | .d (.int i), .d (.int j) => if c i j = true then some (.d (.int (g i j))) else none
  | _, _ => none
theorem f_int {C : Int → Int → Prop} {c : Int → Int → Bool} {g : Int → Int → Int} (hc : ∀ i j, c i j = true → C i j) : OpF K (rI C fun i j => .int (g i j)) (oInt c g) := by
  intro r Z H cs x y z u w Q hs hx hy e q
  unfold oInt at e
  split at e
  · rename_i i j
    obtain ⟨h1, rfl⟩ := ifs e
    exact ⟨i, j, of_int hx, of_int hy, hc i j h1, q r Z H _ .refl hs (RD.int _)⟩
  · cases e
def oSub (x y : A) (_ : Cs) : Option A := match x, y with
  | .d (.int i), .d (.int j) => some (.d (.int (i - j)))
  | _, _ => none
theorem f_sub : OpF K (rI0 fun i j => .int (i - j)) oSub := by
  intro r Z H cs x y z u w Q hs hx hy e q
  unfold oSub at e
  split at e
  · rename_i i j
    cases e
    exact ⟨i, j, of_int hx, of_int hy, q r Z H _ .refl hs (RD.int _)⟩
  · cases e
abbrev B64 : Int := 18446744073709551616
def cMul (i j : Int) : Bool := (decide (-B64 < i) && decide (i < B64)) || (decide (-B64 < j) && decide (j < B64))
theorem cMul_ok (i j : Int) (h : cMul i j = true) : CMul i j := by
  unfold cMul at h
  simp only [Bool.or_eq_true, Bool.and_eq_true, decide_eq_true_eq] at h
  exact h
abbrev oMod : A → A → Cs → Option A := oInt (fun _ j => decide (j ≠ 0)) Int.fmod
abbrev oDiv : A → A → Cs → Option A := oInt (fun _ j => decide (j ≠ 0) && decide (j.natAbs < 1073741824)) Int.fdiv
abbrev oPow : A → A → Cs → Option A := oInt (fun i j => decide (0 ≤ j) && (decide (j ≤ 1000000) && decide (i.natAbs < 2 ^ 64))) fun i j => i ^ j.toNat
theorem f_mod : OpF K (rI (fun _ j => j ≠ 0) fun i j => .int (i.fmod j)) oMod := f_int fun _ _ h => of_decide_eq_true h
theorem f_div : OpF K (rI CDivN fun i j => .int (i.fdiv j)) oDiv := f_int fun _ _ h => by
  simp only [Bool.and_eq_true, decide_eq_true_eq] at h; exact h
theorem f_pow : OpF K (rI CPow fun i j => .int (i ^ j.toNat)) oPow := f_int fun _ _ h => by
  simp only [Bool.and_eq_true, decide_eq_true_eq] at h; exact h
/-! text * int, list * int, int * int -/
def strRep (s : Str) (n : Nat) : Str := ⟨(List.replicate n s.cps.toList).flatten.toArray⟩
abbrev B63 : Int := 9223372036854775808
def oMul (x y : A) (cs : Cs) : Option A := match x, y with
  | .d (.int i), .d (.int j) => if cMul i j = true then some (.d (.int (i * j))) else none
  | .d (.str s), .d (.int j) => if -B63 ≤ j ∧ j < B63 ∧ s.length * j.toNat ≤ sizeLine then some (.d (.str (strRep s j.toNat))) else none
  | x, .d (.int j) => (trkL x cs).bind fun a => if -B63 ≤ j ∧ j < B63 ∧ a.length * j.toNat ≤ sizeLine then some (.d (.list (List.replicate j.toNat a).flatten)) else none
  | _, _ => none
end
def rMulS : R2 := fun x y H Q => ∃ s j, x = .str s ∧ y = .int j ∧ -(2 ^ 63) ≤ j ∧ j < 2 ^ 63 ∧ s.length * j.toNat ≤ sizeLine ∧ Q (.str (strRep s j.toNat)) H
theorem strRep_foldl (l : List Nat) : ∀ (n : Nat) (acc : Array Nat), (List.replicate n l.toArray).foldl (· ++ ·) acc = (acc.toList ++ (List.replicate n l).flatten).toArray
  | 0, acc => by simp
  | n + 1, acc => by
    rw [List.replicate_succ, List.foldl_cons, strRep_foldl l n, List.replicate_succ, List.flatten_cons]
    simp
theorem strRep_len (s : Str) (n : Nat) : (strRep s n).length = n * s.length := by
  unfold strRep Str.length
  simp [List.length_flatten, List.map_replicate, List.sum_replicate_nat]
theorem op_mulS {X : Cx} : OpR X (binaryOp .Mult) rMulS := by
  intro pins s σ H x y v u Q I rx ry h
  obtain ⟨z, j, rfl, rfl, h1, h2, hz, q⟩ := h
  obtain ⟨t, rfl⟩ := rx
  obtain ⟨t', rfl⟩ := ry
  have hsz := sizeLine_eq
  have hr : (decide (j < -(2 ^ 63 : Int)) || decide (j ≥ 2 ^ 63)) = false := by
    rw [Bool.or_eq_false_iff]
    exact ⟨decide_eq_false (by omega), decide_eq_false (by omega)⟩
  refine PySem.P.mul_str hr (fun h3 h4 => ?_) (fun h3 h4 => ?_) ?_
  · have hj : 0 < j := by omega
    have hk : (z.length : Int) * j ≤ 2 ^ 24 := by
      have hz' : z.length * j.toNat ≤ 16777216 := by rw [← hsz]; exact hz
      have this := Int.ofNat_le.mpr hz'
      rw [Int.natCast_mul, Int.toNat_of_nonneg (by omega)] at this
      exact Int.le_trans this (by decide)
    intro hgt
    have h5 : (z.length : Int) ≤ (2 ^ 63 - 1) / j := by
      rw [Int.le_ediv_iff_mul_le hj]
      have : (2 : Int) ^ 24 ≤ 2 ^ 63 - 1 := by decide
      omega
    omega
  · exact decide_eq_false (by omega)
  · have e0 : strRep z 0 = Str.empty := rfl
    by_cases hn : j < 1
    · rw [if_pos hn]
      have : j.toNat = 0 := by omega
      rw [this, e0] at q
      exact ⟨by decide, .str _, H, I.tok _, ⟨_, rfl⟩, q⟩
    · rw [if_neg hn]
      by_cases h1 : (j == 1 || z.length == 0) = true
      · rw [if_pos h1]
        have e1 : strRep z j.toNat = z := by
          unfold strRep
          simp only [Bool.or_eq_true, beq_iff_eq] at h1
          rcases h1 with e | e
          · subst e
            simp
          · have : z.cps.toList = [] := List.eq_nil_of_length_eq_zero (by simpa [Str.length] using e)
            have h0 : ∀ n, (List.replicate n ([] : List Nat)).flatten = [] := fun n => by induction n with
              | zero => rfl
              | succ n ih => rw [List.replicate_succ, List.flatten_cons, ih]; rfl
            rw [this, h0]
            have : z.cps = #[] := by rw [← Array.toList_inj]; exact this
            cases z
            simp at this
            subst this
            rfl
        rw [e1] at q
        exact ⟨.str z, H, I, ⟨_, rfl⟩, q⟩
      · rw [if_neg h1]
        have e1 : (⟨(List.replicate j.toNat z.cps).foldl (· ++ ·) #[]⟩ : Str) = strRep z j.toNat := by
          have := strRep_foldl z.cps.toList j.toNat #[]
          unfold strRep
          rw [show z.cps.toList.toArray = z.cps by simp] at this
          rw [this]
          simp
        rw [e1]
        refine ⟨?_, .str _, H, I.tok _, ⟨_, rfl⟩, q⟩
        rw [strRep_len, Nat.mul_comm]
        exact hz
end Fn
end
section
/-! Fn, part D: more operators, comparisons, subscripts, slices, tests, displays, calls of built-ins. -/
namespace Fn
open PySem L2

def rMulAny : R2 := fun x y H Q => rI CMul (fun i j => .int (i * j)) x y H Q ∨ rMulS x y H Q ∨ rRep x y H Q
theorem op_mulAny {X : Cx} : OpR X (binaryOp .Mult) rMulAny := op_mul.or (op_mulS.or op_rep)
section
variable {K : PySem.W.Frag}
theorem f_mul : OpF K rMulAny oMul := by
  intro r Z H cs x y z u w Q hs hx hy e q
  unfold oMul at e
  split at e
  · rename_i i j
    obtain ⟨h1, rfl⟩ := ifs e
    exact .inl ⟨i, j, of_int hx, of_int hy, cMul_ok i j h1, q r Z H _ .refl hs (RD.int _)⟩
  · rename_i s j
    obtain ⟨⟨h1, h2, h3⟩, rfl⟩ := ifs e
    exact .inr (.inl ⟨s, j, of_str hx, of_int hy, h1, h2, h3, q r Z H _ .refl hs (RD.str _)⟩)
  · rename_i j _ _
    obtain ⟨a, h1, e⟩ := bnd e
    obtain ⟨⟨h2, h3, h4⟩, rfl⟩ := ifs e
    obtain ⟨p, vs, rfl, t1, d1⟩ := trkL_ok hs hx h1
    exact .inr (.inr ⟨p, j, vs, rfl, of_int hy, t1, h2, h3, by rw [d1.length]; exact h4, fun p3 hp => frz_l hs hp (d1.rep _) q⟩)
  · cases e

/-! ### comparisons -/
def cInt (p : Int → Int → Bool) (x y : A) (_ : Cs) : Option Bool := match x, y with
  | .d (.int i), .d (.int j) => some (p i j)
  | _, _ => none
theorem m_int {p : Int → Int → Bool} : CmF K (rI0 fun i j => .bl (p i j)) (cInt p) := by
  intro r Z H cs x y u w Q b hs hx hy e q
  unfold cInt at e
  split at e
  · rename_i i j
    cases e
    exact ⟨i, j, of_int hx, of_int hy, q⟩
  · cases e
abbrev cLt := cInt fun i j => decide (i < j)
abbrev cLe := cInt fun i j => decide (i ≤ j)
abbrev cGt := cInt fun i j => decide (j < i)
abbrev cGe := cInt fun i j => decide (j ≤ i)
def rEqP (K : PySem.W.Frag) (neg : Bool) : R2 := fun x y H Q => ∃ d e, Dp K H x d ∧ Dp K H y e ∧ d.plain = true ∧ e.plain = true ∧ min d.depth e.depth ≤ 60 ∧ Q (.bl (if neg then !PyData.eqv d e else PyData.eqv d e)) H
end
section
variable {X : Cx}
theorem op_eqP (hu : X.A.units + 64 < cLine) : OpR X (compareOp .Eq) (rEqP X.K false) := by
  intro pins s σ H x y v u Q I rx ry h
  obtain ⟨d, e, hd, he, sd, se, hm, q⟩ := h
  obtain ⟨as, r1⟩ := Dp.reads I d x v hd rx
  obtain ⟨bs, r2⟩ := Dp.reads I e y u he ry
  exact SeqAt.eq_plain r1 r2 sd se (by omega) ⟨.bl _, H, I, rfl, q⟩
theorem op_neP (hu : X.A.units + 64 < cLine) : OpR X (compareOp .NotEq) (rEqP X.K true) := by
  intro pins s σ H x y v u Q I rx ry h
  obtain ⟨d, e, hd, he, sd, se, hm, q⟩ := h
  obtain ⟨as, r1⟩ := Dp.reads I d x v hd rx
  obtain ⟨bs, r2⟩ := Dp.reads I e y u he ry
  exact SeqAt.ne_plain r1 r2 sd se (by omega) ⟨.bl _, H, I, rfl, q⟩
def rInP (K : PySem.W.Frag) (neg : Bool) : R2 := fun x y H Q => ∃ d c ds, Dp K H x d ∧ Dp K H y c ∧ (c = .list ds ∨ c = .tuple ds) ∧ d.plain = true ∧ PyData.plainAll ds = true ∧ min (PyData.depthAll ds) d.depth ≤ 60 ∧
  Q (.bl (if neg then !(ds.any fun z => PyData.eqv z d) else ds.any fun z => PyData.eqv z d)) H
theorem op_inP (hu : X.A.units + 64 < cLine) : OpR X (compareOp .In) (rInP X.K false) := by
  intro pins s σ H x y v u Q I rx ry h
  obtain ⟨d, c, ds, hd, hc, k, sd, se, hm, q⟩ := h
  obtain ⟨as, r1⟩ := Dp.reads I d x v hd rx
  obtain ⟨bs, r2⟩ := Dp.reads I c y u hc ry
  rcases k with rfl | rfl
  · exact SeqAt.in_list_data r2 r1 se sd (by omega) ⟨.bl _, H, I, rfl, q⟩
  · exact SeqAt.in_tuple_data r2 r1 se sd (by omega) ⟨.bl _, H, I, rfl, q⟩
theorem op_notInP (hu : X.A.units + 64 < cLine) : OpR X (compareOp .NotIn) (rInP X.K true) := by
  intro pins s σ H x y v u Q I rx ry h
  obtain ⟨d, c, ds, hd, hc, k, sd, se, hm, q⟩ := h
  obtain ⟨as, r1⟩ := Dp.reads I d x v hd rx
  obtain ⟨bs, r2⟩ := Dp.reads I c y u hc ry
  rcases k with rfl | rfl
  · exact SeqAt.notIn_list_data r2 r1 se sd (by omega) ⟨.bl _, H, I, rfl, q⟩
  · exact SeqAt.notIn_tuple_data r2 r1 se sd (by omega) ⟨.bl _, H, I, rfl, q⟩
end
/-- nothing within it -/
def flat : D → Bool
  | .list _ => false
  | .tuple _ => false
  | .dict _ => false
  | _ => true
def shallow (x y : D) : Bool := flat x || (flat y || decide (x.depth ≤ 60))
theorem flat_depth {x : D} (h : flat x = true) : x.depth = 0 := by
  cases x <;> first | rfl | cases h
theorem shallow_ok {x y : D} (h : shallow x y = true) : min x.depth y.depth ≤ 60 := by
  unfold shallow at h
  simp only [Bool.or_eq_true, decide_eq_true_eq] at h
  rcases h with h | h | h
  · rw [flat_depth h]; omega
  · rw [flat_depth h]; omega
  · omega
def cEq (x y : A) (cs : Cs) : Option Bool := (toD x cs).bind fun a => (toD y cs).bind fun b => if shallow a b = true then some (PyData.eqv a b) else none
def cNe (x y : A) (cs : Cs) : Option Bool := (toD x cs).bind fun a => (toD y cs).bind fun b => if shallow a b = true then some (!PyData.eqv a b) else none
/-- the items of a list or a tuple -/
def items (x : A) (cs : Cs) : Option (List D) := match x with
  | .d (.tuple xs) => some xs
  | x => seqL x cs
def shallowIn (x : D) (ys : List D) : Bool := flat x || (decide (PyData.depthAll ys ≤ 60))
def cIn (x y : A) (cs : Cs) : Option Bool := (toD x cs).bind fun a => (items y cs).bind fun b => if shallowIn a b = true then some (b.any fun z => PyData.eqv z a) else none
def cNotIn (x y : A) (cs : Cs) : Option Bool := (toD x cs).bind fun a => (items y cs).bind fun b => if shallowIn a b = true then some (!(b.any fun z => PyData.eqv z a)) else none
section
variable {K : PySem.W.Frag}
theorem m_eq : CmF K (rEqP K false) cEq := by
  intro r Z H cs x y u w Q b hs hx hy e q
  obtain ⟨a, h1, e⟩ := bnd e
  obtain ⟨c, h2, e⟩ := bnd e
  obtain ⟨h3, rfl⟩ := ifs e
  obtain ⟨d1, p1⟩ := toD_ok hs hx h1
  obtain ⟨d2, p2⟩ := toD_ok hs hy h2
  exact ⟨a, c, d1, d2, p1, p2, shallow_ok h3, q⟩
theorem m_ne : CmF K (rEqP K true) cNe := by
  intro r Z H cs x y u w Q b hs hx hy e q
  obtain ⟨a, h1, e⟩ := bnd e
  obtain ⟨c, h2, e⟩ := bnd e
  obtain ⟨h3, rfl⟩ := ifs e
  obtain ⟨d1, p1⟩ := toD_ok hs hx h1
  obtain ⟨d2, p2⟩ := toD_ok hs hy h2
  exact ⟨a, c, d1, d2, p1, p2, shallow_ok h3, q⟩
theorem items_ok {r : List Addr} {Z H : Hp} {cs : Cs} {x : A} {v : V} {ds : List D} (h : RS K r Z H cs) (hx : RA K r Z v x) (e : items x cs = some ds) :
    ∃ a vs, v = .ref a ∧ (SqL K H a vs ∨ SqT K H a vs) ∧ RDs K Z vs ds := by
  unfold items at e
  split at e
  · obtain ⟨a, vs, q, h1, h2⟩ := seqT_ok h hx e
    exact ⟨a, vs, q, .inr h1, h2⟩
  · obtain ⟨a, vs, q, h1, h2⟩ := seqL_ok h hx e
    exact ⟨a, vs, q, .inl h1, h2⟩
theorem items_dp {r : List Addr} {Z H : Hp} {cs : Cs} {x : A} {v : V} {ds : List D} (h : RS K r Z H cs) (hx : RA K r Z v x) (e : items x cs = some ds) :
    ∃ c, Dp K H v c ∧ (c = .list ds ∨ c = .tuple ds) ∧ PyData.plainAll ds = true := by
  obtain ⟨a, vs, rfl, h1, h2⟩ := items_ok h hx e
  obtain ⟨d1, d2⟩ := dps_of h2 h.fz
  rcases h1 with h1 | h1
  · exact ⟨_, .lst h1 d1, .inl rfl, d2⟩
  · exact ⟨_, .tup h1 d1, .inr rfl, d2⟩
theorem shallowIn_ok {x : D} {ys : List D} (h : shallowIn x ys = true) : min (PyData.depthAll ys) x.depth ≤ 60 := by
  unfold shallowIn at h
  simp only [Bool.or_eq_true, decide_eq_true_eq] at h
  rcases h with h | h
  · rw [flat_depth h]; omega
  · omega
theorem m_in : CmF K (rInP K false) cIn := by
  intro r Z H cs x y u w Q b hs hx hy e q
  obtain ⟨a, h1, e⟩ := bnd e
  obtain ⟨c, h2, e⟩ := bnd e
  obtain ⟨h3, rfl⟩ := ifs e
  obtain ⟨d1, p1⟩ := toD_ok hs hx h1
  obtain ⟨d, d2, k, p2⟩ := items_dp hs hy h2
  exact ⟨a, d, c, d1, d2, k, p1, p2, shallowIn_ok h3, q⟩
theorem m_notIn : CmF K (rInP K true) cNotIn := by
  intro r Z H cs x y u w Q b hs hx hy e q
  obtain ⟨a, h1, e⟩ := bnd e
  obtain ⟨c, h2, e⟩ := bnd e
  obtain ⟨h3, rfl⟩ := ifs e
  obtain ⟨d1, p1⟩ := toD_ok hs hx h1
  obtain ⟨d, d2, k, p2⟩ := items_dp hs hy h2
  exact ⟨a, d, c, d1, d2, k, p1, p2, shallowIn_ok h3, q⟩
/-- is None, is True .. -/
def isN : A → Bool
  | .d .none => true
  | _ => false
def cIsN (x y : A) (_ : Cs) : Option Bool := match y with
  | .d .none => some (isN x)
  | _ => none
def cNotN (x y : A) (_ : Cs) : Option Bool := match y with
  | .d .none => some (!isN x)
  | _ => none
theorem isN_ok {r : List Addr} {Z : Hp} {x : A} {v : V} (hx : RA K r Z v x) : decide (v = .non) = isN x := by
  cases x with
  | d x =>
    have hx : RD K Z v x := hx
    cases x <;> cases hx <;> rfl
  | loc n =>
    obtain ⟨a, _, rfl⟩ := hx
    rfl
  | ro xs =>
    obtain ⟨a, _, rfl, _⟩ := hx
    rfl
theorem m_isN : CmF K (fun x y H Q => y = .non ∧ Q (.bl (decide (x = .non))) H) cIsN := by
  intro r Z H cs x y u w Q b hs hx hy e q
  unfold cIsN at e
  split at e
  · cases e
    exact ⟨of_non hy, by rw [isN_ok hx]; exact q⟩
  · cases e
theorem m_notN : CmF K (fun x y H Q => y = .non ∧ Q (.bl (!decide (x = .non))) H) cNotN := by
  intro r Z H cs x y u w Q b hs hx hy e q
  unfold cNotN at e
  split at e
  · cases e
    exact ⟨of_non hy, by rw [isN_ok hx]; exact q⟩
  · cases e
def cIsB (neg : Bool) (x y : A) (_ : Cs) : Option Bool := match x, y with
  | .d (.bool a), .d (.bool b) => some (if neg then !decide (a = b) else decide (a = b))
  | _, _ => none
theorem m_isB : CmF K rIsB (cIsB false) := by
  intro r Z H cs x y u w Q b hs hx hy e q
  unfold cIsB at e
  split at e
  · cases e; exact ⟨_, _, of_bl hx, of_bl hy, q⟩
  · cases e
theorem m_notB : CmF K rNotB (cIsB true) := by
  intro r Z H cs x y u w Q b hs hx hy e q
  unfold cIsB at e
  split at e
  · cases e; exact ⟨_, _, of_bl hx, of_bl hy, q⟩
  · cases e
/-- one sign in a text -/
def cInS (neg : Bool) (x y : A) (_ : Cs) : Option Bool := match x, y with
  | .d (.str c), .d (.str z) => match c.cps.toList with
    | [n] => some (if neg then !decide (n ∈ z.cps.toList) else decide (n ∈ z.cps.toList))
    | _ => none
  | _, _ => none
theorem str_one {c : Str} {n : Nat} (h : c.cps.toList = [n]) : c = ⟨#[n]⟩ := by
  cases c
  rename_i a
  have : a = #[n] := by rw [← Array.toList_inj]; exact h
  rw [this]
theorem m_inS : CmF K (fun x y H Q => ∃ (c : Nat) (z : Str), x = .str ⟨#[c]⟩ ∧ y = .str z ∧ Q (.bl (decide (c ∈ z.cps.toList))) H) (cInS false) := by
  intro r Z H cs x y u w Q b hs hx hy e q
  unfold cInS at e
  split at e
  · split at e
    · rename_i hc
      cases e
      exact ⟨_, _, by rw [← str_one hc]; exact of_str hx, of_str hy, q⟩
    · cases e
  · cases e
theorem m_notInS : CmF K (fun x y H Q => ∃ (c : Nat) (z : Str), x = .str ⟨#[c]⟩ ∧ y = .str z ∧ Q (.bl (!decide (c ∈ z.cps.toList))) H) (cInS true) := by
  intro r Z H cs x y u w Q b hs hx hy e q
  unfold cInS at e
  split at e
  · split at e
    · rename_i hc
      cases e
      exact ⟨_, _, by rw [← str_one hc]; exact of_str hx, of_str hy, q⟩
    · cases e
  · cases e
end

/-! ### subscripts, slices -/
def oIx (x y : A) (cs : Cs) : Option A := match x, y with
  | .d (.str z), .d (.int i) => if z.length ≤ sizeLine then (atI z.cps.toList i).bind fun c => some (.d (.str ⟨#[c]⟩)) else none
  | .d (.tuple xs), .d (.int i) => (atI xs i).bind fun z => some (.d z)
  | x, .d (.int i) => (seqL x cs).bind fun xs => (atI xs i).bind fun z => some (.d z)
  | _, _ => none
section
variable {K : PySem.W.Frag}
theorem at_rd {Z : Hp} {vs : List V} {ds : List D} {i : Int} {x : D} (h : RDs K Z vs ds) (e : atI ds i = some x) : ∃ v, atI vs i = some v ∧ RD K Z v x := by
  unfold atI at e ⊢
  rw [h.length]
  obtain ⟨j, h1, h2⟩ := bnd e
  obtain ⟨v, h3, h4⟩ := h.get h2
  exact ⟨v, by rw [h1]; exact h3, h4⟩
theorem f_ix : OpF K (rIx K) oIx := by
  intro r Z H cs x y z u w Q hs hx hy e q
  unfold oIx at e
  split at e
  · rename_i s i
    split at e
    · rename_i hl
      obtain ⟨c, h1, e⟩ := bnd e
      cases e
      exact .inr (.inr ⟨s, i, c, of_str hx, of_int hy, hl, h1, q r Z H _ .refl hs (RD.str _)⟩)
    · cases e
  · rename_i xs i
    obtain ⟨c, h1, e⟩ := bnd e
    cases e
    obtain ⟨p, vs, rfl, t1, d1⟩ := seqT_ok hs hx rfl
    obtain ⟨v, h2, h3⟩ := at_rd d1 h1
    exact .inr (.inl ⟨p, vs, i, v, rfl, of_int hy, t1, h2, q r Z H _ .refl hs h3⟩)
  · rename_i i _ _
    obtain ⟨xs, h1, e⟩ := bnd e
    obtain ⟨c, h2, e⟩ := bnd e
    cases e
    obtain ⟨p, vs, rfl, t1, d1⟩ := seqL_ok hs hx h1
    obtain ⟨v, h3, h4⟩ := at_rd d1 h2
    exact .inl ⟨p, vs, i, v, rfl, of_int hy, t1, h3, q r Z H _ .refl hs h4⟩
  · cases e
end
section
variable {X : Cx} {e e2 : Expr} {pos : Pos} {f g : E}
theorem x_ix (ha : XE X e f) (hb : XE X e2 g) (hs : PlainIx e2) : XE X (.Subscript e e2 pos) (eBin oIx f g) := pe_imp (pe_ix ix_seq ha hb hs) fun _ _ _ h => bin_ok f_ix h
/-- an optional part of a slice -/
abbrev O := Env → Cs → Option (Option Int × Cs)
def tO (K : PySem.W.Frag) (f : O) : TO := fun σ H Q => ∃ r Z env cs o cs', RS K r Z H cs ∧ RE K r Z env σ ∧ f env cs = some (o, cs') ∧ ∀ r' Z' H', Ext r Z H r' Z' H' → RS K r' Z' H' cs' → Q o H'
abbrev XO (X : Cx) (e : Option Expr) (f : O) : Prop := PO X e (tO X.K f)
theorem po_imp {e : Option Expr} {t u : TO} (h : PO X e t) (w : ∀ σ H Q, u σ H Q → t σ H Q) : PO X e u := ⟨fun pins s σ H Q I q => h.run pins s σ H Q I (w σ H Q q)⟩
def oNo : O := fun _ cs => some (none, cs)
def oPt (f : E) : O := fun env cs => (f env cs).bind fun p => match p.1 with
  | .d (.int i) => some (some i, p.2)
  | _ => none
theorem xo_none : XO X none oNo := po_imp po_none fun σ H Q ⟨r, Z, env, cs, o, cs', hs, he, hf, q⟩ => by
  cases hf
  exact q r Z H .refl hs
theorem xo_some (h : XE X e f) : XO X (some e) (oPt f) := po_imp (po_some h) fun σ H Q ⟨r, Z, env, cs, o, cs', hs, he, hf, q⟩ => by
  obtain ⟨⟨p, cs1⟩, h1, hf⟩ := bnd hf
  refine ⟨r, Z, env, cs, p, cs1, hs, he, h1, fun r1 Z1 H1 v x1 hs1 ha => ?_⟩
  dsimp only at hf
  split at hf
  · rename_i i
    cases hf
    exact ⟨i, of_int ha, q r1 Z1 H1 x1 hs1⟩
  · cases hf
def cutD (xs : List D) (lo hi : Option Int) : List D := (xs.drop (HT.sIx xs.length 0 lo)).take (HT.sIx xs.length xs.length hi - HT.sIx xs.length 0 lo)
theorem cut_rd {K : PySem.W.Frag} {Z : Hp} {vs : List V} {ds : List D} {lo hi : Option Int} (h : RDs K Z vs ds) : RDs K Z (cutV vs lo hi) (cutD ds lo hi) := by
  unfold cutV cutD
  rw [h.length]
  exact (h.drop _).take _
/-- a slice of a list: a new list -/
def fSl (f : E) (lo hi : O) : F := fun env cs => (f env cs).bind fun p => (lo env p.2).bind fun a => (hi env a.2).bind fun b => (seqL p.1 b.2).bind fun xs => some (cutD xs a.1 b.1, b.2)
theorem xf_sl {lo hi : Option Expr} {fl fh : O} {p2 : Pos} (he : XE X e f) (hl : XO X lo fl) (hh : XO X hi fh) : XF X (.Subscript e (.Slice lo hi none p2) pos) (fSl f fl fh) :=
  pe_imp (pe_slice sl_list he hl hh) fun σ H Q ⟨r, Z, env, cs, ds, cs', hs, he, hf, q⟩ => by
    obtain ⟨⟨p, cs1⟩, h1, hf⟩ := bnd hf
    obtain ⟨⟨a, cs2⟩, h2, hf⟩ := bnd hf
    obtain ⟨⟨b, cs3⟩, h3, hf⟩ := bnd hf
    obtain ⟨xs, h4, hf⟩ := bnd hf
    cases hf
    refine ⟨r, Z, env, cs, p, cs1, hs, he, h1, fun r1 Z1 H1 v x1 hs1 ha => ?_⟩
    refine ⟨r1, Z1, env, cs1, a, cs2, hs1, he.mono x1.pre x1.fz, h2, fun r2 Z2 H2 x2 hs2 => ?_⟩
    refine ⟨r2, Z2, env, cs2, b, cs3, hs2, (he.mono x1.pre x1.fz).mono x2.pre x2.fz, h3, fun r3 Z3 H3 x3 hs3 => ?_⟩
    obtain ⟨l, vs, rfl, t1, d1⟩ := seqL_ok hs3 ((ha.mono x2.pre x2.fz).mono x3.pre x3.fz) h4
    exact ⟨l, vs, rfl, t1, fun p' hp => q r3 Z3 H3 p' _ ((x1.trans x2).trans x3) hs3 hp (cut_rd d1)⟩
/-- a slice of a text -/
def eSlS (f : E) (lo hi : O) : E := fun env cs => (f env cs).bind fun p => (lo env p.2).bind fun a => (hi env a.2).bind fun b => match p.1 with
  | .d (.str z) => if z.length ≤ sizeLine then some (.d (.str (cutS z a.1 b.1)), b.2) else none
  | _ => none
theorem x_slS {lo hi : Option Expr} {fl fh : O} {p2 : Pos} (he : XE X e f) (hl : XO X lo fl) (hh : XO X hi fh) : XE X (.Subscript e (.Slice lo hi none p2) pos) (eSlS f fl fh) :=
  pe_imp (pe_slice sl_str he hl hh) fun σ H Q ⟨r, Z, env, cs, ds, cs', hs, he, hf, q⟩ => by
    obtain ⟨⟨p, cs1⟩, h1, hf⟩ := bnd hf
    obtain ⟨⟨a, cs2⟩, h2, hf⟩ := bnd hf
    obtain ⟨⟨b, cs3⟩, h3, hf⟩ := bnd hf
    refine ⟨r, Z, env, cs, p, cs1, hs, he, h1, fun r1 Z1 H1 v x1 hs1 ha => ?_⟩
    refine ⟨r1, Z1, env, cs1, a, cs2, hs1, he.mono x1.pre x1.fz, h2, fun r2 Z2 H2 x2 hs2 => ?_⟩
    refine ⟨r2, Z2, env, cs2, b, cs3, hs2, (he.mono x1.pre x1.fz).mono x2.pre x2.fz, h3, fun r3 Z3 H3 x3 hs3 => ?_⟩
    dsimp only at hf
    split at hf
    · obtain ⟨hz, hf⟩ := ifs hf
      cases hf
      exact ⟨_, of_str ha, hz, q r3 Z3 H3 _ ((x1.trans x2).trans x3) hs3 (RD.str _)⟩
    · cases hf
/-- a new list: frozen at once, or a cell -/
def eFrz (f : F) : E := fun env cs => (f env cs).bind fun p => some (.d (.list p.1), p.2)
def eCell (f : F) : E := fun env cs => (f env cs).bind fun p => some (.loc p.2.length, p.2 ++ [.lst p.1])
theorem x_frz {f : F} (h : XF X e f) : XE X e (eFrz f) := pe_imp h fun σ H Q ⟨r, Z, env, cs, ds, cs', hs, he, hf, q⟩ => by
  obtain ⟨⟨xs, cs1⟩, h1, hf⟩ := bnd hf
  cases hf
  exact ⟨r, Z, env, cs, xs, cs1, hs, he, h1, fun r1 Z1 H1 p vs x1 hs1 hp hd => frz_l hs1 hp hd fun r2 Z2 H2 v x2 hs2 hv => q r2 Z2 H2 v (x1.trans x2) hs2 hv⟩
theorem x_cell {f : F} (h : XF X e f) : XE X e (eCell f) := pe_imp h fun σ H Q ⟨r, Z, env, cs, ds, cs', hs, he, hf, q⟩ => by
  obtain ⟨⟨xs, cs1⟩, h1, hf⟩ := bnd hf
  cases hf
  refine ⟨r, Z, env, cs, xs, cs1, hs, he, h1, fun r1 Z1 H1 p vs x1 hs1 hp hd => ?_⟩
  obtain ⟨h2, h3⟩ := hs1.alloc (o := .lst vs) (c := .lst xs) hp ⟨vs, upd_same, hd⟩
  refine q _ _ _ _ (x1.trans h3) h2 ⟨p, ?_, rfl⟩
  rw [← hs1.len, List.getElem?_append_right (Nat.le_refl _)]
  simp
/-- list + list, list * int as new lists -/
def fAdd (f g : E) : F := fun env cs => (f env cs).bind fun p => (g env p.2).bind fun q => (trkL p.1 q.2).bind fun a => (trkL q.1 q.2).bind fun b => if a.length + b.length ≤ sizeLine then some (a ++ b, q.2) else none
theorem xf_add (ha : XE X e f) (hb : XE X e2 g) : XF X (.BinOp e .Add e2 pos) (fAdd f g) := pe_imp (pe_op op_cat ha hb) fun σ H Q ⟨r, Z, env, cs, ds, cs', hs, he, hf, q⟩ => by
  obtain ⟨⟨p, cs1⟩, h1, hf⟩ := bnd hf
  obtain ⟨⟨p2, cs2⟩, h2, hf⟩ := bnd hf
  obtain ⟨a, h3, hf⟩ := bnd hf
  obtain ⟨b, h4, hf⟩ := bnd hf
  obtain ⟨h5, hf⟩ := ifs hf
  cases hf
  refine ⟨r, Z, env, cs, p, cs1, hs, he, h1, fun r1 Z1 H1 v x1 hs1 ha => ?_⟩
  refine ⟨r1, Z1, env, cs1, p2, _, hs1, he.mono x1.pre x1.fz, h2, fun r2 Z2 H2 w x2 hs2 hb => ?_⟩
  obtain ⟨l, vs, rfl, t1, d1⟩ := trkL_ok hs2 (ha.mono x2.pre x2.fz) h3
  obtain ⟨l2, ws, rfl, t2, d2⟩ := trkL_ok hs2 hb h4
  have e1 := d1.length
  have e2 := d2.length
  exact ⟨l, l2, vs, ws, rfl, rfl, t1, t2, by omega, fun p' hp => q r2 Z2 H2 p' _ (x1.trans x2) hs2 hp (d1.append d2)⟩
def fRep (f g : E) : F := fun env cs => (f env cs).bind fun p => (g env p.2).bind fun q => (trkL p.1 q.2).bind fun a => match q.1 with
  | .d (.int j) => if -B63 ≤ j ∧ j < B63 ∧ a.length * j.toNat ≤ sizeLine then some ((List.replicate j.toNat a).flatten, q.2) else none
  | _ => none
theorem xf_rep (ha : XE X e f) (hb : XE X e2 g) : XF X (.BinOp e .Mult e2 pos) (fRep f g) := pe_imp (pe_op op_rep ha hb) fun σ H Q ⟨r, Z, env, cs, ds, cs', hs, he, hf, q⟩ => by
  obtain ⟨⟨p, cs1⟩, h1, hf⟩ := bnd hf
  obtain ⟨⟨p2, cs2⟩, h2, hf⟩ := bnd hf
  obtain ⟨a, h3, hf⟩ := bnd hf
  refine ⟨r, Z, env, cs, p, cs1, hs, he, h1, fun r1 Z1 H1 v x1 hs1 ha => ?_⟩
  refine ⟨r1, Z1, env, cs1, p2, cs2, hs1, he.mono x1.pre x1.fz, h2, fun r2 Z2 H2 w x2 hs2 hb => ?_⟩
  obtain ⟨l, vs, rfl, t1, d1⟩ := trkL_ok hs2 (ha.mono x2.pre x2.fz) h3
  dsimp only at hf
  split at hf
  · obtain ⟨⟨h4, h5, h6⟩, hf⟩ := ifs hf
    cases hf
    exact ⟨l, _, vs, rfl, of_int hb, t1, h4, h5, by rw [d1.length]; exact h6, fun p' hp => q r2 Z2 H2 p' _ (x1.trans x2) hs2 hp (d1.rep _)⟩
  · cases hf
end
end Fn
end
section
/-! Fn, part E: tests, argument lists, displays, built-in calls, statements, loops, comprehensions. -/
namespace Fn
open PySem L2

/-! ### tests -/
section
variable {X : Cx} {e e2 : Expr} {pos : Pos} {f g : E} {t u : T}
def tVal (f : E) : T := fun env cs => (f env cs).bind fun p => match p.1 with
  | .d (.bool b) => some (b, p.2)
  | _ => none
theorem xt_val (h : XE X e f) (he : ∀ whole, isTrue e X.env whole = (do let v ← whole; standAt e.pos; holding [v] (truthy v)) := by intro _; rfl) : XT X e (tVal f) :=
  pt_imp (pt_val h he) fun σ H Q ⟨r, Z, env, cs, b, cs', hs, hr, hf, q⟩ => by
    obtain ⟨⟨p, cs1⟩, h1, hf⟩ := bnd hf
    refine ⟨r, Z, env, cs, p, cs1, hs, hr, h1, fun r1 Z1 H1 v x1 hs1 ha => ?_⟩
    dsimp only at hf
    split at hf
    · cases hf
      exact ⟨_, of_bl ha, q r1 Z1 H1 x1 hs1⟩
    · cases hf
/-- a value's truth -/
def truth (x : A) (cs : Cs) : Option Bool := match x with
  | .d .none => some false
  | .d (.bool b) => some b
  | .d (.int i) => some (i != 0)
  | .d (.str s) => if s.length ≤ sizeLine then some ((s.length : Int) != 0) else none
  | .d (.list xs) => some (!xs.isEmpty)
  | .d (.tuple xs) => some (!xs.isEmpty)
  | .ro xs => some (!xs.isEmpty)
  | .loc n => match cs[n]? with
    | some (.lst xs) => some (!xs.isEmpty)
    | some (.dct kvs) => some (!kvs.isEmpty)
    | _ => none
  | _ => none
theorem rds_empty {K : PySem.W.Frag} {Z : Hp} {vs : List V} {ds : List D} (h : RDs K Z vs ds) : (!vs.isEmpty) = !ds.isEmpty := by cases h <;> rfl
theorem rp_empty {K : PySem.W.Frag} {κ : Type} {r : List Addr} {Z : Hp} {vs : List (κ × V)} {ds : List (κ × A)} (h : RP K r Z vs ds) : (!vs.isEmpty) = !ds.isEmpty := by cases h <;> rfl
theorem truth_ok {K : PySem.W.Frag} {r : List Addr} {Z H : Hp} {cs : Cs} {x : A} {v : V} {b : Bool} (hs : RS K r Z H cs) (hx : RA K r Z v x) (e : truth x cs = some b) : TruV K v H b := by
  unfold truth at e
  split at e
  · cases e; rw [of_non hx]; rfl
  · cases e; rw [of_bl hx]; rfl
  · cases e; rw [of_int hx]; rfl
  · obtain ⟨h1, rfl⟩ := ifs e; rw [of_str hx]; exact ⟨h1, rfl⟩
  · cases e
    obtain ⟨a, vs, rfl, h1, h2⟩ := seqL_ok hs hx rfl
    exact .inl ⟨vs, h1, (rds_empty h2).symm⟩
  · cases e
    obtain ⟨a, vs, rfl, h1, h2⟩ := seqT_ok hs hx rfl
    exact .inr (.inl ⟨vs, h1, (rds_empty h2).symm⟩)
  · cases e
    obtain ⟨a, vs, rfl, h1, h2⟩ := seqL_ok hs hx rfl
    exact .inl ⟨vs, h1, (rds_empty h2).symm⟩
  · obtain ⟨a, ha, rfl⟩ := hx
    split at e
    · rename_i hc
      cases e
      obtain ⟨vs, h1, h2⟩ := hs.cell _ a _ ha hc
      exact .inl ⟨vs, .of h1, (rds_empty h2).symm⟩
    · rename_i hc
      cases e
      obtain ⟨vs, h1, h2⟩ := hs.cell _ a _ ha hc
      exact .inr (.inr ⟨vs, h1, (rp_empty h2).symm⟩)
    · cases e
  · cases e
def tTru (f : E) : T := fun env cs => (f env cs).bind fun p => (truth p.1 p.2).bind fun b => some (b, p.2)
theorem xt_tru (h : XE X e f) (he : ∀ whole, isTrue e X.env whole = (do let v ← whole; standAt e.pos; holding [v] (truthy v)) := by intro _; rfl) : XT X e (tTru f) :=
  pt_imp (pt_truth h he) fun σ H Q ⟨r, Z, env, cs, b, cs', hs, hr, hf, q⟩ => by
    obtain ⟨⟨p, cs1⟩, h1, hf⟩ := bnd hf
    obtain ⟨b', h2, hf⟩ := bnd hf
    cases hf
    exact ⟨r, Z, env, cs, p, cs1, hs, hr, h1, fun r1 Z1 H1 v x1 hs1 ha => ⟨b, truth_ok hs1 ha h2, q r1 Z1 H1 x1 hs1⟩⟩
def tAndF (t u : T) : T := fun env cs => (t env cs).bind fun p => if p.1 = true then u env p.2 else some (false, p.2)
def tOrF (t u : T) : T := fun env cs => (t env cs).bind fun p => if p.1 = true then some (true, p.2) else u env p.2
def tNotF (t : T) : T := fun env cs => (t env cs).bind fun p => some (!p.1, p.2)
theorem and_ok {K : PySem.W.Frag} {σ : St} {H : Hp} {Q : Bool → Hp → Prop} (h : tT K (tAndF t u) σ H Q) : tAnd (tT K t) (tT K u) σ H Q := by
  obtain ⟨r, Z, env, cs, b, cs', hs, hr, hf, q⟩ := h
  obtain ⟨⟨p, cs1⟩, h1, hf⟩ := bnd hf
  refine ⟨r, Z, env, cs, p, cs1, hs, hr, h1, fun r1 Z1 H1 x1 hs1 => ?_⟩
  cases p with
  | true =>
    exact ⟨r1, Z1, env, cs1, b, cs', hs1, hr.mono x1.pre x1.fz, hf, fun r2 Z2 H2 x2 hs2 => q r2 Z2 H2 (x1.trans x2) hs2⟩
  | false =>
    cases hf
    exact q r1 Z1 H1 x1 hs1
theorem or_ok {K : PySem.W.Frag} {σ : St} {H : Hp} {Q : Bool → Hp → Prop} (h : tT K (tOrF t u) σ H Q) : tOr (tT K t) (tT K u) σ H Q := by
  obtain ⟨r, Z, env, cs, b, cs', hs, hr, hf, q⟩ := h
  obtain ⟨⟨p, cs1⟩, h1, hf⟩ := bnd hf
  refine ⟨r, Z, env, cs, p, cs1, hs, hr, h1, fun r1 Z1 H1 x1 hs1 => ?_⟩
  cases p with
  | false =>
    exact ⟨r1, Z1, env, cs1, b, cs', hs1, hr.mono x1.pre x1.fz, hf, fun r2 Z2 H2 x2 hs2 => q r2 Z2 H2 (x1.trans x2) hs2⟩
  | true =>
    cases hf
    exact q r1 Z1 H1 x1 hs1
variable {rest : List Expr}
theorem xw_and1 (ha : XT X e t) : XW X (.BoolOp .And [e] pos) t := pw_and1 ha
theorem xw_or1 (ha : XT X e t) : XW X (.BoolOp .Or [e] pos) t := pw_or1 ha
theorem xw_and (ha : XT X e t) (hb : XW X (.BoolOp .And (e2 :: rest) pos) u) : XW X (.BoolOp .And (e :: e2 :: rest) pos) (tAndF t u) := pw_imp (pw_and ha hb) fun _ _ _ h => and_ok h
theorem xw_or (ha : XT X e t) (hb : XW X (.BoolOp .Or (e2 :: rest) pos) u) : XW X (.BoolOp .Or (e :: e2 :: rest) pos) (tOrF t u) := pw_imp (pw_or ha hb) fun _ _ _ h => or_ok h
theorem xt_w (h : XW X e t) : XT X e t := h.pt
theorem xt_not (ha : XT X e t) : XT X (.UnaryOp .Not e pos) (tNotF t) := pt_imp (pt_not ha) fun σ H Q ⟨r, Z, env, cs, b, cs', hs, hr, hf, q⟩ => by
  obtain ⟨⟨p, cs1⟩, h1, hf⟩ := bnd hf
  cases hf
  exact ⟨r, Z, env, cs, p, cs1, hs, hr, h1, fun r1 Z1 H1 x1 hs1 => q r1 Z1 H1 x1 hs1⟩
/-! as values -/
def eAndF (f g : E) : E := fun env cs => (f env cs).bind fun p => match p.1 with
  | .d (.bool true) => g env p.2
  | .d (.bool false) => some (.d (.bool false), p.2)
  | _ => none
def eOrF (f g : E) : E := fun env cs => (f env cs).bind fun p => match p.1 with
  | .d (.bool false) => g env p.2
  | .d (.bool true) => some (.d (.bool true), p.2)
  | _ => none
def eNotF (f : E) : E := fun env cs => (f env cs).bind fun p => (truth p.1 p.2).bind fun b => some (.d (.bool (!b)), p.2)
theorem x_one {op} (h : XE X e f) : XE X (.BoolOp op [e] pos) f := pe_one h
theorem x_and (ha : XE X e f) (hb : XE X (.BoolOp .And (e2 :: rest) pos) g) : XE X (.BoolOp .And (e :: e2 :: rest) pos) (eAndF f g) := pe_imp (pe_and ha hb) fun σ H Q ⟨r, Z, env, cs, y, cs', hs, hr, hf, q⟩ => by
  obtain ⟨⟨p, cs1⟩, h1, hf⟩ := bnd hf
  refine ⟨r, Z, env, cs, p, cs1, hs, hr, h1, fun r1 Z1 H1 v x1 hs1 hv => ?_⟩
  dsimp only at hf
  split at hf
  · refine ⟨true, of_bl hv, ?_⟩
    rw [if_pos rfl]
    exact ⟨r1, Z1, env, cs1, y, cs', hs1, hr.mono x1.pre x1.fz, hf, fun r2 Z2 H2 w x2 hs2 hw => q r2 Z2 H2 w (x1.trans x2) hs2 hw⟩
  · cases hf
    refine ⟨false, of_bl hv, ?_⟩
    rw [if_neg (by decide)]
    exact q r1 Z1 H1 _ x1 hs1 (RD.bl _)
  · cases hf
theorem x_or (ha : XE X e f) (hb : XE X (.BoolOp .Or (e2 :: rest) pos) g) : XE X (.BoolOp .Or (e :: e2 :: rest) pos) (eOrF f g) := pe_imp (pe_or ha hb) fun σ H Q ⟨r, Z, env, cs, y, cs', hs, hr, hf, q⟩ => by
  obtain ⟨⟨p, cs1⟩, h1, hf⟩ := bnd hf
  refine ⟨r, Z, env, cs, p, cs1, hs, hr, h1, fun r1 Z1 H1 v x1 hs1 hv => ?_⟩
  dsimp only at hf
  split at hf
  · refine ⟨false, of_bl hv, ?_⟩
    rw [if_neg (by decide)]
    exact ⟨r1, Z1, env, cs1, y, cs', hs1, hr.mono x1.pre x1.fz, hf, fun r2 Z2 H2 w x2 hs2 hw => q r2 Z2 H2 w (x1.trans x2) hs2 hw⟩
  · cases hf
    refine ⟨true, of_bl hv, ?_⟩
    rw [if_pos rfl]
    exact q r1 Z1 H1 _ x1 hs1 (RD.bl _)
  · cases hf
theorem x_not (ha : XE X e f) : XE X (.UnaryOp .Not e pos) (eNotF f) := pe_imp (pe_notT ha) fun σ H Q ⟨r, Z, env, cs, y, cs', hs, hr, hf, q⟩ => by
  obtain ⟨⟨p, cs1⟩, h1, hf⟩ := bnd hf
  obtain ⟨b, h2, hf⟩ := bnd hf
  cases hf
  exact ⟨r, Z, env, cs, p, _, hs, hr, h1, fun r1 Z1 H1 v x1 hs1 hv => ⟨b, truth_ok hs1 hv h2, q r1 Z1 H1 _ x1 hs1 (RD.bl _)⟩⟩
def eIf (t : T) (f g : E) : E := fun env cs => (t env cs).bind fun p => if p.1 = true then f env p.2 else g env p.2
theorem x_if {c : Expr} (hc : XT X c t) (ha : XE X e f) (hb : XE X e2 g) : XE X (.IfExp c e e2 pos) (eIf t f g) := pe_imp (pe_ifExp hc ha hb) fun σ H Q ⟨r, Z, env, cs, y, cs', hs, hr, hf, q⟩ => by
  obtain ⟨⟨p, cs1⟩, h1, hf⟩ := bnd hf
  refine ⟨r, Z, env, cs, p, cs1, hs, hr, h1, fun r1 Z1 H1 x1 hs1 => ?_⟩
  cases p with
  | true => exact ⟨r1, Z1, env, cs1, y, cs', hs1, hr.mono x1.pre x1.fz, hf, fun r2 Z2 H2 w x2 hs2 hw => q r2 Z2 H2 w (x1.trans x2) hs2 hw⟩
  | false => exact ⟨r1, Z1, env, cs1, y, cs', hs1, hr.mono x1.pre x1.fz, hf, fun r2 Z2 H2 w x2 hs2 hw => q r2 Z2 H2 w (x1.trans x2) hs2 hw⟩
def eNeg (f : E) : E := fun env cs => (f env cs).bind fun p => match p.1 with
  | .d (.int i) => some (.d (.int (-i)), p.2)
  | _ => none
theorem x_neg (ha : XE X e f) : XE X (.UnaryOp .USub e pos) (eNeg f) := pe_imp (pe_un un_neg ha) fun σ H Q ⟨r, Z, env, cs, y, cs', hs, hr, hf, q⟩ => by
  obtain ⟨⟨p, cs1⟩, h1, hf⟩ := bnd hf
  refine ⟨r, Z, env, cs, p, cs1, hs, hr, h1, fun r1 Z1 H1 v x1 hs1 hv => ?_⟩
  dsimp only at hf
  split at hf
  · cases hf
    exact ⟨_, of_int hv, q r1 Z1 H1 _ x1 hs1 (RD.int _)⟩
  · cases hf
/-- a < b < c -/
def eChain (c c' : A → A → Cs → Option Bool) (f g h : E) : E := fun env cs => (f env cs).bind fun p => (g env p.2).bind fun q => (c p.1 q.1 q.2).bind fun b => if b = true then (h env q.2).bind fun s => (c' q.1 s.1 s.2).bind fun b' => some (.d (.bool b'), s.2) else some (.d (.bool false), q.2)

/-! ### argument lists, displays -/
variable {es : List Expr} {fs : As}
def aNil : As := fun _ cs => some ([], cs)
def aCons (f : E) (fs : As) : As := fun env cs => (f env cs).bind fun p => (fs env p.2).bind fun q => some (p.1 :: q.1, q.2)
theorem xa_nil : XA X [] aNil := pa_imp pa_nil fun σ H Q ⟨r, Z, env, cs, xs, cs', hs, hr, hf, q⟩ => by
  cases hf
  exact q r Z H [] .refl hs .nil
theorem acons_ok {K : PySem.W.Frag} {σ : St} {H : Hp} {Q : List V → Hp → Prop} (h : tAs K (aCons f fs) σ H Q) : tCons (tE K f) (tAs K fs) σ H Q := by
  obtain ⟨r, Z, env, cs, xs, cs', hs, hr, hf, q⟩ := h
  obtain ⟨⟨p, cs1⟩, h1, hf⟩ := bnd hf
  obtain ⟨⟨ps, cs2⟩, h2, hf⟩ := bnd hf
  cases hf
  refine ⟨r, Z, env, cs, p, cs1, hs, hr, h1, fun r1 Z1 H1 v x1 hs1 hv => ?_⟩
  exact ⟨r1, Z1, env, cs1, ps, cs2, hs1, hr.mono x1.pre x1.fz, h2, fun r2 Z2 H2 vs x2 hs2 hvs => q r2 Z2 H2 _ (x1.trans x2) hs2 (.cons (hv.mono x2.pre x2.fz) hvs)⟩
theorem xa_cons (ha : XE X e f) (hr : XA X es fs) (hs : starEach (e :: es) X.env = (false, eval e X.env) :: starEach es X.env := by rfl) : XA X (e :: es) (aCons f fs) := pa_imp (pa_cons ha hr hs) fun _ _ _ h => acons_ok h
/-- all of them data -/
def allD : List A → Option (List D)
  | [] => some []
  | .d x :: xs => (allD xs).bind fun ys => some (x :: ys)
  | _ :: _ => none
theorem allD_ok {K : PySem.W.Frag} {r : List Addr} {Z : Hp} : ∀ {xs : List A} {vs : List V} {ds : List D}, RAs K r Z vs xs → allD xs = some ds → RDs K Z vs ds
  | [], _, _, .nil, e => by cases e; exact .nil
  | .d x :: xs, _, _, .cons h t, e => by
    obtain ⟨ys, h1, e⟩ := bnd e
    cases e
    exact .cons h (allD_ok t h1)
  | .loc _ :: _, _, _, _, e => by cases e
  | .ro _ :: _, _, _, _, e => by cases e
def fLst (fs : As) : F := fun env cs => (fs env cs).bind fun p => (allD p.1).bind fun ds => if ds.length ≤ sizeLine then some (ds, p.2) else none
theorem xf_lst (h : XA X es fs) : XF X (.List es pos) (fLst fs) := pe_imp (pe_lst h) fun σ H Q ⟨r, Z, env, cs, ds, cs', hs, hr, hf, q⟩ => by
  obtain ⟨⟨p, cs1⟩, h1, hf⟩ := bnd hf
  obtain ⟨xs, h2, hf⟩ := bnd hf
  obtain ⟨h3, hf⟩ := ifs hf
  cases hf
  refine ⟨r, Z, env, cs, p, _, hs, hr, h1, fun r1 Z1 H1 vs x1 hs1 hvs => ?_⟩
  have hd := allD_ok hvs h2
  exact ⟨by rw [hd.length]; exact h3, fun l hl => q r1 Z1 H1 l vs x1 hs1 hl hd⟩
def eTup (fs : As) : E := fun env cs => (fs env cs).bind fun p => (allD p.1).bind fun ds => if ds.length ≤ sizeLine then some (.d (.tuple ds), p.2) else none
theorem x_tup {k} (h : XA X es fs) : XE X (.Tuple es k pos) (eTup fs) := pe_imp (pe_tup h) fun σ H Q ⟨r, Z, env, cs, y, cs', hs, hr, hf, q⟩ => by
  obtain ⟨⟨p, cs1⟩, h1, hf⟩ := bnd hf
  obtain ⟨xs, h2, hf⟩ := bnd hf
  obtain ⟨h3, hf⟩ := ifs hf
  cases hf
  refine ⟨r, Z, env, cs, p, _, hs, hr, h1, fun r1 Z1 H1 vs x1 hs1 hvs => ?_⟩
  have hd := allD_ok hvs h2
  exact ⟨by rw [hd.length]; exact h3, fun l hl => frz_t hs1 hl hd fun r2 Z2 H2 v x2 hs2 hv => q r2 Z2 H2 v (x1.trans x2) hs2 hv⟩

/-! ### built-ins called -/
/-- the answer of a call by values -/
def ClF (K : PySem.W.Frag) (t : List V → Hp → VK → Prop) (op : List A → Cs → Option A) : Prop := ∀ {r : List Addr} {Z H : Hp} {cs : Cs} {xs : List A} {z : A} {us : List V} {Q : VK}, RS K r Z H cs → RAs K r Z us xs → op xs cs = some z →
  (∀ r' Z' H' v, Ext r Z H r' Z' H' → RS K r' Z' H' cs → RA K r' Z' v z → Q v H') → t us H Q
def eB (op : List A → Cs → Option A) (fs : As) : E := fun env cs => (fs env cs).bind fun p => (op p.1 p.2).bind fun z => some (z, p.2)
theorem x_b {t : List V → Hp → VK → Prop} {op : List A → Cs → Option A} (ho : ClF X.K t op) (h : PE X e (tCB t (tAs X.K fs))) : XE X e (eB op fs) := pe_imp h fun σ H Q ⟨r, Z, env, cs, y, cs', hs, hr, hf, q⟩ => by
  obtain ⟨⟨p, cs1⟩, h1, hf⟩ := bnd hf
  obtain ⟨z, h2, hf⟩ := bnd hf
  cases hf
  exact ⟨r, Z, env, cs, p, _, hs, hr, h1, fun r1 Z1 H1 vs x1 hs1 hvs => ho hs1 hvs h2 fun r2 Z2 H2 v x2 hs2 hv => q r2 Z2 H2 v (x1.trans x2) hs2 hv⟩
/-- .. that makes a new list -/
def ClN (K : PySem.W.Frag) (t : List V → Hp → VK → Prop) (op : List A → Cs → Option (List D)) : Prop := ∀ {r : List Addr} {Z H : Hp} {cs : Cs} {xs : List A} {ds : List D} {us : List V} {Q : VK}, RS K r Z H cs → RAs K r Z us xs → op xs cs = some ds →
  (∀ p vs, H p = none → RDs K Z vs ds → Q (.ref p) (upd H p (.lst vs))) → t us H Q
def fB (op : List A → Cs → Option (List D)) (fs : As) : F := fun env cs => (fs env cs).bind fun p => (op p.1 p.2).bind fun z => some (z, p.2)
theorem xf_b {t : List V → Hp → VK → Prop} {op : List A → Cs → Option (List D)} (ho : ClN X.K t op) (h : PE X e (tCB t (tAs X.K fs))) : XF X e (fB op fs) := pe_imp h fun σ H Q ⟨r, Z, env, cs, y, cs', hs, hr, hf, q⟩ => by
  obtain ⟨⟨p, cs1⟩, h1, hf⟩ := bnd hf
  obtain ⟨z, h2, hf⟩ := bnd hf
  cases hf
  exact ⟨r, Z, env, cs, p, _, hs, hr, h1, fun r1 Z1 H1 vs x1 hs1 hvs => ho hs1 hvs h2 fun l ws hl hw => q r1 Z1 H1 l ws x1 hs1 hl hw⟩
end
/-! the operations -/
def bLen (xs : List A) (cs : Cs) : Option A := match xs with
  | [.d (.str s)] => if s.length ≤ sizeLine then some (.d (.int s.length)) else none
  | [x] => (items x cs).bind fun ys => some (.d (.int ys.length))
  | _ => none
def bInt (xs : List A) (_ : Cs) : Option A := match xs with
  | [.d (.int i)] => some (.d (.int i))
  | [.d (.bool b)] => some (.d (.int (if b then 1 else 0)))
  | _ => none
def bMax (xs : List A) (_ : Cs) : Option A := match xs with
  | [.d (.int i), .d (.int j)] => some (.d (.int (if j > i then j else i)))
  | _ => none
def bMin (xs : List A) (_ : Cs) : Option A := match xs with
  | [.d (.int i), .d (.int j)] => some (.d (.int (if j < i then j else i)))
  | _ => none
def allB : List D → Option (List Bool)
  | [] => some []
  | .bool b :: xs => (allB xs).bind fun ys => some (b :: ys)
  | _ :: _ => none
def allI : List D → Option (List Int)
  | [] => some []
  | .int i :: xs => (allI xs).bind fun ys => some (i :: ys)
  | _ :: _ => none
def allS : List D → Option (List Str)
  | [] => some []
  | .str i :: xs => (allS xs).bind fun ys => some (i :: ys)
  | _ :: _ => none
def bAll (xs : List A) (cs : Cs) : Option A := match xs with
  | [x] => (seqL x cs).bind fun ys => (allB ys).bind fun bs => some (.d (.bool (bs.all id)))
  | _ => none
def bAny (xs : List A) (cs : Cs) : Option A := match xs with
  | [x] => (seqL x cs).bind fun ys => (allB ys).bind fun bs => some (.d (.bool (bs.any id)))
  | _ => none
def bSum (xs : List A) (cs : Cs) : Option A := match xs with
  | [x] => (seqL x cs).bind fun ys => (allI ys).bind fun bs => some (.d (.int bs.sum))
  | _ => none
def bList (xs : List A) (cs : Cs) : Option (List D) := match xs with
  | [x] => items x cs
  | _ => none
section
variable {K : PySem.W.Frag}
theorem ras1 {r : List Addr} {Z : Hp} {us : List V} {x : A} (h : RAs K r Z us [x]) : ∃ u, us = [u] ∧ RA K r Z u x := by
  cases h with
  | cons a b => cases b; exact ⟨_, rfl, a⟩
theorem ras2 {r : List Addr} {Z : Hp} {us : List V} {x y : A} (h : RAs K r Z us [x, y]) : ∃ u w, us = [u, w] ∧ RA K r Z u x ∧ RA K r Z w y := by
  cases h with
  | cons a b =>
    obtain ⟨w, rfl, c⟩ := ras1 b
    exact ⟨_, w, rfl, a, c⟩
theorem allB_ok {Z : Hp} : ∀ {ds : List D} {vs : List V} {bs : List Bool}, RDs K Z vs ds → allB ds = some bs → vs = bs.map V.bl
  | [], _, _, .nil, e => by cases e; rfl
  | .bool b :: xs, _, _, .cons h t, e => by
    obtain ⟨ys, h1, e⟩ := bnd e
    cases e
    cases h
    rw [allB_ok t h1]; rfl
  | .none :: _, _, _, _, e => by cases e
  | .int _ :: _, _, _, _, e => by cases e
  | .str _ :: _, _, _, _, e => by cases e
  | .list _ :: _, _, _, _, e => by cases e
  | .tuple _ :: _, _, _, _, e => by cases e
  | .dict _ :: _, _, _, _, e => by cases e
theorem allI_ok {Z : Hp} : ∀ {ds : List D} {vs : List V} {bs : List Int}, RDs K Z vs ds → allI ds = some bs → vs = bs.map V.int
  | [], _, _, .nil, e => by cases e; rfl
  | .int b :: xs, _, _, .cons h t, e => by
    obtain ⟨ys, h1, e⟩ := bnd e
    cases e
    cases h
    rw [allI_ok t h1]; rfl
  | .none :: _, _, _, _, e => by cases e
  | .bool _ :: _, _, _, _, e => by cases e
  | .str _ :: _, _, _, _, e => by cases e
  | .list _ :: _, _, _, _, e => by cases e
  | .tuple _ :: _, _, _, _, e => by cases e
  | .dict _ :: _, _, _, _, e => by cases e
theorem allS_ok {Z : Hp} : ∀ {ds : List D} {vs : List V} {bs : List Str}, RDs K Z vs ds → allS ds = some bs → vs = bs.map V.str
  | [], _, _, .nil, e => by cases e; rfl
  | .str b :: xs, _, _, .cons h t, e => by
    obtain ⟨ys, h1, e⟩ := bnd e
    cases e
    cases h
    rw [allS_ok t h1]; rfl
  | .none :: _, _, _, _, e => by cases e
  | .int _ :: _, _, _, _, e => by cases e
  | .bool _ :: _, _, _, _, e => by cases e
  | .list _ :: _, _, _, _, e => by cases e
  | .tuple _ :: _, _, _, _, e => by cases e
  | .dict _ :: _, _, _, _, e => by cases e
def rLenA (K : PySem.W.Frag) : List V → Hp → VK → Prop := fun xs H Q => (∃ p ys, xs = [.ref p] ∧ (SqL K H p ys ∨ SqT K H p ys) ∧ Q (.int ys.length) H) ∨ ∃ z, xs = [.str z] ∧ z.length ≤ sizeLine ∧ Q (.int z.length) H
theorem call_lenA {X : Cx} : CallR X (.builtin "len") (rLenA X.K) := call_len_seq.or call_len_str
theorem b_len : ClF K (rLenA K) bLen := by
  intro r Z H cs xs z us Q hs hx e q
  unfold bLen at e
  split at e
  · obtain ⟨h1, rfl⟩ := ifs e
    obtain ⟨u, rfl, hu⟩ := ras1 hx
    rw [of_str hu]
    exact .inr ⟨_, rfl, h1, q r Z H _ .refl hs (RD.int _)⟩
  · obtain ⟨ys, h1, e⟩ := bnd e
    cases e
    obtain ⟨u, rfl, hu⟩ := ras1 hx
    obtain ⟨a, vs, rfl, h2, h3⟩ := items_ok hs hu h1
    exact .inl ⟨a, vs, rfl, h2, by rw [h3.length]; exact q r Z H _ .refl hs (RD.int _)⟩
  · cases e
theorem b_int : ClF K (fun xs H Q => (∃ i, xs = [.int i] ∧ Q (.int i) H) ∨ ∃ k, xs = [.bl k] ∧ Q (.int (if k then 1 else 0)) H) bInt := by
  intro r Z H cs xs z us Q hs hx e q
  unfold bInt at e
  split at e
  · cases e
    obtain ⟨u, rfl, hu⟩ := ras1 hx
    rw [of_int hu]
    exact .inl ⟨_, rfl, q r Z H _ .refl hs (RD.int _)⟩
  · cases e
    obtain ⟨u, rfl, hu⟩ := ras1 hx
    rw [of_bl hu]
    exact .inr ⟨_, rfl, q r Z H _ .refl hs (RD.int _)⟩
  · cases e
theorem b_max : ClF K (fun xs H Q => ∃ i j, xs = [.int i, .int j] ∧ Q (.int (if j > i then j else i)) H) bMax := by
  intro r Z H cs xs z us Q hs hx e q
  unfold bMax at e
  split at e
  · cases e
    obtain ⟨u, w, rfl, hu, hw⟩ := ras2 hx
    rw [of_int hu, of_int hw]
    exact ⟨_, _, rfl, q r Z H _ .refl hs (RD.int _)⟩
  · cases e
theorem b_min : ClF K (fun xs H Q => ∃ i j, xs = [.int i, .int j] ∧ Q (.int (if j < i then j else i)) H) bMin := by
  intro r Z H cs xs z us Q hs hx e q
  unfold bMin at e
  split at e
  · cases e
    obtain ⟨u, w, rfl, hu, hw⟩ := ras2 hx
    rw [of_int hu, of_int hw]
    exact ⟨_, _, rfl, q r Z H _ .refl hs (RD.int _)⟩
  · cases e
theorem b_all : ClF K (rAll K) bAll := by
  intro r Z H cs xs z us Q hs hx e q
  unfold bAll at e
  split at e
  · obtain ⟨ys, h1, e⟩ := bnd e
    obtain ⟨bs, h2, e⟩ := bnd e
    cases e
    obtain ⟨u, rfl, hu⟩ := ras1 hx
    obtain ⟨a, vs, rfl, h3, h4⟩ := seqL_ok hs hu h1
    exact ⟨a, bs, rfl, by rw [← allB_ok h4 h2]; exact h3, q r Z H _ .refl hs (RD.bl _)⟩
  · cases e
theorem b_any : ClF K (rAny K) bAny := by
  intro r Z H cs xs z us Q hs hx e q
  unfold bAny at e
  split at e
  · obtain ⟨ys, h1, e⟩ := bnd e
    obtain ⟨bs, h2, e⟩ := bnd e
    cases e
    obtain ⟨u, rfl, hu⟩ := ras1 hx
    obtain ⟨a, vs, rfl, h3, h4⟩ := seqL_ok hs hu h1
    exact ⟨a, bs, rfl, by rw [← allB_ok h4 h2]; exact h3, q r Z H _ .refl hs (RD.bl _)⟩
  · cases e
theorem b_sum : ClF K (rSum K) bSum := by
  intro r Z H cs xs z us Q hs hx e q
  unfold bSum at e
  split at e
  · obtain ⟨ys, h1, e⟩ := bnd e
    obtain ⟨bs, h2, e⟩ := bnd e
    cases e
    obtain ⟨u, rfl, hu⟩ := ras1 hx
    obtain ⟨a, vs, rfl, h3, h4⟩ := seqL_ok hs hu h1
    exact ⟨a, bs, rfl, by rw [← allI_ok h4 h2]; exact h3, q r Z H _ .refl hs (RD.int _)⟩
  · cases e
theorem b_list : ClN K (fun xs H Q => ∃ p ys, xs = [.ref p] ∧ (SqL K H p ys ∨ SqT K H p ys) ∧ ∀ l, H l = none → Q (.ref l) (upd H l (.lst ys))) bList := by
  intro r Z H cs xs ds us Q hs hx e q
  unfold bList at e
  split at e
  · obtain ⟨u, rfl, hu⟩ := ras1 hx
    obtain ⟨a, vs, rfl, h2, h3⟩ := items_ok hs hu e
    exact ⟨a, vs, rfl, h2, fun l hl => q l vs hl h3⟩
  · cases e
end
end Fn
end
section
/-! Fn, part G: statements, targets, loops, comprehensions. -/
namespace Fn
open PySem L2

/-! ### statements -/
def sNil : S := fun env cs => some (.nx, env, cs)
def sSeq (f g : S) : S := fun env cs => (f env cs).bind fun p => match p.1 with
  | .nx => g p.2.1 p.2.2
  | o => some (o, p.2.1, p.2.2)
def sExp (f : E) : S := fun env cs => (f env cs).bind fun p => some (.nx, env, p.2)
def sRet (f : E) : S := fun env cs => (f env cs).bind fun p => some (.rt p.1, env, p.2)
def sRetN : S := fun env cs => some (.rt (.d .none), env, cs)
def sIf (t : T) (f g : S) : S := fun env cs => (t env cs).bind fun p => if p.1 = true then f env p.2 else g env p.2
def sBrk : S := fun env cs => some (.bk, env, cs)
def sCnt : S := fun env cs => some (.ct, env, cs)
def sNev : S := fun _ _ => none
section
variable {X : Cx} {st : Stmt} {rest : List Stmt} {f g : S} {e : Expr} {fe : E} {pos : Pos}
theorem fin_ext {K : PySem.W.Frag} {D : Ends} {r : List Addr} {Z : Hp} {σ : St} {H : Hp} {o : Out} {nx' : St → Hp → Prop} (ho : o ≠ .nx) (h : fin K D r Z σ H o) : fin K { D with nx := nx' } r Z σ H o := by
  cases o with
  | nx => exact absurd rfl ho
  | rt x => exact h
  | bk => exact h
  | ct => exact h
theorem seq_ok {K : PySem.W.Frag} {D : Ends} {σ : St} {H : Hp} (h : tS K (sSeq f g) D σ H) : tSeq (tS K f) (tS K g) D σ H := by
  obtain ⟨r, Z, env, cs, o, env', cs', hs, hr, hf, q⟩ := h
  obtain ⟨⟨o1, env1, cs1⟩, h1, hf⟩ := bnd hf
  refine ⟨r, Z, env, cs, o1, env1, cs1, hs, hr, h1, fun r1 Z1 H1 σ1 x1 hs1 hr1 => ?_⟩
  cases o1 with
  | nx => exact ⟨r1, Z1, env1, cs1, o, env', cs', hs1, hr1, hf, fun r2 Z2 H2 σ2 x2 hs2 hr2 => q r2 Z2 H2 σ2 (x1.trans x2) hs2 hr2⟩
  | rt x =>
    cases hf
    exact fin_ext (by intro z; cases z) (q r1 Z1 H1 σ1 x1 hs1 hr1)
  | bk =>
    cases hf
    exact fin_ext (by intro z; cases z) (q r1 Z1 H1 σ1 x1 hs1 hr1)
  | ct =>
    cases hf
    exact fin_ext (by intro z; cases z) (q r1 Z1 H1 σ1 x1 hs1 hr1)
theorem nil_ok {K : PySem.W.Frag} {D : Ends} {σ : St} {H : Hp} (h : tS K sNil D σ H) : tNext D σ H := by
  obtain ⟨r, Z, env, cs, o, env', cs', hs, hr, hf, q⟩ := h
  cases hf
  exact q r Z H σ .refl hs hr
theorem xs_nil : XSs X [] sNil := pss_imp pss_nil fun _ _ _ h => nil_ok h
theorem xs_cons (h1 : XS X st f) (h2 : XSs X rest g) : XSs X (st :: rest) (sSeq f g) := pss_imp (pss_cons h1 h2) fun _ _ _ h => seq_ok h
theorem xs_one (h1 : XS X st f) : XSs X [st] f := pss_one h1
theorem s_pass : XS X (.Pass pos) sNil := ps_imp ps_pass fun _ _ _ h => nil_ok h
theorem s_doc {x j pos'} : XS X (.Expr (.Constant (.str x) j pos) pos') sNil := ps_imp ps_doc fun _ _ _ h => nil_ok h
theorem s_break : XS X (.Break pos) sBrk := ps_imp ps_break fun D σ H ⟨r, Z, env, cs, o, env', cs', hs, hr, hf, q⟩ => by
  cases hf
  exact q r Z H σ .refl hs hr
theorem s_continue : XS X (.Continue pos) sCnt := ps_imp ps_continue fun D σ H ⟨r, Z, env, cs, o, env', cs', hs, hr, hf, q⟩ => by
  cases hf
  exact q r Z H σ .refl hs hr
theorem s_never : XS X st sNev := ps_imp ps_never fun D σ H ⟨r, Z, env, cs, o, env', cs', hs, hr, hf, q⟩ => by cases hf
theorem ss_never : XSs X rest sNev := pss_imp pss_never fun D σ H ⟨r, Z, env, cs, o, env', cs', hs, hr, hf, q⟩ => by cases hf
theorem s_expr (he : XE X e fe) (hs : swapsWith e none pos.line X.env = pure false := by rfl) : XS X (.Expr e pos) (sExp fe) := ps_imp (ps_expr he hs) fun D σ H ⟨r, Z, env, cs, o, env', cs', hs, hr, hf, q⟩ => by
  obtain ⟨⟨p, cs1⟩, h1, hf⟩ := bnd hf
  cases hf
  exact ⟨r, Z, env, cs, p, _, hs, hr, h1, fun r1 Z1 H1 v x1 hs1 _ => q r1 Z1 H1 σ x1 hs1 (hr.mono x1.pre x1.fz)⟩
theorem s_ret (he : XE X e fe) : XS X (.Return (some e) pos) (sRet fe) := ps_imp (ps_ret he) fun D σ H ⟨r, Z, env, cs, o, env', cs', hs, hr, hf, q⟩ => by
  obtain ⟨⟨p, cs1⟩, h1, hf⟩ := bnd hf
  cases hf
  exact ⟨r, Z, env, cs, p, _, hs, hr, h1, fun r1 Z1 H1 v x1 hs1 hv => q r1 Z1 H1 σ x1 hs1 (hr.mono x1.pre x1.fz) v hv⟩
theorem s_retN : XS X (.Return none pos) sRetN := ps_imp ps_retN fun D σ H ⟨r, Z, env, cs, o, env', cs', hs, hr, hf, q⟩ => by
  cases hf
  exact q r Z H σ .refl hs hr .non .non
theorem fin_nx {K : PySem.W.Frag} {D : Ends} {r : List Addr} {Z : Hp} {σ : St} {H : Hp} (h : fin K D r Z σ H .nx) : D.nx σ H := h
theorem s_if {c : Expr} {a b : List Stmt} {t : T} (hc : XT X c t) (ha : XSs X a f) (hb : XSs X b g) : XS X (.If c a b pos) (sIf t f g) := ps_imp (ps_if hc ha hb) fun D σ H ⟨r, Z, env, cs, o, env', cs', hs, hr, hf, q⟩ => by
  obtain ⟨⟨p, cs1⟩, h1, hf⟩ := bnd hf
  refine ⟨r, Z, env, cs, p, cs1, hs, hr, h1, fun r1 Z1 H1 x1 hs1 => ?_⟩
  cases p with
  | true => exact ⟨r1, Z1, env, cs1, o, env', cs', hs1, hr.mono x1.pre x1.fz, hf, fun r2 Z2 H2 σ2 x2 hs2 hr2 => q r2 Z2 H2 σ2 (x1.trans x2) hs2 hr2⟩
  | false => exact ⟨r1, Z1, env, cs1, o, env', cs', hs1, hr.mono x1.pre x1.fz, hf, fun r2 Z2 H2 σ2 x2 hs2 hr2 => q r2 Z2 H2 σ2 (x1.trans x2) hs2 hr2⟩
end
/-! ### names stored -/
theorem RE.set {K : PySem.W.Frag} {r : List Addr} {Z : Hp} {env : Env} {σ : St} {x : A} {v : V} (i : Nat) (h : RE K r Z env σ) (hv : RA K r Z v x) : RE K r Z (env.set i (some x)) (σ.set i (some v)) := by
  refine ⟨by simp [h.1], fun j y hy => ?_⟩
  by_cases hj : i = j
  · subst hj
    by_cases hl : i < env.length
    · rw [List.getElem?_set_self hl] at hy
      cases hy
      exact ⟨v, by rw [List.getElem?_set_self (by rw [← h.1]; exact hl)], hv⟩
    · rw [List.getElem?_eq_none (by simpa using hl)] at hy; cases hy
  · rw [List.getElem?_set_ne hj] at hy ⊢
    exact h.2 j y hy
def sSet (i : Nat) (f : E) : S := fun env cs => (f env cs).bind fun p => some (.nx, env.set i (some p.1), p.2)
section
variable {X : Cx} {e : Expr} {f : E} {pos : Pos}
theorem set_ok {K : PySem.W.Frag} {i : Nat} {D : Ends} {σ : St} {H : Hp} (h : tS K (sSet i f) D σ H) : tAsg (tE K f) (gName i) D σ H := by
  obtain ⟨r, Z, env, cs, o, env', cs', hs, hr, hf, q⟩ := h
  obtain ⟨⟨p, cs1⟩, h1, hf⟩ := bnd hf
  cases hf
  exact ⟨r, Z, env, cs, p, _, hs, hr, h1, fun r1 Z1 H1 v x1 hs1 hv => q r1 Z1 H1 _ x1 hs1 ((hr.mono x1.pre x1.fz).set i hv)⟩
theorem s_set {st : Stmt} {i : Nat} (h : PS X st (tAsg (tE X.K f) (gName i))) : XS X st (sSet i f) := ps_imp h fun _ _ _ h => set_ok h
/-- name op= e (ints, texts) -/
def sAug (i : Nat) (op : A → A → Cs → Option A) (f : E) : S := fun env cs => match env[i]? with
  | some (some x) => (f env cs).bind fun p => (op x p.1 p.2).bind fun z => some (.nx, env.set i (some z), p.2)
  | _ => none
/-- an in-place operation by values -/
theorem s_aug {st : Stmt} {i : Nat} {t : TIp} {op : A → A → Cs → Option A} (ho : OpF X.K t op) (h : PS X st (tAug i (tE X.K f) t)) : XS X st (sAug i op f) := ps_imp h fun D σ H ⟨r, Z, env, cs, o, env', cs', hs, hr, hf, q⟩ => by
  unfold sAug at hf
  split at hf
  · rename_i x hx
    obtain ⟨⟨p, cs1⟩, h1, hf⟩ := bnd hf
    obtain ⟨z, h2, hf⟩ := bnd hf
    cases hf
    obtain ⟨v, hv1, hv2⟩ := hr.2 i x hx
    refine ⟨v, hv1, r, Z, env, cs, p, _, hs, hr, h1, fun r1 Z1 H1 w x1 hs1 hw => ?_⟩
    exact ho hs1 (hv2.mono x1.pre x1.fz) hw h2 fun r2 Z2 H2 u x2 hs2 hu => q r2 Z2 H2 _ (x1.trans x2) hs2 ((hr.mono (x1.trans x2).pre (x1.trans x2).fz).set i hu)
  · cases hf
end
def oAddI (x y : A) (_ : Cs) : Option A := match x, y with
  | .d (.int i), .d (.int j) => some (.d (.int (i + j)))
  | _, _ => none
theorem fi_add {K : PySem.W.Frag} : OpF K (ipI fun i j => i + j) oAddI := by
  intro r Z H cs x y z u w Q hs hx hy e q
  unfold oAddI at e
  split at e
  · cases e
    exact ⟨_, _, of_int hx, of_int hy, q r Z H _ .refl hs (RD.int _)⟩
  · cases e
theorem fi_sub {K : PySem.W.Frag} : OpF K (ipI fun i j => i - j) oSub := by
  intro r Z H cs x y z u w Q hs hx hy e q
  unfold oSub at e
  split at e
  · cases e
    exact ⟨_, _, of_int hx, of_int hy, q r Z H _ .refl hs (RD.int _)⟩
  · cases e

/-! ### targets: what is stored is data -/
abbrev G := D → Env → Option Env
/-- what a target's reading asks is answered; only the slots of ids change -/
def GF (K : PySem.W.Frag) (t : TG) (g : G) (ids : List Nat) : Prop := ∀ {r : List Addr} {Z H : Hp} {cs : Cs} {x : D} {v : V} {env env1 : Env} {σ : St} {Q : St → Hp → Prop}, RS K r Z H cs → RE K r Z env σ → RD K Z v x → g x env = some env1 →
  (∀ σ1, RE K r Z env1 σ1 → σ1.length = σ.length → (∀ j, j ∉ ids → σ1[j]? = σ[j]?) → Q σ1 H) → t v σ H Q
def gN (i : Nat) : G := fun x env => some (env.set i (some (.d x)))
theorem g_name {K : PySem.W.Frag} {i : Nat} : GF K (gName i) (gN i) [i] := by
  intro r Z H cs x v env env1 σ Q hs hr hx e q
  cases e
  exact q _ (hr.set i hx) (by simp) fun j hj => by rw [List.getElem?_set_ne (by simpa using Ne.symm (by simpa using hj))]
def gsN : List D → List G → Env → Option Env
  | [], [], env => some env
  | x :: xs, g :: gs, env => (g x env).bind fun env1 => gsN xs gs env1
  | _, _, _ => none
/-- several targets -/
def GsF (K : PySem.W.Frag) (t : TGs) (gs : List G) (ids : List Nat) : Prop := ∀ {r : List Addr} {Z H : Hp} {cs : Cs} {xs : List D} {vs : List V} {env env1 : Env} {σ : St} {Q : St → Hp → Prop}, RS K r Z H cs → RE K r Z env σ → RDs K Z vs xs → gsN xs gs env = some env1 →
  (∀ σ1, RE K r Z env1 σ1 → σ1.length = σ.length → (∀ j, j ∉ ids → σ1[j]? = σ[j]?) → Q σ1 H) → t vs σ H Q
theorem gs_nil {K : PySem.W.Frag} : GsF K gNil [] [] := by
  intro r Z H cs xs vs env env1 σ Q hs hr hx e q
  cases hx with
  | nil =>
    cases e
    exact ⟨rfl, q σ hr rfl fun _ _ => rfl⟩
  | cons a b => cases e
theorem gs_cons {K : PySem.W.Frag} {t : TG} {u : TGs} {g : G} {gs : List G} {ids ids' : List Nat} (h : GF K t g ids) (h' : GsF K u gs ids') : GsF K (gCons t u) (g :: gs) (ids ++ ids') := by
  intro r Z H cs xs vs env env1 σ Q hs hr hx e q
  cases hx with
  | nil => cases e
  | cons a b =>
    obtain ⟨env2, h1, e⟩ := bnd e
    refine ⟨_, _, rfl, h hs hr a h1 fun σ1 hr1 l1 k1 => ?_⟩
    exact h' hs hr1 b e fun σ2 hr2 l2 k2 => q σ2 hr2 (l2.trans l1) fun j hj => by
      rw [List.mem_append] at hj
      rw [k2 j (fun z => hj (.inr z)), k1 j (fun z => hj (.inl z))]
/-- (a, b, ..) -/
def gT (n : Nat) (gs : List G) : G := fun x env => match x with
  | .tuple xs => if xs.length = n then gsN xs gs env else none
  | _ => none
theorem g_tup {K : PySem.W.Frag} {n : Nat} {u : TGs} {gs : List G} {ids : List Nat} (h : GsF K u gs ids) : GF K (gTup K n u) (gT n gs) ids := by
  intro r Z H cs x v env env1 σ Q hs hr hx e q
  unfold gT at e
  split at e
  · split at e
    · rename_i hl
      obtain ⟨a, vs, rfl, h1, h2⟩ := seqT_ok (x := .d (.tuple _)) hs hx rfl
      exact ⟨a, vs, rfl, h1, by rw [h2.length]; exact hl, h hs hr h2 e q⟩
    · cases e
  · cases e
/-- a, b = e -/
def sAsg (f : E) (g : G) : S := fun env cs => (f env cs).bind fun p => match p.1 with
  | .d x => (g x env).bind fun env1 => some (.nx, env1, p.2)
  | _ => none
theorem s_asg {X : Cx} {st : Stmt} {f : E} {t : TG} {g : G} {ids : List Nat} (hg : GF X.K t g ids) (h : PS X st (tAsg (tE X.K f) t)) : XS X st (sAsg f g) := ps_imp h fun D σ H ⟨r, Z, env, cs, o, env', cs', hs, hr, hf, q⟩ => by
  obtain ⟨⟨p, cs1⟩, h1, hf⟩ := bnd hf
  refine ⟨r, Z, env, cs, p, cs1, hs, hr, h1, fun r1 Z1 H1 v x1 hs1 hv => ?_⟩
  dsimp only at hf
  split at hf
  · obtain ⟨env1, h2, hf⟩ := bnd hf
    cases hf
    exact hg hs1 (hr.mono x1.pre x1.fz) hv h2 fun σ1 hr1 _ _ => q r1 Z1 H1 σ1 x1 hs1 hr1
  · cases hf
/-- a = b = e -/
def sSet2 (i j : Nat) (f : E) : S := fun env cs => (f env cs).bind fun p => some (.nx, (env.set i (some p.1)).set j (some p.1), p.2)

/-! ### what is walked -/
mutual
def sameD : D → D → Bool
  | .none, .none => true
  | .bool a, .bool b => decide (a = b)
  | .int a, .int b => decide (a = b)
  | .str a, .str b => decide (a = b)
  | .list xs, .list ys => sameDs xs ys
  | .tuple xs, .tuple ys => sameDs xs ys
  | _, _ => false
def sameDs : List D → List D → Bool
  | [], [] => true
  | x :: xs, y :: ys => sameD x y && sameDs xs ys
  | _, _ => false
end
mutual
theorem sameD_ok : ∀ (x y : D), sameD x y = true → x = y
  | .none, y, h => by cases y <;> first | rfl | cases h
  | .bool a, y, h => by
    cases y <;> first | cases h | skip
    rw [of_decide_eq_true h]
  | .int a, y, h => by
    cases y <;> first | cases h | skip
    rw [of_decide_eq_true h]
  | .str a, y, h => by
    cases y <;> first | cases h | skip
    rw [of_decide_eq_true h]
  | .list xs, y, h => by
    cases y <;> first | cases h | skip
    rw [sameDs_ok xs _ h]
  | .tuple xs, y, h => by
    cases y <;> first | cases h | skip
    rw [sameDs_ok xs _ h]
  | .dict _, y, h => by cases y <;> cases h
theorem sameDs_ok : ∀ (xs ys : List D), sameDs xs ys = true → xs = ys
  | [], ys, h => by cases ys <;> first | rfl | cases h
  | x :: xs, ys, h => by
    cases ys with
    | nil => cases h
    | cons y ys =>
      have h : (sameD x y && sameDs xs ys) = true := h
      rw [Bool.and_eq_true] at h
      rw [sameD_ok x y h.1, sameDs_ok xs ys h.2]
end
abbrev Lk := Option (Nat × List D)
def lockOk (lk : Lk) (cs : Cs) : Bool := match lk with
  | none => true
  | some (n, xs) => match lstAt cs n with
    | some ys => sameDs xs ys
    | none => false
/-- what an iterable gives: its items; the cell that must stand meanwhile -/
abbrev I := Env → Cs → Option (List D × Lk × Cs)
structure Yields (K : PySem.W.Frag) (r0 : List Addr) (Z0 : Hp) (J : It) (xs : List D) (lk : Lk) : Prop where
  go : ∀ (i : Nat) (r : List Addr) (Z H : Hp) (cs : Cs), r0 <+: r → Same Z0 Z → RS K r Z H cs → lockOk lk cs = true → i < xs.length → J.go i H
  stop : ∀ (r : List Addr) (Z H : Hp) (cs : Cs), r0 <+: r → Same Z0 Z → RS K r Z H cs → lockOk lk cs = true → J.stop xs.length H
  yld : ∀ (i : Nat) (r : List Addr) (Z H : Hp) (cs : Cs) (v : V) (H' : Hp), r0 <+: r → Same Z0 Z → RS K r Z H cs → lockOk lk cs = true → i < xs.length → J.yld i H v H' →
    ∃ Z' x, Ext r Z H r Z' H' ∧ RS K r Z' H' cs ∧ xs[i]? = some x ∧ RD K Z' v x
def tI (K : PySem.W.Frag) (f : I) : TI := fun σ H R => ∃ r Z env cs xs lk cs', RS K r Z H cs ∧ RE K r Z env σ ∧ f env cs = some (xs, lk, cs') ∧
  ∀ r' Z' H' J, Ext r Z H r' Z' H' → RS K r' Z' H' cs' → Yields K r' Z' J xs lk → R J H'
abbrev XI (X : Cx) (tg e : Expr) (f : I) : Prop := PI X tg e (tI X.K f)
theorem pi_imp {X : Cx} {tg e : Expr} {t u : TI} (h : PI X tg e t) (w : ∀ σ H R, u σ H R → t σ H R) : PI X tg e u := ⟨fun pins s σ H R I q => h.run pins s σ H R I (w σ H R q)⟩
theorem pi_or {X : Cx} {tg e : Expr} {t u : TI} (h : PI X tg e t) (h' : PI X tg e u) : PI X tg e (fun σ H R => t σ H R ∨ u σ H R) := ⟨fun pins s σ H R I q => by
  rcases q with q | q
  · exact h.run pins s σ H R I q
  · exact h'.run pins s σ H R I q⟩
def chars (s : Str) : List D := s.cps.toList.map fun c => .str ⟨#[c]⟩
section
variable {K : PySem.W.Frag} {r : List Addr} {Z H : Hp} {cs : Cs}
/-- a list's items stand at a as long as the lock holds -/
def Stands (K : PySem.W.Frag) (r : List Addr) (Z : Hp) (a : Addr) (xs : List D) (lk : Lk) : Prop := ∀ (Z1 H1 : Hp) (r1 : List Addr) (cs1 : Cs), r <+: r1 → Same Z Z1 → RS K r1 Z1 H1 cs1 → lockOk lk cs1 = true → ∃ vs, SqL K H1 a vs ∧ RDs K Z1 vs xs
theorem stands_fix {xs : List D} {a : Addr} {vs : List V} (h : SqL K Z a vs) (hd : RDs K Z vs xs) : Stands K r Z a xs none := fun Z1 H1 r1 cs1 hp e h1 _ => ⟨vs, same_l h1.fz (same_l e h), RDs.mono e xs vs hd⟩
theorem stands_loc {xs : List D} {a : Addr} {n : Nat} (ha : r[n]? = some a) : Stands K r Z a xs (some (n, xs)) := fun Z1 H1 r1 cs1 hp e h1 lk => by
  unfold lockOk at lk
  dsimp only at lk
  split at lk
  · rename_i ys hy
    have e := sameDs_ok xs ys lk
    subst e
    obtain ⟨vs, q1, q2⟩ := h1.cell n a _ (pre_get hp ha) (lstAt_ok hy)
    exact ⟨vs, .of q1, q2⟩
  · cases lk
theorem y_list {xs : List D} {a : Addr} {lk : Lk} (h : Stands K r Z a xs lk) : Yields K r Z (Itl K a) xs lk := by
  refine ⟨fun i r1 Z1 H1 cs1 hp e h1 lk hi => ?_, fun r1 Z1 H1 cs1 hp e h1 lk => ?_, fun i r1 Z1 H1 cs1 v H' hp e h1 lk hi y => ?_⟩
  · obtain ⟨vs, q1, q2⟩ := h Z1 H1 r1 cs1 hp e h1 lk
    have l := q2.length
    exact ⟨vs, vs[i], q1, by simp [l, hi]⟩
  · obtain ⟨vs, q1, q2⟩ := h Z1 H1 r1 cs1 hp e h1 lk
    have l := q2.length
    exact ⟨vs, q1, by omega⟩
  · obtain ⟨rfl, y⟩ := y
    obtain ⟨vs, q1, q2⟩ := h Z1 _ r1 cs1 hp e h1 lk
    obtain ⟨x, hx1, hx2⟩ := q2.getV (y vs q1)
    exact ⟨Z1, x, .refl, h1, hx1, hx2⟩
/-- a list as what is walked: its items, its lock -/
def src (x : A) (cs : Cs) : Option (List D × Lk) := match x with
  | .loc n => (lstAt cs n).bind fun xs => some (xs, some (n, xs))
  | .d (.list xs) => some (xs, none)
  | .ro xs => some (xs, none)
  | _ => none
theorem src_ok {x : A} {cs : Cs} {v : V} {xs : List D} {lk : Lk} {H : Hp} (hs : RS K r Z H cs) (hv : RA K r Z v x) (e : src x cs = some (xs, lk)) : ∃ a vs, v = .ref a ∧ SqL K H a vs ∧ RDs K Z vs xs ∧ Stands K r Z a xs lk := by
  unfold src at e
  split at e
  · obtain ⟨ys, h2, e⟩ := bnd e
    cases e
    obtain ⟨a, ha, rfl⟩ := hv
    obtain ⟨vs, q1, q2⟩ := hs.cell _ a _ ha (lstAt_ok h2)
    exact ⟨a, vs, rfl, .of q1, q2, stands_loc ha⟩
  · cases e
    have hv : RD K Z v (.list xs) := hv
    cases hv with
    | lst q1 q2 => exact ⟨_, _, rfl, .of (hs.fz _ _ q1), q2, stands_fix (.of q1) q2⟩
  · cases e
    obtain ⟨a, vs, rfl, q1, q2⟩ := hv
    exact ⟨a, vs, rfl, same_l hs.fz q1, q2, stands_fix q1 q2⟩
  · cases e
theorem y_tup {xs : List D} {a : Addr} {vs : List V} (h : SqT K Z a vs) (hd : RDs K Z vs xs) : Yields K r Z (Itt K a) xs none := by
  have ok : ∀ (Z1 H1 : Hp) (r1 : List Addr) (cs1 : Cs), Same Z Z1 → RS K r1 Z1 H1 cs1 → SqT K H1 a vs := fun Z1 H1 r1 cs1 e h1 => same_t h1.fz (same_t e h)
  have l := hd.length
  refine ⟨fun i r1 Z1 H1 cs1 hp e h1 _ hi => ⟨vs, vs[i], ok Z1 H1 r1 cs1 e h1, by simp [l, hi]⟩, fun r1 Z1 H1 cs1 hp e h1 _ => ⟨vs, ok Z1 H1 r1 cs1 e h1, by omega⟩, fun i r1 Z1 H1 cs1 v H' hp e h1 _ hi y => ?_⟩
  obtain ⟨rfl, y⟩ := y
  obtain ⟨x, hx1, hx2⟩ := hd.getV (y vs (ok Z1 _ r1 cs1 e h1))
  exact ⟨Z1, x, .refl, h1, hx1, RD.mono e x v hx2⟩
theorem y_str {s : Str} : Yields K r Z (Its s) (chars s) none := by
  have l : (chars s).length = s.cps.size := by simp [chars]
  refine ⟨fun i r1 Z1 H1 cs1 hp e h1 _ hi => by show i < s.cps.size; rw [← l]; exact hi, fun r1 Z1 H1 cs1 hp e h1 _ => by show s.cps.size ≤ _; rw [l]; exact Nat.le_refl _, fun i r1 Z1 H1 cs1 v H' hp e h1 _ hi y => ?_⟩
  obtain ⟨rfl, c, hc, rfl⟩ := y
  refine ⟨Z1, _, .refl, h1, ?_, RD.str _⟩
  rw [chars, List.getElem?_map]
  have : s.cps.toList[i]? = some c := by rw [← Array.getElem?_toList] at hc; exact hc
  rw [this]; rfl
theorem y_rng {lo : Int} {n : Nat} : Yields K r Z (Itr lo n) ((List.range n).map fun (i : Nat) => PyData.int (lo + (i : Int))) none := by
  have l : ((List.range n).map fun (i : Nat) => PyData.int (lo + (i : Int))).length = n := by simp
  refine ⟨fun i r1 Z1 H1 cs1 hp e h1 _ hi => by rw [l] at hi; exact hi, fun r1 Z1 H1 cs1 hp e h1 _ => by show n ≤ _; rw [l]; exact Nat.le_refl _, fun i r1 Z1 H1 cs1 v H' hp e h1 _ hi y => ?_⟩
  obtain ⟨rfl, rfl⟩ := y
  rw [l] at hi
  exact ⟨Z1, _, .refl, h1, by simp [hi], RD.int _⟩
end
section
variable {X : Cx} {tg e : Expr} {f : E}
def iVal (f : E) : I := fun env cs => (f env cs).bind fun p => match p.1 with
  | .d (.str s) => some (chars s, none, p.2)
  | .d (.tuple xs) => some (xs, none, p.2)
  | x => (src x p.2).bind fun z => some (z.1, z.2, p.2)
theorem xi_val (h : XE X e f) : XI X tg e (iVal f) := pi_imp (pi_or (pi_list h) (pi_or (pi_tup h) (pi_str h))) fun σ H R ⟨r, Z, env, cs, xs, lk, cs', hs, hr, hf, q⟩ => by
  obtain ⟨⟨p, cs1⟩, h1, hf⟩ := bnd hf
  dsimp only at hf
  split at hf
  · cases hf
    refine .inr (.inr ⟨r, Z, env, cs, _, _, hs, hr, h1, fun r1 Z1 H1 v x1 hs1 hv => ⟨_, of_str hv, q r1 Z1 H1 _ x1 hs1 y_str⟩⟩)
  · cases hf
    refine .inr (.inl ⟨r, Z, env, cs, _, _, hs, hr, h1, fun r1 Z1 H1 v x1 hs1 hv => ?_⟩)
    obtain ⟨a, vs, rfl, q1, q2⟩ := seqT_z hv rfl
    exact ⟨a, rfl, ⟨vs, same_t hs1.fz q1⟩, q r1 Z1 H1 _ x1 hs1 (y_tup q1 q2)⟩
  · obtain ⟨⟨ys, lk2⟩, h2, hf⟩ := bnd hf
    cases hf
    refine .inl ⟨r, Z, env, cs, p, _, hs, hr, h1, fun r1 Z1 H1 v x1 hs1 hv => ?_⟩
    obtain ⟨a, vs, rfl, q1, q2, q3⟩ := src_ok hs1 hv h2
    exact ⟨a, rfl, ⟨vs, q1⟩, q r1 Z1 H1 _ x1 hs1 (y_list q3)⟩
def rngD (lo : Int) (n : Nat) : List D := (List.range n).map fun (i : Nat) => PyData.int (lo + (i : Int))
abbrev B62 : Int := 4611686018427387904
def iRange1 (fs : As) : I := fun env cs => (fs env cs).bind fun p => match p.1 with
  | [.d (.int j)] => if -B62 ≤ j ∧ j < B62 then some (rngD 0 j.toNat, none, p.2) else none
  | _ => none
def iRange2 (fs : As) : I := fun env cs => (fs env cs).bind fun p => match p.1 with
  | [.d (.int i), .d (.int j)] => if (-B62 ≤ i ∧ i < B62) ∧ -B62 ≤ j ∧ j < B62 then some (rngD i (j - i).toNat, none, p.2) else none
  | _ => none
end
end Fn
end
section
/-! Fn, part H: ranges, enumerate, zip; for loops; while loops; comprehensions. -/
namespace Fn
open PySem L2

section
variable {X : Cx} {tg e : Expr} {f : E} {fs : As}
theorem xi_range1 (h : PI X tg e (iRng1 (tAs X.K fs))) : XI X tg e (iRange1 fs) := pi_imp h fun σ H R ⟨r, Z, env, cs, xs, lk, cs', hs, hr, hf, q⟩ => by
  obtain ⟨⟨p, cs1⟩, h1, hf⟩ := bnd hf
  refine ⟨r, Z, env, cs, p, cs1, hs, hr, h1, fun r1 Z1 H1 vs x1 hs1 hv => ?_⟩
  dsimp only at hf
  split at hf
  · obtain ⟨⟨h2, h3⟩, hf⟩ := ifs hf
    cases hf
    obtain ⟨u, rfl, hu⟩ := ras1 hv
    rw [of_int hu]
    refine ⟨_, rfl, h2, h3, q r1 Z1 H1 _ x1 hs1 y_rng⟩
  · cases hf
theorem xi_range2 (h : PI X tg e (iRng2 (tAs X.K fs))) : XI X tg e (iRange2 fs) := pi_imp h fun σ H R ⟨r, Z, env, cs, xs, lk, cs', hs, hr, hf, q⟩ => by
  obtain ⟨⟨p, cs1⟩, h1, hf⟩ := bnd hf
  refine ⟨r, Z, env, cs, p, cs1, hs, hr, h1, fun r1 Z1 H1 vs x1 hs1 hv => ?_⟩
  dsimp only at hf
  split at hf
  · obtain ⟨⟨⟨h2, h3⟩, h4, h5⟩, hf⟩ := ifs hf
    cases hf
    obtain ⟨u, w, rfl, hu, hw⟩ := ras2 hv
    rw [of_int hu, of_int hw]
    refine ⟨_, _, rfl, ⟨h2, h3, h4, h5⟩, q r1 Z1 H1 _ x1 hs1 y_rng⟩
  · cases hf
/-- the pairs (place, item) -/
def enumD (xs : List D) : List D := xs.zipIdx.map fun p => .tuple [.int (p.2 : Nat), p.1]
theorem enumD_get {xs : List D} {i : Nat} {x : D} (h : xs[i]? = some x) : (enumD xs)[i]? = some (.tuple [.int (i : Nat), x]) := by
  unfold enumD
  rw [List.getElem?_map, List.getElem?_zipIdx, h]
  simp
theorem enumD_len (xs : List D) : (enumD xs).length = xs.length := by simp [enumD]
def iEnumF (fs : As) : I := fun env cs => (fs env cs).bind fun p => match p.1 with
  | [x] => (src x p.2).bind fun z => some (enumD z.1, z.2, p.2)
  | _ => none
theorem y_enum {K : PySem.W.Frag} {r : List Addr} {Z : Hp} {a : Addr} {xs : List D} {lk : Lk} (h : Stands K r Z a xs lk) : Yields K r Z (Ite K a) (enumD xs) lk := by
  refine ⟨fun i r1 Z1 H1 cs1 hp e h1 lk hi => ?_, fun r1 Z1 H1 cs1 hp e h1 lk => ?_, fun i r1 Z1 H1 cs1 v H' hp e h1 lk hi y => ?_⟩
  · obtain ⟨vs, q1, q2⟩ := h Z1 H1 r1 cs1 hp e h1 lk
    have l := q2.length
    rw [enumD_len] at hi
    exact ⟨vs, vs[i], q1, by simp [l, hi]⟩
  · obtain ⟨vs, q1, q2⟩ := h Z1 H1 r1 cs1 hp e h1 lk
    have l := q2.length
    exact ⟨vs, q1, by rw [enumD_len]; omega⟩
  · obtain ⟨T, x, rfl, hT, rfl, y⟩ := y
    obtain ⟨vs, q1, q2⟩ := h Z1 _ r1 cs1 hp e h1 lk
    obtain ⟨d, hd1, hd2⟩ := q2.getV (y vs q1)
    obtain ⟨f1, f2⟩ := h1.freeze (o := .tup [.int (i : Nat), x]) hT
    exact ⟨_, _, f2, f1, enumD_get hd1, RD.tup (.inl (.inl upd_same)) (.cons (.int _) (.one (RD.mono f2.fz d x hd2)))⟩
theorem xi_enum {tg : Expr} (h : PI X tg e (iEnum X.K (tAs X.K fs))) : XI X tg e (iEnumF fs) := pi_imp h fun σ H R ⟨r, Z, env, cs, xs, lk, cs', hs, hr, hf, q⟩ => by
  obtain ⟨⟨p, cs1⟩, h1, hf⟩ := bnd hf
  refine ⟨r, Z, env, cs, p, cs1, hs, hr, h1, fun r1 Z1 H1 vs x1 hs1 hv => ?_⟩
  dsimp only at hf
  split at hf
  · obtain ⟨⟨ys, lk2⟩, h2, hf⟩ := bnd hf
    cases hf
    obtain ⟨u, rfl, hu⟩ := ras1 hv
    obtain ⟨a, vs, rfl, q1, q2, q3⟩ := src_ok hs1 hu h2
    exact ⟨a, vs, rfl, q1, q r1 Z1 H1 _ x1 hs1 (y_enum q3)⟩
  · cases hf
/-- two lists in pairs -/
def zipD (xs ys : List D) : List D := (xs.zip ys).map fun p => .tuple [p.1, p.2]
end

/-! ### for -/
def forL (lk : Lk) (g : G) (body : S) : List D → S
  | [], env, cs => if lockOk lk cs = true then some (.nx, env, cs) else none
  | x :: xs, env, cs => if lockOk lk cs = true then (g x env).bind fun env1 => (body env1 cs).bind fun p => match p.1 with
      | .nx => forL lk g body xs p.2.1 p.2.2
      | .ct => forL lk g body xs p.2.1 p.2.2
      | .bk => some (.nx, p.2.1, p.2.2)
      | .rt v => some (.rt v, p.2.1, p.2.2)
    else none
def sFor (it : I) (g : G) (body : S) : S := fun env cs => (it env cs).bind fun p => forL p.2.1 g body p.1 env p.2.2
theorem s_for {X : Cx} {tg iter : Expr} {body : List Stmt} {pos : Pos} {it : I} {t : TG} {g : G} {ids : List Nat} {fb : S} (hc : X.calm = true) (hp : PassesOwn (model X.prog X.w) X.A X.env X.xe) (hi : XI X tg iter it) (hg : PG X tg t) (hG : GF X.K t g ids) (hb : XSs X body fb)
    (hs : ∀ x, foldedSetIterable iter X.env x = pure x := by intro _; rfl) : XS X (.For tg iter body [] pos) (sFor it g fb) := ps_imp (ps_for hp hc hi hg hb hs) fun D σ0 H0 ⟨r, Z, env, cs, o, env', cs', hs, hr, hf, q⟩ => by
  obtain ⟨⟨xs, lk, cs1⟩, h1, hf⟩ := bnd hf
  refine ⟨r, Z, env, cs, xs, lk, cs1, hs, hr, h1, fun r0 Z0 H1 J x0 hs0 y => ?_⟩
  refine ⟨fun i m σ H => m = xs.length - i ∧ i ≤ xs.length ∧ ∃ r1 Z1 env1 cs2, Ext r0 Z0 H1 r1 Z1 H ∧ RS X.K r1 Z1 H cs2 ∧ RE X.K r1 Z1 env1 σ ∧ forL lk g fb (xs.drop i) env1 cs2 = some (o, env', cs'),
    ⟨xs.length, by simp, Nat.zero_le _, r0, Z0, env, cs1, .refl, hs0, hr.mono x0.pre x0.fz, hf⟩, ?_⟩
  rintro i m σ H ⟨rfl, hi, r1, Z1, env1, cs2, x1, hs1, hr1, hf1⟩
  by_cases hlt : i < xs.length
  · rw [List.drop_eq_getElem_cons hlt] at hf1
    unfold forL at hf1
    split at hf1
    · rename_i hl
      obtain ⟨env2, h2, hf1⟩ := bnd hf1
      obtain ⟨⟨o3, env3, cs3⟩, h3, hf1⟩ := bnd hf1
      refine .inr ⟨y.go i r1 Z1 H cs2 x1.pre x1.fz hs1 hl hlt, fun σ' H' => ∃ r2 Z2 env4 cs4, Ext r0 Z0 H1 r2 Z2 H' ∧ RS X.K r2 Z2 H' cs4 ∧ RE X.K r2 Z2 env4 σ' ∧ forL lk g fb (xs.drop (i + 1)) env4 cs4 = some (o, env', cs'),
        fun σ' H' p => ⟨xs.length - (i + 1), by omega, rfl, hlt, p⟩, fun v H' hv => ?_⟩
      obtain ⟨Z2, x, x2, hs2, hx1, hx2⟩ := y.yld i r1 Z1 H cs2 v H' x1.pre x1.fz hs1 hl hlt hv
      have ex : x = xs[i] := by rw [List.getElem?_eq_getElem hlt] at hx1; exact (Option.some.inj hx1).symm
      subst ex
      refine hG hs2 (hr1.mono x2.pre x2.fz) hx2 h2 fun σ2 hr2 _ _ => ?_
      refine ⟨r1, Z2, env2, cs2, o3, env3, cs3, hs2, hr2, h3, fun r3 Z3 H3 σ3 x3 hs3 hr3 => ?_⟩
      have xx := (x1.trans x2).trans x3
      cases o3 with
      | nx => exact ⟨r3, Z3, env3, cs3, xx, hs3, hr3, hf1⟩
      | ct => exact ⟨r3, Z3, env3, cs3, xx, hs3, hr3, hf1⟩
      | bk =>
        cases hf1
        exact q r3 Z3 H3 σ3 (x0.trans xx) hs3 hr3
      | rt v =>
        cases hf1
        exact q r3 Z3 H3 σ3 (x0.trans xx) hs3 hr3
    · cases hf1
  · have e : i = xs.length := by omega
    subst e
    rw [List.drop_length] at hf1
    unfold forL at hf1
    obtain ⟨hl, hf1⟩ := ifs hf1
    cases hf1
    exact .inl ⟨y.stop r1 Z1 H _ x1.pre x1.fz hs1 hl, q r1 Z1 H σ (x0.trans x1) hs1 hr1⟩

/-! ### while: at most so many turns -/
def whileN (t : T) (body : S) : Nat → S
  | 0, _, _ => none
  | n + 1, env, cs => (t env cs).bind fun b => if b.1 = true then (body env b.2).bind fun p => match p.1 with
      | .nx => whileN t body n p.2.1 p.2.2
      | .ct => whileN t body n p.2.1 p.2.2
      | .bk => some (.nx, p.2.1, p.2.2)
      | .rt v => some (.rt v, p.2.1, p.2.2)
    else some (.nx, env, b.2)
/-- the bound is read off the state -/
def sWhile (k : Env → Cs → Nat) (t : T) (body : S) : S := fun env cs => whileN t body (k env cs) env cs
theorem s_while {X : Cx} {c : Expr} {body : List Stmt} {pos : Pos} {t : T} {fb : S} {k : Env → Cs → Nat} (hp : PassesOwn (model X.prog X.w) X.A X.env X.xe) (hc : XT X c t) (hb : XSs X body fb) : XS X (.While c body [] pos) (sWhile k t fb) :=
  ps_imp (ps_while hp hc hb) fun D σ0 H0 ⟨r, Z, env, cs, o, env', cs', hs, hr, hf, q⟩ => by
  refine ⟨fun m σ H => ∃ r1 Z1 env1 cs1, Ext r Z H0 r1 Z1 H ∧ RS X.K r1 Z1 H cs1 ∧ RE X.K r1 Z1 env1 σ ∧ whileN t fb m env1 cs1 = some (o, env', cs'), ⟨k env cs, r, Z, env, cs, .refl, hs, hr, hf⟩, ?_⟩
  rintro m σ H ⟨r1, Z1, env1, cs1, x1, hs1, hr1, hf1⟩
  cases m with
  | zero => cases hf1
  | succ m =>
    unfold whileN at hf1
    obtain ⟨⟨b, cs2⟩, h1, hf1⟩ := bnd hf1
    refine ⟨r1, Z1, env1, cs1, b, cs2, hs1, hr1, h1, fun r2 Z2 H2 x2 hs2 => ?_⟩
    cases b with
    | true =>
      refine iteT ?_
      dsimp only at hf1
      rw [if_pos rfl] at hf1
      obtain ⟨⟨o3, env3, cs3⟩, h3, hf1⟩ := bnd hf1
      refine ⟨fun σ' H' => ∃ r1 Z1 env1 cs1, Ext r Z H0 r1 Z1 H' ∧ RS X.K r1 Z1 H' cs1 ∧ RE X.K r1 Z1 env1 σ' ∧ whileN t fb m env1 cs1 = some (o, env', cs'), fun σ' H' p => ⟨m, Nat.lt_succ_self m, p⟩, ?_⟩
      refine ⟨r2, Z2, env1, cs2, o3, env3, cs3, hs2, hr1.mono x2.pre x2.fz, h3, fun r3 Z3 H3 σ3 x3 hs3 hr3 => ?_⟩
      have xx := (x1.trans x2).trans x3
      cases o3 with
      | nx => exact ⟨r3, Z3, env3, cs3, xx, hs3, hr3, hf1⟩
      | ct => exact ⟨r3, Z3, env3, cs3, xx, hs3, hr3, hf1⟩
      | bk =>
        cases hf1
        exact q r3 Z3 H3 σ3 xx hs3 hr3
      | rt v =>
        cases hf1
        exact q r3 Z3 H3 σ3 xx hs3 hr3
    | false =>
      dsimp only at hf1
      rw [if_neg Bool.false_ne_true] at hf1
      cases hf1
      exact q r2 Z2 H2 σ (x1.trans x2) hs2 (hr1.mono x2.pre x2.fz)

/-! ### comprehensions -/
def wipeE (env : Env) : List Nat → Env
  | [] => env
  | v :: vs => (wipeE env vs).set v none
def compM (lk : Lk) (own : List Nat) (g : G) (t : T) (elt : E) (env : Env) : List D → Cs → Option (List D × Cs)
  | [], cs => if lockOk lk cs = true then some ([], cs) else none
  | x :: xs, cs => if lockOk lk cs = true then (g x (wipeE env own)).bind fun env1 => (t env1 cs).bind fun b =>
      if b.1 = true then (elt env1 b.2).bind fun y => match y.1 with
        | .d z => (compM lk own g t elt env xs y.2).bind fun p => some (z :: p.1, p.2)
        | _ => none
      else compM lk own g t elt env xs b.2
    else none
def fComp (own : List Nat) (it : I) (g : G) (t : T) (elt : E) : F := fun env cs => (it env cs).bind fun p => if p.1.length ≤ sizeLine then compM p.2.1 own g t elt env p.1 p.2.2 else none
def era (H : Hp) (p : Addr) : Hp := fun b => if b = p then none else H b
theorem era_ne {H : Hp} {p b : Addr} (h : b ≠ p) : era H p b = H b := if_neg h
theorem era_self {H : Hp} {p : Addr} : era H p p = none := if_pos rfl
theorem era_upd {H : Hp} {p : Addr} {o : HO} (h : H p = none) : era (upd H p o) p = H := by
  funext b
  by_cases hb : b = p
  · subst hb; rw [era_self, h]
  · rw [era_ne hb, upd_ne hb]
theorem upd_era {H : Hp} {p : Addr} {o : HO} (h : H p = some o) : upd (era H p) p o = H := by
  funext b
  by_cases hb : b = p
  · subst hb; rw [upd_same, h]
  · rw [upd_ne hb, era_ne hb]
theorem wipeE_len (env : Env) : ∀ vs, (wipeE env vs).length = env.length
  | [] => rfl
  | v :: vs => by unfold wipeE; rw [List.length_set, wipeE_len env vs]
theorem wipeE_some {env : Env} {i : Nat} {x : A} : ∀ {vs : List Nat}, (wipeE env vs)[i]? = some (some x) → env[i]? = some (some x) ∧ i ∉ vs
  | [], h => ⟨h, by simp⟩
  | v :: vs, h => by
    unfold wipeE at h
    by_cases hi : v = i
    · subst hi
      by_cases hv : v < (wipeE env vs).length
      · rw [List.getElem?_set_self hv] at h; cases h
      · rw [List.getElem?_eq_none (by simpa using hv)] at h; cases h
    · rw [List.getElem?_set_ne hi] at h
      obtain ⟨h1, h2⟩ := wipeE_some h
      exact ⟨h1, by simp only [List.mem_cons, not_or]; exact ⟨Ne.symm hi, h2⟩⟩
theorem wipe_keep {σ : St} {i : Nat} : ∀ {vs : List Nat}, i ∉ vs → (wipe σ vs)[i]? = σ[i]?
  | [], _ => rfl
  | v :: vs, h => by
    simp only [List.mem_cons, not_or] at h
    unfold wipe
    rw [List.getElem?_set_ne (Ne.symm h.1), wipe_keep h.2]
theorem RE.wipe {K : PySem.W.Frag} {r : List Addr} {Z : Hp} {env : Env} {σ : St} (own : List Nat) (h : RE K r Z env σ) : RE K r Z (wipeE env own) (wipe σ own) := by
  refine ⟨by rw [wipeE_len, wipe_length, h.1], fun i x hx => ?_⟩
  obtain ⟨h1, h2⟩ := wipeE_some hx
  obtain ⟨v, h3, h4⟩ := h.2 i x h1
  exact ⟨v, by rw [wipe_keep h2]; exact h3, h4⟩
theorem wipe_none {σ : St} {i : Nat} (hi : i < σ.length) : ∀ {vs : List Nat}, i ∈ vs → (wipe σ vs)[i]? = some none
  | v :: vs, h => by
    unfold wipe
    by_cases hv : v = i
    · subst hv
      rw [List.getElem?_set_self (by rw [wipe_length]; exact hi)]
    · rw [List.getElem?_set_ne hv]
      exact wipe_none hi ((List.mem_cons.mp h).resolve_left (Ne.symm hv))
theorem wipe_eq {σ σ2 : St} {own ids : List Nat} (hl : σ2.length = (wipe σ own).length) (hk : ∀ j, j ∉ ids → σ2[j]? = (wipe σ own)[j]?) (hi : ∀ j ∈ ids, j ∈ own) : wipe σ2 own = wipe σ own := by
  rw [wipe_length] at hl
  apply List.ext_getElem?
  intro j
  by_cases hj : j ∈ own
  · by_cases h : j < σ.length
    · rw [wipe_none h hj, wipe_none (by omega) hj]
    · rw [List.getElem?_eq_none (by rw [wipe_length]; omega), List.getElem?_eq_none (by rw [wipe_length]; omega)]
  · rw [wipe_keep hj, hk j (fun z => hj (hi j z))]
/-- an object beside: neither cell nor frozen -/
theorem RS.side {K : PySem.W.Frag} {r : List Addr} {Z H : Hp} {cs : Cs} {p : Addr} {o : HO} (h : RS K r Z (era H p) cs) (hp : H p = some o) (hr : p ∉ r) (hz : Z p = none) : RS K r Z H cs :=
  ⟨fun b u q => by
    have := h.fz b u q
    by_cases hb : b = p
    · subst hb; rw [era_self] at this; cases this
    · rw [era_ne hb] at this; exact this, h.len, h.nd, h.off, fun i a c h1 h2 => by
    have ha : a ≠ p := fun e => hr (e ▸ mem_of_ix h1)
    exact (h.cell i a c h1 h2).mono List.prefix_rfl (Same.refl _) fun u q => by rw [era_ne ha] at q; exact q⟩
theorem RS.unside {K : PySem.W.Frag} {r : List Addr} {Z H : Hp} {cs : Cs} {p : Addr} (h : RS K r Z H cs) (hr : p ∉ r) (hz : Z p = none) : RS K r Z (era H p) cs :=
  ⟨fun b u q => by
    by_cases hb : b = p
    · subst hb; rw [hz] at q; cases q
    · rw [era_ne hb]; exact h.fz b u q, h.len, h.nd, h.off, fun i a c h1 h2 => by
    have ha : a ≠ p := fun e => hr (e ▸ mem_of_ix h1)
    exact (h.cell i a c h1 h2).mono List.prefix_rfl (Same.refl _) fun u q => by rw [era_ne ha]; exact q⟩
theorem Ext.side {r r' : List Addr} {Z Z' H H' : Hp} {p : Addr} (x : Ext r Z H r' Z' H') : Ext r Z (era H p) r' Z' (era H' p) where
  pre := x.pre
  fz := x.fz
  keep := fun b o h n => by
    by_cases hb : b = p
    · subst hb; rw [era_self] at h; cases h
    · rw [era_ne hb] at h ⊢; exact x.keep b o h n
  new := fun b h => by
    by_cases hb : b = p
    · subst hb; exact .inr era_self
    · rw [era_ne hb]; exact x.new b h
  fnew := fun b o h => by
    by_cases hb : b = p
    · subst hb; exact .inr era_self
    · rw [era_ne hb]; exact x.fnew b o h
  dom := fun b h => by
    by_cases hb : b = p
    · subst hb; exact era_self
    · rw [era_ne hb] at h ⊢; exact x.dom b h
def tTrue : T := fun _ cs => some (true, cs)
theorem ts_nil {K : PySem.W.Frag} {σ : St} {H : Hp} {Q : Bool → Hp → Prop} (h : tT K tTrue σ H Q) : tYes σ H Q := by
  obtain ⟨r, Z, env, cs, b, cs', hs, hr, hf, q⟩ := h
  cases hf
  exact q r Z H .refl hs
abbrev XTs (X : Cx) (ifs : List Expr) (t : T) : Prop := PTs X ifs (tT X.K t)
theorem xts_nil {X : Cx} : XTs X [] tTrue := ⟨fun pins s σ H Q I h => pts_nil.run pins s σ H Q I (ts_nil h)⟩
theorem xts_one {X : Cx} {c : Expr} {t : T} (h : XT X c t) : XTs X [c] t := pts_one h
theorem comp_ok {K : PySem.W.Frag} {it : I} {tg : TG} {g : G} {ids own : List Nat} {t : T} {elt : E} (hG : GF K tg g ids) (hi : ∀ j ∈ ids, j ∈ own) {σ0 : St} {H0 : Hp} {Q : VK} (h : tF K (fComp own it g t elt) σ0 H0 Q) :
    tLc (tI K it) tg (tT K t) (tE K elt) own σ0 H0 Q := by
  obtain ⟨r, Z, env, cs, ds, cs', hs, hr, hf, q⟩ := h
  obtain ⟨⟨xs, lk, cs1⟩, h1, hf⟩ := bnd hf
  dsimp only at hf
  split at hf
  case isFalse => cases hf
  rename_i hz
  refine ⟨r, Z, env, cs, xs, lk, cs1, hs, hr, h1, fun r0 Z0 H1 J x0 hs0 y D hD => ?_⟩
  have hD0 : D ∉ r0 := fun hm => by
    obtain ⟨u, hu⟩ := hs0.there hm
    rw [hD] at hu; cases hu
  have hDz : Z0 D = none := hs0.fz.free hD
  refine ⟨fun i m H => m = xs.length - i ∧ i ≤ xs.length ∧ ∃ r1 Z1 cs2 vs acc ys, Ext r0 Z0 H1 r1 Z1 (era H D) ∧ RS K r1 Z1 (era H D) cs2 ∧ D ∉ r1 ∧ Z1 D = none ∧ H D = some (.lst vs) ∧ RDs K Z1 vs acc ∧ acc.length ≤ i ∧
      compM lk own g t elt env (xs.drop i) cs2 = some (ys, cs') ∧ acc ++ ys = ds,
    ⟨xs.length, by simp, Nat.zero_le _, r0, Z0, cs1, [], [], ds, ?_, ?_, hD0, hDz, upd_same, .nil, Nat.le_refl _, hf, rfl⟩, ?_⟩
  · rw [era_upd hD]; exact .refl
  · rw [era_upd hD]; exact hs0
  rintro i m H ⟨rfl, hil, r1, Z1, cs2, vs, acc, ys, x1, hs1, hd1, hz1, hv, hac, hal, hf1, hds⟩
  have hsd := hs1.side hv hd1 hz1
  by_cases hlt : i < xs.length
  · rw [List.drop_eq_getElem_cons hlt] at hf1
    unfold compM at hf1
    split at hf1
    case isFalse => cases hf1
    rename_i hl
    obtain ⟨env2, h2, hf1⟩ := bnd hf1
    obtain ⟨⟨b, cs3⟩, h3, hf1⟩ := bnd hf1
    refine .inr ⟨y.go i r1 Z1 H cs2 x1.pre x1.fz hsd hl hlt, fun H' => ∃ r1 Z1 cs2 vs acc ys, Ext r0 Z0 H1 r1 Z1 (era H' D) ∧ RS K r1 Z1 (era H' D) cs2 ∧ D ∉ r1 ∧ Z1 D = none ∧ H' D = some (.lst vs) ∧ RDs K Z1 vs acc ∧ acc.length ≤ i + 1 ∧
      compM lk own g t elt env (xs.drop (i + 1)) cs2 = some (ys, cs') ∧ acc ++ ys = ds, fun H' p => ⟨xs.length - (i + 1), by omega, rfl, hlt, p⟩, fun v H' hy => ?_⟩
    obtain ⟨Z2, x, x2, hs2, hx1, hx2⟩ := y.yld i r1 Z1 H cs2 v H' x1.pre x1.fz hsd hl hlt hy
    have ex : x = xs[i] := by rw [List.getElem?_eq_getElem hlt] at hx1; exact (Option.some.inj hx1).symm
    subst ex
    have hv2 : H' D = some (.lst vs) := x2.keep D _ hv hd1
    refine hG hs2 (((hr.mono x0.pre x0.fz).mono x1.pre x1.fz).mono x2.pre x2.fz |>.wipe own) hx2 h2 fun σ2 hr2 l2 k2 => ?_
    refine ⟨wipe_eq l2 k2 hi, r1, Z2, env2, cs2, b, cs3, hs2, hr2, h3, fun r3 Z3 H3 x3 hs3 => ?_⟩
    have x23 := x2.trans x3
    have hv3 : H3 D = some (.lst vs) := x23.keep D _ hv hd1
    have hd3 : D ∉ r3 := fun hm => by
      rcases x23.new D hm with z | z
      · exact hd1 z
      · rw [hv] at z; cases z
    have hz3 : Z3 D = none := by
      cases e : Z3 D with
      | none => rfl
      | some o =>
        rcases x23.fnew D o e with z | z
        · rw [hz1] at z; cases z
        · rw [hv] at z; cases z
    cases b with
    | true =>
      refine iteT ?_
      dsimp only at hf1
      rw [if_pos rfl] at hf1
      obtain ⟨⟨w, cs4⟩, h4, hf1⟩ := bnd hf1
      refine ⟨r3, Z3, env2, cs3, w, cs4, hs3, hr2.mono x3.pre x3.fz, h4, fun r4 Z4 H4 u x4 hs4 hu => ?_⟩
      dsimp only at hf1
      split at hf1
      · rename_i z
        obtain ⟨⟨ys', cs5⟩, h5, hf1⟩ := bnd hf1
        cases hf1
        have hv4 : H4 D = some (.lst vs) := x4.keep D _ hv3 hd3
        have x24 := x23.trans x4
        have hd4 : D ∉ r4 := fun hm => by
          rcases x4.new D hm with z | z
          · exact hd3 z
          · rw [hv3] at z; cases z
        have hz4 : Z4 D = none := by
          cases e : Z4 D with
          | none => rfl
          | some o =>
            rcases x4.fnew D o e with z | z
            · rw [hz3] at z; cases z
            · rw [hv3] at z; cases z
        have la := hac.length
        have ee : era (upd H4 D (.lst (vs ++ [u]))) D = era H4 D := by
          funext c
          by_cases hc : c = D
          · subst hc; rw [era_self, era_self]
          · rw [era_ne hc, era_ne hc, upd_ne hc]
        refine ⟨vs, hv4, by omega, r4, Z4, cs4, vs ++ [u], acc ++ [_], ys', ?_, ?_, hd4, hz4, upd_same, (RDs.mono x24.fz acc vs hac).append (.one hu), by simp; omega, h5, by rw [← hds]; simp⟩
        · rw [ee]; exact x1.trans x24.side
        · rw [ee]; exact hs4.unside hd4 hz4
      · cases hf1
    | false =>
      refine iteF ?_
      dsimp only at hf1
      rw [if_neg Bool.false_ne_true] at hf1
      exact ⟨r3, Z3, cs3, vs, acc, ys, x1.trans x23.side, hs3.unside hd3 hz3, hd3, hz3, hv3, RDs.mono x23.fz acc vs hac, by omega, hf1, hds⟩
  · have e : i = xs.length := by omega
    subst e
    rw [List.drop_length] at hf1
    unfold compM at hf1
    obtain ⟨hl, hf1⟩ := ifs hf1
    cases hf1
    rw [List.append_nil] at hds
    subst hds
    refine .inl ⟨y.stop r1 Z1 H cs' x1.pre x1.fz hsd hl, ?_⟩
    have := q r1 Z1 (era H D) D vs (x0.trans x1) hs1 era_self hac
    rw [upd_era hv] at this
    exact this
section
variable {X : Cx} {elt tg iter : Expr} {ifs : List Expr} {scope : Scope} {own : List (Str × Nat)} {pos : Pos} {it : I} {t0 : TG} {g : G} {ids : List Nat} {t : T} {fe : E}
theorem xf_comp (hc : X.calm = true) (hN : X.N.Nodup) (hi : XI X tg iter it) (ok : BlkOk X.N X.env.scope scope own) (hG : GF X.K t0 g ids) (hids : ∀ j ∈ ids, j ∈ own.map (·.2))
    (hg : ∀ (s : Shared) (H : Hp) (C : Addr) (cl : List (Str × Addr)) (fp : List Addr), PG (X.blk s H scope (compEnvC scope cl C X.env) fp) tg t0) (ht : ∀ (s : Shared) (H : Hp) (C : Addr) (cl : List (Str × Addr)) (fp : List Addr), XTs (X.blk s H scope (compEnvC scope cl C X.env) fp) ifs t)
    (he : ∀ (s : Shared) (H : Hp) (C : Addr) (cl : List (Str × Addr)) (fp : List Addr), XE (X.blk s H scope (compEnvC scope cl C X.env) fp) elt fe) (hs : ∀ x, foldedSetIterable iter X.env x = pure x := by intro _; rfl) :
    XF X (.ListComp elt [⟨tg, iter, ifs, 0⟩] scope pos) (fComp (own.map (·.2)) it g t fe) := pe_imp (pe_lc hc hN hi ok hg ht he hs) fun _ _ _ h => comp_ok hG hids h
end
end Fn
end
section
/-! Fn, part I: dicts, built-in methods. -/
namespace Fn
open PySem L2

/-! ### pairs -/
def valA {κ : Type} [DecidableEq κ] (kvs : List (κ × A)) (k : κ) : Option A := (kvs.find? fun kv => decide (kv.1 = k)).map (·.2)
def putA {κ : Type} [DecidableEq κ] (kvs : List (κ × A)) (k : κ) (v : A) : List (κ × A) :=
  if (kvs.any fun kv => decide (kv.1 = k)) = true then kvs.map (fun kv => if kv.1 = k then (kv.1, v) else kv) else kvs ++ [(k, v)]
def keyOf : A → Option Key
  | .d (.int i) => some (.inl i)
  | .d (.str s) => some (.inr s)
  | _ => none
def dctAt (x : A) (cs : Cs) : Option (List (Key × A)) := match x with
  | .loc n => match cs[n]? with
    | some (.dct kvs) => some kvs
    | _ => none
  | _ => none
section
variable {K : PySem.W.Frag} {r : List Addr} {Z H : Hp} {cs : Cs}
theorem RP.length {κ : Type} : ∀ {vs : List (κ × V)} {xs : List (κ × A)}, RP K r Z vs xs → vs.length = xs.length
  | _, _, .nil => rfl
  | _, _, .cons _ t => congrArg Nat.succ (RP.length t)
theorem RP.append {κ : Type} : ∀ {vs ws : List (κ × V)} {xs ys : List (κ × A)}, RP K r Z vs xs → RP K r Z ws ys → RP K r Z (vs ++ ws) (xs ++ ys)
  | _, _, _, _, .nil, h => h
  | _, _, _, _, .cons a t, h => .cons a (RP.append t h)
theorem RP.val {κ : Type} [DecidableEq κ] (k : κ) : ∀ {vs : List (κ × V)} {xs : List (κ × A)}, RP K r Z vs xs → (valA xs k = none → valV vs k = none) ∧ ∀ x, valA xs k = some x → ∃ v, valV vs k = some v ∧ RA K r Z v x
  | _, _, .nil => ⟨fun _ => rfl, fun x h => by cases h⟩
  | _, _, .cons (k := k') (v := v) (vs := vs) (x := x) (xs := xs) a t => by
    have ih := RP.val k t
    by_cases h : k' = k
    · subst h
      have e1 : valA ((k', x) :: xs) k' = some x := by unfold valA; simp
      have e2 : valV ((k', v) :: vs) k' = some v := by unfold valV; simp
      rw [e1, e2]
      exact ⟨fun q => (by cases q), fun y q => ⟨v, rfl, by cases q; exact a⟩⟩
    · have e1 : valA ((k', x) :: xs) k = valA xs k := by unfold valA; simp [List.find?_cons, h]
      have e2 : valV ((k', v) :: vs) k = valV vs k := by unfold valV; simp [List.find?_cons, h]
      rw [e1, e2]
      exact ih
theorem RP.any {κ : Type} [DecidableEq κ] (k : κ) : ∀ {vs : List (κ × V)} {xs : List (κ × A)}, RP K r Z vs xs → (vs.any fun kv => decide (kv.1 = k)) = xs.any fun kv => decide (kv.1 = k)
  | _, _, .nil => rfl
  | _, _, .cons a t => by simp only [List.any_cons]; rw [RP.any k t]
theorem RP.mapk {κ : Type} [DecidableEq κ] (k : κ) {v : V} {x : A} (h : RA K r Z v x) : ∀ {vs : List (κ × V)} {xs : List (κ × A)}, RP K r Z vs xs → RP K r Z (vs.map fun kv => if kv.1 = k then (kv.1, v) else kv) (xs.map fun kv => if kv.1 = k then (kv.1, x) else kv)
  | _, _, .nil => .nil
  | _, _, .cons (k := k') a t => by
    simp only [List.map_cons]
    by_cases e : k' = k
    · rw [if_pos e, if_pos e]; exact .cons h (RP.mapk k h t)
    · rw [if_neg e, if_neg e]; exact .cons a (RP.mapk k h t)
theorem RP.put {κ : Type} [DecidableEq κ] {k : κ} {v : V} {x : A} {vs : List (κ × V)} {xs : List (κ × A)} (t : RP K r Z vs xs) (h : RA K r Z v x) : RP K r Z (putK vs k v) (putA xs k x) := by
  unfold putK putA
  rw [t.any k]
  split
  · exact t.mapk k h
  · exact t.append (.cons h .nil)
theorem key_ok {x : A} {v : V} {k : Key} (hx : RA K r Z v x) (e : keyOf x = some k) : v = kV k := by
  unfold keyOf at e
  split at e
  · cases e; exact of_int hx
  · cases e; exact of_str hx
  · cases e
theorem dct_ok {x : A} {v : V} {kvs : List (Key × A)} (hs : RS K r Z H cs) (hx : RA K r Z v x) (e : dctAt x cs = some kvs) : ∃ n a vs, x = .loc n ∧ cs[n]? = some (.dct kvs) ∧ r[n]? = some a ∧ v = .ref a ∧ H a = some (.dK vs) ∧ RP K r Z vs kvs := by
  unfold dctAt at e
  split at e
  · rename_i n
    split at e
    · rename_i hc
      cases e
      obtain ⟨a, ha, rfl⟩ := hx
      obtain ⟨vs, h1, h2⟩ := hs.cell n a _ ha hc
      exact ⟨n, a, vs, rfl, hc, ha, rfl, h1, h2⟩
    · cases e
  · cases e
end
section
variable {X : Cx} {e e2 : Expr} {pos : Pos} {f g h : E}
/-- d[k] -/
def eDget (f g : E) : E := fun env cs => (f env cs).bind fun p => (g env p.2).bind fun q => (dctAt p.1 q.2).bind fun kvs => (keyOf q.1).bind fun k => (valA kvs k).bind fun z => some (z, q.2)
theorem x_dget (hu : X.A.units + 1 < cLine) (ha : XE X e f) (hb : XE X e2 g) (hs : NoSl e2) : XE X (.Subscript e e2 pos) (eDget f g) := pe_imp (pe_dget hu ha hb hs) fun σ H Q ⟨r, Z, env, cs, y, cs', hs, hr, hf, q⟩ => by
  obtain ⟨⟨p, cs1⟩, h1, hf⟩ := bnd hf
  obtain ⟨⟨p2, cs2⟩, h2, hf⟩ := bnd hf
  obtain ⟨kvs, h3, hf⟩ := bnd hf
  obtain ⟨k, h4, hf⟩ := bnd hf
  obtain ⟨z, h5, hf⟩ := bnd hf
  cases hf
  refine ⟨r, Z, env, cs, p, cs1, hs, hr, h1, fun r1 Z1 H1 v x1 hs1 hv => ?_⟩
  refine ⟨r1, Z1, env, cs1, p2, _, hs1, hr.mono x1.pre x1.fz, h2, fun r2 Z2 H2 w x2 hs2 hw => ?_⟩
  obtain ⟨n, a, vs, _, _, ha, rfl, q1, q2⟩ := dct_ok hs2 (hv.mono x2.pre x2.fz) h3
  obtain ⟨u, hu1, hu2⟩ := (q2.val k).2 _ h5
  rw [key_ok hw h4]
  exact ⟨a, u, rfl, by rw [← hu1]; exact .k q1, q r2 Z2 H2 u (x1.trans x2) hs2 hu2⟩
/-- k in d, k not in d -/
def eDin (neg : Bool) (g f : E) : E := fun env cs => (g env cs).bind fun p => (f env p.2).bind fun q => (dctAt q.1 q.2).bind fun kvs => (keyOf p.1).bind fun k => some (.d (.bool (if neg then !(valA kvs k).isSome else (valA kvs k).isSome)), q.2)
theorem din_ok {K : PySem.W.Frag} {r : List Addr} {Z H : Hp} {a : Addr} {vs : List (Key × V)} {kvs : List (Key × A)} {k : Key} (h1 : H a = some (.dK vs)) (h2 : RP K r Z vs kvs) : ∃ o, DGet H a (kV k) o ∧ o.isSome = (valA kvs k).isSome := by
  refine ⟨valV vs k, .k h1, ?_⟩
  cases e : valA kvs k with
  | none => rw [(h2.val k).1 e]; rfl
  | some x =>
    obtain ⟨u, hu, _⟩ := (h2.val k).2 x e
    rw [hu]; rfl
theorem x_din (hu : X.A.units + 1 < cLine) (hb : XE X e2 g) (ha : XE X e f) (hm : behindInMarks .In e = false := by rfl) : XE X (.Compare e2 [.In] [e] pos) (eDin false g f) := pe_imp (pe_cmp (pc_din hu hb ha) hm) fun σ H Q ⟨r, Z, env, cs, y, cs', hs, hr, hf, q⟩ => by
  obtain ⟨⟨p, cs1⟩, h1, hf⟩ := bnd hf
  obtain ⟨⟨p2, cs2⟩, h2, hf⟩ := bnd hf
  obtain ⟨kvs, h3, hf⟩ := bnd hf
  obtain ⟨k, h4, hf⟩ := bnd hf
  cases hf
  refine ⟨r, Z, env, cs, p, cs1, hs, hr, h1, fun r1 Z1 H1 v x1 hs1 hv => ?_⟩
  refine ⟨r1, Z1, env, cs1, p2, _, hs1, hr.mono x1.pre x1.fz, h2, fun r2 Z2 H2 w x2 hs2 hw => ?_⟩
  obtain ⟨n, a, vs, _, _, ha, rfl, q1, q2⟩ := dct_ok hs2 hw h3
  rw [key_ok (hv.mono x2.pre x2.fz) h4]
  obtain ⟨o, ho1, ho2⟩ := din_ok (k := k) q1 q2
  exact ⟨a, o, rfl, ho1, by rw [ho2]; exact q r2 Z2 H2 _ (x1.trans x2) hs2 (RD.bl _)⟩
theorem x_dnotin (hu : X.A.units + 1 < cLine) (hb : XE X e2 g) (ha : XE X e f) (hm : behindInMarks .NotIn e = false := by rfl) : XE X (.Compare e2 [.NotIn] [e] pos) (eDin true g f) := pe_imp (pe_cmp (pc_dnotin hu hb ha) hm) fun σ H Q ⟨r, Z, env, cs, y, cs', hs, hr, hf, q⟩ => by
  obtain ⟨⟨p, cs1⟩, h1, hf⟩ := bnd hf
  obtain ⟨⟨p2, cs2⟩, h2, hf⟩ := bnd hf
  obtain ⟨kvs, h3, hf⟩ := bnd hf
  obtain ⟨k, h4, hf⟩ := bnd hf
  cases hf
  refine ⟨r, Z, env, cs, p, cs1, hs, hr, h1, fun r1 Z1 H1 v x1 hs1 hv => ?_⟩
  refine ⟨r1, Z1, env, cs1, p2, _, hs1, hr.mono x1.pre x1.fz, h2, fun r2 Z2 H2 w x2 hs2 hw => ?_⟩
  obtain ⟨n, a, vs, _, _, ha, rfl, q1, q2⟩ := dct_ok hs2 hw h3
  rw [key_ok (hv.mono x2.pre x2.fz) h4]
  obtain ⟨o, ho1, ho2⟩ := din_ok (k := k) q1 q2
  exact ⟨a, o, rfl, ho1, by rw [ho2]; exact q r2 Z2 H2 _ (x1.trans x2) hs2 (RD.bl _)⟩
/-- d[k] = v -/
def sDput (f g h : E) : S := fun env cs => (h env cs).bind fun p => (f env p.2).bind fun q => (g env q.2).bind fun s => match q.1 with
  | .loc n => (dctAt q.1 s.2).bind fun kvs => (keyOf s.1).bind fun k => if kvs.length < sizeLine then some (.nx, env, s.2.set n (.dct (putA kvs k p.1))) else none
  | _ => none
theorem s_dput {value : Expr} {pos' : Pos} (hu : X.A.units + 1 < cLine) (ha : XE X e f) (hb : XE X e2 g) (hv : XE X value h) (hsw : swapsWith value (some (.Subscript e e2 pos')) pos.line X.env = pure false := by rfl) : XS X (.Assign [.Subscript e e2 pos'] value pos) (sDput f g h) :=
  ps_imp (ps_dput hu ha hb hv hsw) fun D σ H ⟨r, Z, env, cs, o, env', cs', hs, hr, hf, q⟩ => by
    obtain ⟨⟨p, cs1⟩, h1, hf⟩ := bnd hf
    obtain ⟨⟨p2, cs2⟩, h2, hf⟩ := bnd hf
    obtain ⟨⟨p3, cs3⟩, h3, hf⟩ := bnd hf
    refine ⟨r, Z, env, cs, p, cs1, hs, hr, h1, fun r1 Z1 H1 v x1 hs1 hv => ?_⟩
    refine ⟨r1, Z1, env, cs1, p2, _, hs1, hr.mono x1.pre x1.fz, h2, fun r2 Z2 H2 w x2 hs2 hw => ?_⟩
    have x12 := x1.trans x2
    refine ⟨r2, Z2, env, cs2, p3, _, hs2, hr.mono x12.pre x12.fz, h3, fun r3 Z3 H3 u x3 hs3 hu => ?_⟩
    have x13 := x12.trans x3
    dsimp only at hf
    split at hf
    · obtain ⟨kvs, h4, hf⟩ := bnd hf
      obtain ⟨k, h5, hf⟩ := bnd hf
      obtain ⟨hl, hf⟩ := ifs hf
      cases hf
      obtain ⟨n, a, vs, e1, hc, ha, rfl, q1, q2⟩ := dct_ok hs3 (hw.mono x3.pre x3.fz) h4
      cases e1
      rw [key_ok hu h5]
      refine ⟨a, _, rfl, .k q1 (by rw [q2.length]; exact hl), ?_⟩
      obtain ⟨k1, k2⟩ := hs3.put (o := .dK (putK vs k v)) (c := .dct (putA kvs k p)) ha ⟨_, upd_same, q2.put (hv.mono (x2.trans x3).pre (x2.trans x3).fz)⟩
      exact q r3 Z3 _ σ (x13.trans k2) k1 (hr.mono x13.pre x13.fz)
    · cases hf
/-- {} -/
def eDnew : E := fun _ cs => some (.loc cs.length, cs ++ [.dct []])
theorem x_dnew : XE X (.Dict [] [] pos) eDnew := pe_imp pe_dnewK fun σ H Q ⟨r, Z, env, cs, y, cs', hs, hr, hf, q⟩ => by
  cases hf
  intro p hp
  obtain ⟨h1, h2⟩ := hs.alloc (o := .dK []) (c := .dct []) hp ⟨[], upd_same, .nil⟩
  exact q _ _ _ _ h2 h1 ⟨p, by rw [← hs.len, List.getElem?_append_right (Nat.le_refl _)]; simp, rfl⟩
/-- {k: v, ..} -/
abbrev Ps := Env → Cs → Option (List (Key × A) × Cs)
def pNil : Ps := fun _ cs => some ([], cs)
def pCons (f g : E) (ps : Ps) : Ps := fun env cs => (f env cs).bind fun p => (g env p.2).bind fun q => (keyOf p.1).bind fun k => (ps env q.2).bind fun s => some ((k, q.1) :: s.1, s.2)
def mergeA (kvs : List (Key × A)) : List (Key × A) := kvs.foldl (fun acc kv => putA acc kv.1 kv.2) []
def eDict (ps : Ps) : E := fun env cs => (ps env cs).bind fun p => if p.1.length ≤ 15 then some (.loc p.2.length, p.2 ++ [.dct (mergeA p.1)]) else none
/-- the pairs' readings are answered, an object standing aside -/
def PsF (K : PySem.W.Frag) (trs : List (TE × TE)) (ps : Ps) : Prop := ∀ {r : List Addr} {Z H : Hp} {env : Env} {σ : St} {cs cs' : Cs} {kvs : List (Key × A)} {Q : List (V × V) → Hp → Prop}, RS K r Z H cs → RE K r Z env σ → ps env cs = some (kvs, cs') →
  (∀ r' Z' H' vs, Ext r Z H r' Z' H' → RS K r' Z' H' cs' → RP K r' Z' vs kvs → Q (vs.map fun kv => (kV kv.1, kv.2)) H') → tPairs trs σ H Q
theorem ps_nilF {K : PySem.W.Frag} : PsF K [] pNil := by
  intro r Z H env σ cs cs' kvs Q hs hr hf q
  cases hf
  exact q r Z H [] .refl hs .nil
theorem ps_consF {K : PySem.W.Frag} {trs : List (TE × TE)} {ps : Ps} (hp : PsF K trs ps) : PsF K ((tE K f, tE K g) :: trs) (pCons f g ps) := by
  intro r Z H env σ cs cs' kvs Q hs hr hf q
  obtain ⟨⟨p, cs1⟩, h1, hf⟩ := bnd hf
  obtain ⟨⟨p2, cs2⟩, h2, hf⟩ := bnd hf
  obtain ⟨k, h3, hf⟩ := bnd hf
  obtain ⟨⟨kvs2, cs3⟩, h4, hf⟩ := bnd hf
  cases hf
  refine ⟨r, Z, env, cs, p, cs1, hs, hr, h1, fun r1 Z1 H1 v x1 hs1 hv => ?_⟩
  refine ⟨r1, Z1, env, cs1, p2, cs2, hs1, hr.mono x1.pre x1.fz, h2, fun r2 Z2 H2 w x2 hs2 hw => ?_⟩
  have x12 := x1.trans x2
  refine hp hs2 (hr.mono x12.pre x12.fz) h4 fun r3 Z3 H3 vs x3 hs3 hvs => ?_
  have := q r3 Z3 H3 ((k, w) :: vs) (x12.trans x3) hs3 (.cons (hw.mono x3.pre x3.fz) hvs)
  rw [key_ok hv h3]
  exact this
theorem merge_rp {K : PySem.W.Frag} {r : List Addr} {Z : Hp} : ∀ {vs ws : List (Key × V)} {xs ys : List (Key × A)}, RP K r Z vs xs → RP K r Z ws ys → RP K r Z (mergeK ws vs) (xs.foldl (fun acc kv => putA acc kv.1 kv.2) ys)
  | _, _, _, _, .nil, h => h
  | _, _, _, _, .cons (k := k) a t, h => by
    have h2 := merge_rp t (h.put (k := k) a)
    exact h2
theorem x_dict {keys : List (Option Expr)} {values : List Expr} {trs : List (TE × TE)} {ps : Ps} (hp : PsF X.K trs ps) (h : PE X e (tDisp trs)) : XE X e (eDict ps) := pe_imp h fun σ H Q ⟨r, Z, env, cs, y, cs', hs, hr, hf, q⟩ => by
  obtain ⟨⟨kvs, cs1⟩, h1, hf⟩ := bnd hf
  obtain ⟨hl, hf⟩ := ifs hf
  cases hf
  intro p hpn
  have hz : Z p = none := hs.fz.free hpn
  have hr0 : p ∉ r := fun hm => by
    obtain ⟨u, hu⟩ := hs.there hm
    rw [hpn] at hu; cases hu
  have hs' : RS X.K r Z (upd H p (.dK [])) cs := by
    refine RS.side (p := p) (o := .dK []) ?_ upd_same hr0 hz
    rw [era_upd hpn]; exact hs
  refine hp hs' hr h1 fun r1 Z1 H1 vs x1 hs1 hvs => ?_
  have hp1 : H1 p = some (.dK []) := x1.keep p _ upd_same hr0
  have hr1 : p ∉ r1 := fun hm => by
    rcases x1.new p hm with z | z
    · exact hr0 z
    · rw [upd_same] at z; cases z
  have hz1 : Z1 p = none := by
    cases e : Z1 p with
    | none => rfl
    | some o =>
      rcases x1.fnew p o e with z | z
      · rw [hz] at z; cases z
      · rw [upd_same] at z; cases z
  refine ⟨hp1, vs, rfl, by rw [hvs.length]; exact hl, ?_⟩
  have x2 := x1.side (p := p)
  rw [era_upd hpn] at x2
  obtain ⟨k1, k2⟩ := (hs1.unside hr1 hz1).alloc (o := .dK (mergeK [] vs)) (c := .dct (mergeA kvs)) era_self ⟨_, upd_same, (merge_rp hvs .nil).mono (List.prefix_append r1 [p]) (Same.refl _)⟩
  have ee : upd (era H1 p) p (.dK (mergeK [] vs)) = upd H1 p (.dK (mergeK [] vs)) := by
    funext b
    by_cases hb : b = p
    · subst hb; rw [upd_same, upd_same]
    · rw [upd_ne hb, upd_ne hb, era_ne hb]
  rw [ee] at k1 k2
  exact q _ _ _ _ (x2.trans k2) k1 ⟨p, by rw [← hs1.len, List.getElem?_append_right (Nat.le_refl _)]; simp, rfl⟩
end

/-! ### methods of built-in types -/
def MF (K : PySem.W.Frag) (t : V → List V → Hp → VK → Prop) (m : A → List A → Cs → Option (A × Cs)) : Prop := ∀ {r : List Addr} {Z H : Hp} {cs cs' : Cs} {x z : A} {xs : List A} {u : V} {us : List V} {Q : VK}, RS K r Z H cs → RA K r Z u x → RAs K r Z us xs → m x xs cs = some (z, cs') →
  (∀ r' Z' H' v, Ext r Z H r' Z' H' → RS K r' Z' H' cs' → RA K r' Z' v z → Q v H') → t u us H Q
def isStrA : A → Bool
  | .d (.str _) => true
  | _ => false
def kindA (T : String) (x : A) (cs : Cs) : Bool := if T = "str" then isStrA x else if T = "list" then (seqL x cs).isSome else false
def eM (T : String) (m : A → List A → Cs → Option (A × Cs)) (f : E) (fs : As) : E := fun env cs => (f env cs).bind fun p =>
  if kindA T p.1 p.2 = true then (fs env p.2).bind fun q => m p.1 q.1 q.2 else none
section
variable {X : Cx} {e : Expr} {f : E} {fs : As} {T : String} {t : V → List V → Hp → VK → Prop} {m : A → List A → Cs → Option (A × Cs)}
theorem kind_ok {K : PySem.W.Frag} {r : List Addr} {Z H : Hp} {cs : Cs} {x : A} {v : V} (hs : RS K r Z H cs) (hx : RA K r Z v x) (h : kindA T x cs = true) : tyV K T v H := by
  unfold kindA at h
  split at h
  · rename_i e
    subst e
    unfold isStrA at h
    split at h
    · rw [of_str hx]; rfl
    · cases h
  · split at h
    · rename_i e
      subst e
      cases e : seqL x cs with
      | none => rw [e] at h; cases h
      | some ds =>
        obtain ⟨a, vs, rfl, h1, _⟩ := seqL_ok hs hx e
        exact .inl ⟨rfl, vs, h1⟩
    · cases h
theorem x_m (hm : MF X.K t m) (h : PE X e (tBM X.K T t (tE X.K f) (tAs X.K fs))) : XE X e (eM T m f fs) := pe_imp h fun σ H Q ⟨r, Z, env, cs, y, cs', hs, hr, hf, q⟩ => by
  obtain ⟨⟨p, cs1⟩, h1, hf⟩ := bnd hf
  dsimp only at hf
  split at hf
  · rename_i hk
    obtain ⟨⟨ps, cs2⟩, h2, hf⟩ := bnd hf
    refine ⟨r, Z, env, cs, p, cs1, hs, hr, h1, fun r1 Z1 H1 v x1 hs1 hv => ⟨kind_ok hs1 hv hk, ?_⟩⟩
    exact ⟨r1, Z1, env, cs1, ps, cs2, hs1, hr.mono x1.pre x1.fz, h2, fun r2 Z2 H2 vs x2 hs2 hvs => hm hs2 (hv.mono x2.pre x2.fz) hvs hf fun r3 Z3 H3 w x3 hs3 hw => q r3 Z3 H3 w ((x1.trans x2).trans x3) hs3 hw⟩
  · cases hf
theorem x_m0 (hm : MF X.K t m) (h : PE X e (tBM0 X.K T t (tE X.K f))) : XE X e (eM T m f aNil) := pe_imp h fun σ H Q ⟨r, Z, env, cs, y, cs', hs, hr, hf, q⟩ => by
  obtain ⟨⟨p, cs1⟩, h1, hf⟩ := bnd hf
  dsimp only at hf
  split at hf
  · rename_i hk
    refine ⟨r, Z, env, cs, p, cs1, hs, hr, h1, fun r1 Z1 H1 v x1 hs1 hv => ⟨kind_ok hs1 hv hk, ?_⟩⟩
    exact hm hs1 hv .nil hf fun r3 Z3 H3 w x3 hs3 hw => q r3 Z3 H3 w (x1.trans x3) hs3 hw
  · cases hf
end
def mAppend (x : A) (xs : List A) (cs : Cs) : Option (A × Cs) := match x, xs with
  | .loc n, [.d y] => (lstAt cs n).bind fun ds => if ds.length < sizeLine then some (.d .none, cs.set n (.lst (ds ++ [y]))) else none
  | _, _ => none
def mExtend (x : A) (xs : List A) (cs : Cs) : Option (A × Cs) := match x, xs with
  | .loc n, [y] => (lstAt cs n).bind fun ds => (trkL y cs).bind fun es => if ds.length + es.length ≤ sizeLine then some (.d .none, cs.set n (.lst (ds ++ es))) else none
  | _, _ => none
def mPop (x : A) (xs : List A) (cs : Cs) : Option (A × Cs) := match x, xs with
  | .loc n, [] => (lstAt cs n).bind fun ds => (ds[ds.length - 1]?).bind fun y => some (.d y, cs.set n (.lst ds.dropLast))
  | _, _ => none
def mJoin (x : A) (xs : List A) (cs : Cs) : Option (A × Cs) := match x, xs with
  | .d (.str a), [y] => (items y cs).bind fun ds => (allS ds).bind fun ys => if (ys.map (·.length)).sum + ys.length * a.length ≤ 16777216 then some (.d (.str (Str.join a ys)), cs) else none
  | _, _ => none
def mCount (x : A) (xs : List A) (cs : Cs) : Option (A × Cs) := match x, xs with
  | .d (.str a), [.d (.str b)] => some (.d (.int (Txt.count a b)), cs)
  | _, _ => none
def mIndex (x : A) (xs : List A) (cs : Cs) : Option (A × Cs) := match xs with
  | [.d y] => (seqL x cs).bind fun ds => if flat y = true ∧ ds.all flat = true then (ds.findIdx? fun z => PyData.eqv z y).bind fun j => some (.d (.int (j : Nat)), cs) else none
  | _ => none
section
variable {K : PySem.W.Frag}
theorem ras0 {r : List Addr} {Z : Hp} {us : List V} (h : RAs K r Z us []) : us = [] := by cases h; rfl
theorem m_append : MF K rAppend mAppend := by
  intro r Z H cs cs' x z xs u us Q hs hx hxs e q
  unfold mAppend at e
  split at e
  · obtain ⟨ds, h1, e⟩ := bnd e
    obtain ⟨h2, e⟩ := ifs e
    cases e
    obtain ⟨w, rfl, hw⟩ := ras1 hxs
    obtain ⟨a, ha, rfl⟩ := hx
    obtain ⟨vs, h3, h4⟩ := hs.cell _ a _ ha (lstAt_ok h1)
    obtain ⟨k1, k2⟩ := hs.put (o := .lst (vs ++ [w])) (c := .lst (ds ++ [_])) ha ⟨_, upd_same, h4.append (.one hw)⟩
    exact ⟨a, vs, w, rfl, rfl, h3, by rw [h4.length]; exact h2, q r Z _ .non k2 k1 RD.non⟩
  · cases e
theorem m_extend : MF K rExtend mExtend := by
  intro r Z H cs cs' x z xs u us Q hs hx hxs e q
  unfold mExtend at e
  split at e
  · obtain ⟨ds, h1, e⟩ := bnd e
    obtain ⟨es, h0, e⟩ := bnd e
    obtain ⟨h2, e⟩ := ifs e
    cases e
    obtain ⟨w, rfl, hw⟩ := ras1 hxs
    obtain ⟨a, ha, rfl⟩ := hx
    obtain ⟨vs, h3, h4⟩ := hs.cell _ a _ ha (lstAt_ok h1)
    obtain ⟨b, ws, rfl, h5, h6⟩ := trkL_ok hs hw h0
    obtain ⟨k1, k2⟩ := hs.put (o := .lst (vs ++ ws)) (c := .lst (ds ++ es)) ha ⟨_, upd_same, h4.append h6⟩
    exact ⟨a, b, vs, ws, rfl, rfl, h3, h5, by rw [h4.length, h6.length]; exact h2, q r Z _ .non k2 k1 RD.non⟩
  · cases e
theorem rds_dropLast {Z : Hp} : ∀ {vs : List V} {ds : List D}, RDs K Z vs ds → RDs K Z vs.dropLast ds.dropLast
  | _, _, .nil => .nil
  | _, _, .cons _ .nil => .nil
  | _, _, .cons a (.cons b t) => .cons a (rds_dropLast (.cons b t))
theorem m_pop : MF K rPop mPop := by
  intro r Z H cs cs' x z xs u us Q hs hx hxs e q
  unfold mPop at e
  split at e
  · obtain ⟨ds, h1, e⟩ := bnd e
    obtain ⟨y, h2, e⟩ := bnd e
    cases e
    have := ras0 hxs
    subst this
    obtain ⟨a, ha, rfl⟩ := hx
    obtain ⟨vs, h3, h4⟩ := hs.cell _ a _ ha (lstAt_ok h1)
    obtain ⟨w, hw1, hw2⟩ := h4.get h2
    obtain ⟨k1, k2⟩ := hs.put (o := .lst vs.dropLast) (c := .lst ds.dropLast) ha ⟨_, upd_same, rds_dropLast h4⟩
    exact ⟨a, vs, w, rfl, rfl, h3, by rw [h4.length]; exact hw1, q r Z _ w k2 k1 hw2⟩
  · cases e
theorem m_join : MF K (fun x xs H Q => ∃ a p, ∃ ys : List Str, x = .str a ∧ xs = [.ref p] ∧ (SqL K H p (ys.map V.str) ∨ SqT K H p (ys.map V.str)) ∧ (ys.map (·.length)).sum + ys.length * a.length ≤ 16777216 ∧ Q (.str (Txt.join a ys)) H) mJoin := by
  intro r Z H cs cs' x z xs u us Q hs hx hxs e q
  unfold mJoin at e
  split at e
  · obtain ⟨ds, h1, e⟩ := bnd e
    obtain ⟨ys, h2, e⟩ := bnd e
    obtain ⟨h3, e⟩ := ifs e
    cases e
    obtain ⟨w, rfl, hw⟩ := ras1 hxs
    rw [of_str hx]
    obtain ⟨a, vs, rfl, h4, h5⟩ := items_ok hs hw h1
    rw [allS_ok h5 h2] at h4
    exact ⟨_, a, ys, rfl, rfl, h4, h3, by rw [TL.join_eq]; exact q r Z H _ .refl hs (RD.str _)⟩
  · cases e
theorem m_count : MF K (fun x xs H Q => ∃ a b, x = .str a ∧ xs = [.str b] ∧ Q (.int (Txt.count a b)) H) mCount := by
  intro r Z H cs cs' x z xs u us Q hs hx hxs e q
  unfold mCount at e
  split at e
  · cases e
    obtain ⟨w, rfl, hw⟩ := ras1 hxs
    rw [of_str hx, of_str hw]
    exact ⟨_, _, rfl, rfl, q r Z H _ .refl hs (RD.int _)⟩
  · cases e
theorem flat_v {Z : Hp} {v : V} {x : D} (h : RD K Z v x) (f : flat x = true) : flatV v = true := by
  cases h <;> first | rfl | cases f
theorem flat_vs {Z : Hp} : ∀ {vs : List V} {xs : List D}, RDs K Z vs xs → xs.all flat = true → vs.all flatV = true
  | _, _, .nil, _ => rfl
  | _, _, .cons a t, f => by
    simp only [List.all_cons, Bool.and_eq_true] at f ⊢
    exact ⟨flat_v a f.1, flat_vs t f.2⟩
theorem flat_eq {Z : Hp} {v w : V} {x y : D} (h : RD K Z v x) (h' : RD K Z w y) (f : flat x = true) (f' : flat y = true) : eqV v w = PyData.eqv x y := by
  cases h <;> first | cases f | skip
  all_goals cases h' <;> first | cases f' | skip
  all_goals simp only [eqV, PyData.eqv]
  all_goals rfl
theorem m_index : MF K (rIndex K) mIndex := by
  intro r Z H cs cs' x z xs u us Q hs hx hxs e q
  unfold mIndex at e
  split at e
  · obtain ⟨ds, h1, e⟩ := bnd e
    split at e
    · rename_i hfl
      obtain ⟨j, h2, e⟩ := bnd e
      cases e
      obtain ⟨w, rfl, hw⟩ := ras1 hxs
      obtain ⟨a, vs, rfl, h3, h4⟩ := seqL_ok hs hx h1
      obtain ⟨hj, hj1, hj2⟩ := List.findIdx?_eq_some_iff_getElem.mp h2
      have hd := List.all_eq_true.mp hfl.2
      obtain ⟨v, hv1, hv2⟩ := h4.get (List.getElem?_eq_getElem hj)
      refine ⟨a, vs, w, j, v, rfl, rfl, h3, flat_v hw hfl.1, flat_vs h4 hfl.2, hv1, ?_, fun m z' hm hz' => ?_, q r Z H _ .refl hs (RD.int _)⟩
      · rw [flat_eq hv2 hw (hd _ (List.getElem_mem hj)) hfl.1]; exact hj1
      · obtain ⟨x', hx1, hx2⟩ := h4.getV hz'
        obtain ⟨hm1, rfl⟩ := List.getElem?_eq_some_iff.mp hx1
        rw [flat_eq hx2 hw (hd _ (List.getElem_mem hm1)) hfl.1]
        simpa using hj2 m hm
    · cases e
  · cases e
end
end Fn
end
section
/-! Fn, part J: defs and their calls, instances. -/
namespace Fn
open PySem L2

/-! ### a def as a plain function over the cells that it is handed -/
abbrev Den := List A → Cs → Option (A × Cs)
def spD (K : PySem.W.Frag) (d : Den) : Sp := fun vs H Q _ => ∃ r Z xs cs x cs', RS K r Z H cs ∧ RAs K r Z vs xs ∧ d xs cs = some (x, cs') ∧
  ∀ r' Z' H' v, Ext r Z H r' Z' H' → RS K r' Z' H' cs' → RA K r' Z' v x → Q v H'
/-- what the caller's cells become in the callee: by their places in ls -/
def renA (ls : List Nat) : A → Option A
  | .loc n => (ls.idxOf? n).bind fun i => some (.loc i)
  | x => some x
def renP {κ : Type} (ls : List Nat) : List (κ × A) → Option (List (κ × A))
  | [] => some []
  | (k, x) :: r => (renA ls x).bind fun y => (renP ls r).bind fun s => some ((k, y) :: s)
def renC (ls : List Nat) : Cell → Option Cell
  | .lst xs => some (.lst xs)
  | .dct kvs => (renP ls kvs).bind fun s => some (.dct s)
  | .ins c fs => (renP ls fs).bind fun s => some (.ins c s)
def renAs (ls : List Nat) : List A → Option (List A)
  | [] => some []
  | x :: xs => (renA ls x).bind fun y => (renAs ls xs).bind fun s => some (y :: s)
/-- the cells of ls, renamed -/
def pick (ls : List Nat) (cs : Cs) : List Nat → Option Cs
  | [] => some []
  | n :: ns => (cs[n]?).bind fun c => (renC ls c).bind fun d => (pick ls cs ns).bind fun s => some (d :: s)
def bkN (ls : List Nat) (m i : Nat) : Nat := match ls[i]? with
  | some n => n
  | none => m + (i - ls.length)
def bkA (ls : List Nat) (m : Nat) : A → A
  | .loc i => .loc (bkN ls m i)
  | x => x
def bkC (ls : List Nat) (m : Nat) : Cell → Cell
  | .lst xs => .lst xs
  | .dct kvs => .dct (kvs.map fun p => (p.1, bkA ls m p.2))
  | .ins c fs => .ins c (fs.map fun p => (p.1, bkA ls m p.2))
/-- written back: the first ones to their places, new ones behind -/
def wb (ls : List Nat) (m : Nat) : List Nat → Cs → Cs → Cs
  | [], new, cs => cs ++ new.map (bkC ls m)
  | n :: ns, c :: new, cs => wb ls m ns new (cs.set n (bkC ls m c))
  | _ :: _, [], cs => cs
def locA : A → List Nat
  | .loc n => [n]
  | _ => []
def locC : Cell → List Nat
  | .lst _ => []
  | .dct kvs => kvs.flatMap fun p => locA p.2
  | .ins _ fs => fs.flatMap fun p => locA p.2
def reach (cs : Cs) : Nat → List Nat → List Nat → List Nat
  | 0, _, acc => acc
  | _ + 1, [], acc => acc
  | k + 1, n :: ns, acc => if n ∈ acc then reach cs k ns acc else reach cs k (ns ++ (match cs[n]? with
      | some c => locC c
      | none => [])) (acc ++ [n])
def callW (ls : List Nat) (d : Den) (xs : List A) (cs : Cs) : Option (A × Cs) := if ls.Nodup then (renAs ls xs).bind fun ys => (pick ls cs ls).bind fun cc => (d ys cc).bind fun p =>
  if ls.length ≤ p.2.length then some (bkA ls cs.length p.1, wb ls cs.length ls p.2 cs) else none
else none
/-- where no cell is handed on: nothing to look for -/
def callL (d : Den) (xs : List A) (cs : Cs) : Option (A × Cs) := callW (reach cs 64 (xs.flatMap locA) []) d xs cs
section
variable {K : PySem.W.Frag} {r : List Addr} {Z H : Hp} {cs : Cs} {ls : List Nat}
/-- the callee's addresses -/
def adrs (r : List Addr) : List Nat → List Addr
  | [] => []
  | n :: ns => r.getD n 0 :: adrs r ns
theorem adrs_len (r : List Addr) : ∀ ls, (adrs r ls).length = ls.length
  | [] => rfl
  | n :: ns => congrArg Nat.succ (adrs_len r ns)
theorem adrs_get {r : List Addr} : ∀ {ls : List Nat} {i n : Nat}, ls[i]? = some n → (adrs r ls)[i]? = some (r.getD n 0)
  | [], i, n, h => by simp at h
  | m :: ns, 0, n, h => by simp at h; subst h; rfl
  | m :: ns, i + 1, n, h => adrs_get (ls := ns) (i := i) (by simpa using h)
theorem getD_of {r : List Addr} {n : Nat} {a : Addr} (h : r[n]? = some a) : r.getD n 0 = a := by rw [List.getD_eq_getElem?_getD, h]; rfl
theorem mem_adrs {r : List Addr} {a : Addr} : ∀ {ls : List Nat}, a ∈ adrs r ls → ∃ n ∈ ls, a = r.getD n 0
  | n :: ns, h => by
    rcases List.mem_cons.mp h with e | h
    · exact ⟨n, List.mem_cons_self, e⟩
    · obtain ⟨m, h1, h2⟩ := mem_adrs h
      exact ⟨m, List.mem_cons_of_mem _ h1, h2⟩
theorem adrs_nd (hr : r.Nodup) : ∀ {ls : List Nat}, ls.Nodup → (∀ n ∈ ls, n < r.length) → (adrs r ls).Nodup
  | [], _, _ => List.nodup_nil
  | n :: ns, h, hl => by
    rw [List.nodup_cons] at h
    refine List.nodup_cons.mpr ⟨fun hm => ?_, adrs_nd hr h.2 fun m hm => hl m (List.mem_cons_of_mem _ hm)⟩
    obtain ⟨m, h1, h2⟩ := mem_adrs hm
    have l1 := hl n List.mem_cons_self
    have l2 := hl m (List.mem_cons_of_mem _ h1)
    rw [getD_of (List.getElem?_eq_getElem l1), getD_of (List.getElem?_eq_getElem l2)] at h2
    have := (List.getElem_inj hr).mp h2
    subst this
    exact h.1 h1
theorem renA_ok {x y : A} {v : V} (hx : RA K r Z v x) (e : renA ls x = some y) : RA K (adrs r ls) Z v y := by
  unfold renA at e
  split at e
  · rename_i n
    obtain ⟨i, h1, e⟩ := bnd e
    cases e
    obtain ⟨a, ha, rfl⟩ := hx
    have hi : ls[i]? = some n := by
      rw [List.idxOf?, List.findIdx?_eq_some_iff_getElem] at h1
      obtain ⟨h2, h3, _⟩ := h1
      rw [List.getElem?_eq_getElem h2]
      exact congrArg some (by simpa using h3)
    exact ⟨a, by rw [adrs_get hi, getD_of ha], rfl⟩
  · cases e
    cases x with
    | loc n => rename_i h; exact absurd rfl (h n)
    | d x => exact hx
    | ro xs => exact hx
theorem renP_ok {κ : Type} : ∀ {xs ys : List (κ × A)} {vs : List (κ × V)}, RP K r Z vs xs → renP ls xs = some ys → RP K (adrs r ls) Z vs ys
  | _, _, _, .nil, e => by cases e; exact .nil
  | _, _, _, .cons a t, e => by
    obtain ⟨y, h1, e⟩ := bnd e
    obtain ⟨s, h2, e⟩ := bnd e
    cases e
    exact .cons (renA_ok a h1) (renP_ok t h2)
theorem renAs_ok : ∀ {xs ys : List A} {vs : List V}, RAs K r Z vs xs → renAs ls xs = some ys → RAs K (adrs r ls) Z vs ys
  | _, _, _, .nil, e => by cases e; exact .nil
  | _, _, _, .cons a t, e => by
    obtain ⟨y, h1, e⟩ := bnd e
    obtain ⟨s, h2, e⟩ := bnd e
    cases e
    exact .cons (renA_ok a h1) (renAs_ok t h2)
theorem renC_ok {a : Addr} {c d : Cell} (h : RC K r Z H a c) (e : renC ls c = some d) : RC K (adrs r ls) Z H a d := by
  cases c with
  | lst xs => cases e; exact h
  | dct kvs =>
    obtain ⟨s, h1, e⟩ := bnd e
    cases e
    obtain ⟨vs, h2, h3⟩ := h
    exact ⟨vs, h2, renP_ok h3 h1⟩
  | ins c fs =>
    obtain ⟨s, h1, e⟩ := bnd e
    cases e
    obtain ⟨dx, vs, h2, h3⟩ := h
    exact ⟨dx, vs, h2, renP_ok h3 h1⟩
theorem pick_len {ls : List Nat} : ∀ {ns : List Nat} {cc : Cs}, pick ls cs ns = some cc → cc.length = ns.length ∧ (∀ n ∈ ns, n < cs.length)
  | [], _, e => by cases e; exact ⟨rfl, fun n h => nomatch h⟩
  | n :: ns, _, e => by
    obtain ⟨c, h1, e⟩ := bnd e
    obtain ⟨d, h2, e⟩ := bnd e
    obtain ⟨s, h3, e⟩ := bnd e
    cases e
    obtain ⟨l, q⟩ := pick_len h3
    refine ⟨congrArg Nat.succ l, fun m hm => ?_⟩
    rcases List.mem_cons.mp hm with e | hm
    · subst e; exact (List.getElem?_eq_some_iff.mp h1).1
    · exact q m hm
theorem pick_get {ls : List Nat} : ∀ {ns : List Nat} {cc : Cs} {i n : Nat} {d : Cell}, pick ls cs ns = some cc → ns[i]? = some n → cc[i]? = some d → ∃ c, cs[n]? = some c ∧ renC ls c = some d
  | [], _, i, n, d, e, h, _ => by simp at h
  | m :: ns, _, 0, n, d, e, h, hd => by
    obtain ⟨c, h1, e⟩ := bnd e
    obtain ⟨d', h2, e⟩ := bnd e
    obtain ⟨s, h3, e⟩ := bnd e
    cases e
    simp at h hd
    subst h; subst hd
    exact ⟨c, h1, h2⟩
  | m :: ns, _, i + 1, n, d, e, h, hd => by
    obtain ⟨c, h1, e⟩ := bnd e
    obtain ⟨d', h2, e⟩ := bnd e
    obtain ⟨s, h3, e⟩ := bnd e
    cases e
    exact pick_get (i := i) h3 (by simpa using h) (by simpa using hd)
theorem pick_rs {cc : Cs} (hs : RS K r Z H cs) (hl : ls.Nodup) (e : pick ls cs ls = some cc) : RS K (adrs r ls) Z H cc := by
  obtain ⟨l1, l2⟩ := pick_len e
  have l3 : ∀ n ∈ ls, n < r.length := fun n hn => by rw [hs.len]; exact l2 n hn
  refine ⟨hs.fz, by rw [adrs_len, l1], adrs_nd hs.nd hl l3, fun a ha => ?_, fun i a d h1 h2 => ?_⟩
  · obtain ⟨n, hn, rfl⟩ := mem_adrs ha
    rw [getD_of (List.getElem?_eq_getElem (l3 n hn))]
    exact hs.off _ (List.getElem_mem _)
  · have hi : i < ls.length := by rw [← adrs_len r ls]; exact (List.getElem?_eq_some_iff.mp h1).1
    have h3 := List.getElem?_eq_getElem hi
    rw [adrs_get h3] at h1
    have hn := l3 _ (List.getElem_mem hi)
    have h4 := List.getElem?_eq_getElem hn
    rw [getD_of h4] at h1
    cases h1
    obtain ⟨c, h5, h6⟩ := pick_get e h3 h2
    exact renC_ok (hs.cell _ _ c h4 h5) h6
/-- behind the call: the callee's addresses r' = adrs r ls ++ t; the caller's r ++ t -/
theorem bk_get {t : List Addr} {i : Nat} {a : Addr} (l3 : ∀ n ∈ ls, n < r.length) (h : (adrs r ls ++ t)[i]? = some a) : (r ++ t)[bkN ls r.length i]? = some a := by
  unfold bkN
  by_cases hi : i < ls.length
  · rw [List.getElem?_eq_getElem hi]
    rw [List.getElem?_append_left (by rw [adrs_len]; exact hi), adrs_get (List.getElem?_eq_getElem hi)] at h
    have hn := l3 _ (List.getElem_mem hi)
    rw [getD_of (List.getElem?_eq_getElem hn)] at h
    show (r ++ t)[ls[i]]? = some a
    rw [List.getElem?_append_left hn, List.getElem?_eq_getElem hn]
    exact h
  · have e0 : ls[i]? = none := List.getElem?_eq_none (by omega)
    rw [e0]
    rw [List.getElem?_append_right (by rw [adrs_len]; omega), adrs_len] at h
    show (r ++ t)[r.length + (i - ls.length)]? = some a
    rw [List.getElem?_append_right (by omega), show r.length + (i - ls.length) - r.length = i - ls.length by omega]
    exact h
theorem bkA_ok {t : List Addr} {Z' : Hp} (l3 : ∀ n ∈ ls, n < r.length) {x : A} {v : V} (h : RA K (adrs r ls ++ t) Z' v x) : RA K (r ++ t) Z' v (bkA ls r.length x) := by
  cases x with
  | d x => exact h
  | ro xs => exact h
  | loc i =>
    obtain ⟨a, ha, rfl⟩ := h
    exact ⟨a, bk_get l3 ha, rfl⟩
theorem bkP_ok {κ : Type} {t : List Addr} {Z' : Hp} (l3 : ∀ n ∈ ls, n < r.length) : ∀ {xs : List (κ × A)} {vs : List (κ × V)}, RP K (adrs r ls ++ t) Z' vs xs → RP K (r ++ t) Z' vs (xs.map fun p => (p.1, bkA ls r.length p.2))
  | _, _, .nil => .nil
  | _, _, .cons a q => .cons (bkA_ok l3 a) (bkP_ok l3 q)
theorem bkC_ok {t : List Addr} {Z' H' : Hp} {a : Addr} (l3 : ∀ n ∈ ls, n < r.length) {c : Cell} (h : RC K (adrs r ls ++ t) Z' H' a c) : RC K (r ++ t) Z' H' a (bkC ls r.length c) := by
  cases c with
  | lst xs => exact h
  | dct kvs =>
    obtain ⟨vs, h1, h2⟩ := h
    exact ⟨vs, h1, bkP_ok l3 h2⟩
  | ins c fs =>
    obtain ⟨dx, vs, h1, h2⟩ := h
    exact ⟨dx, vs, h1, bkP_ok l3 h2⟩
theorem wb_len {m : Nat} : ∀ {ns : List Nat} {new cs : Cs}, ns.length ≤ new.length → (wb ls m ns new cs).length = cs.length + (new.length - ns.length)
  | [], new, cs, _ => by simp [wb]
  | n :: ns, c :: new, cs, h => by
    unfold wb
    rw [wb_len (by simpa using h)]
    simp
  | n :: ns, [], cs, h => by simp at h
/-- what stands at a place behind the writing -/
theorem wb_get {m : Nat} : ∀ {ns : List Nat} {new cs : Cs} {n : Nat} {c : Cell}, ns.length ≤ new.length → ns.Nodup → (∀ k ∈ ns, k < cs.length) → (wb ls m ns new cs)[n]? = some c →
    (n ∉ ns ∧ cs[n]? = some c) ∨ (∃ (i : Nat) (d : Cell), ns[i]? = some n ∧ new[i]? = some d ∧ c = bkC ls m d) ∨ ∃ (i : Nat) (d : Cell), ns.length ≤ i ∧ n = cs.length + (i - ns.length) ∧ new[i]? = some d ∧ c = bkC ls m d
  | [], new, cs, n, c, _, _, _, h => by
    unfold wb at h
    by_cases hn : n < cs.length
    · rw [List.getElem?_append_left hn] at h
      exact .inl ⟨by simp, h⟩
    · rw [List.getElem?_append_right (by omega), List.getElem?_map] at h
      cases e : new[n - cs.length]? with
      | none => rw [e] at h; cases h
      | some d =>
        rw [e] at h
        cases h
        exact .inr (.inr ⟨n - cs.length, d, Nat.zero_le _, by simp; omega, e, rfl⟩)
  | k :: ns, [], cs, n, c, hl, _, _, h => by simp at hl
  | k :: ns, d :: new, cs, n, c, hl, nd, hk, h => by
    unfold wb at h
    rw [List.nodup_cons] at nd
    have hkc := hk k List.mem_cons_self
    rcases wb_get (ns := ns) (new := new) (by simpa using hl) nd.2 (fun j hj => by rw [List.length_set]; exact hk j (List.mem_cons_of_mem _ hj)) h with ⟨h1, h2⟩ | ⟨i, d', h1, h2, h3⟩ | ⟨i, d', h0, h1, h2, h3⟩
    · by_cases e : k = n
      · subst e
        rw [List.getElem?_set_self hkc] at h2
        cases h2
        exact .inr (.inl ⟨0, d, rfl, rfl, rfl⟩)
      · rw [List.getElem?_set_ne e] at h2
        exact .inl ⟨by simp only [List.mem_cons, not_or]; exact ⟨Ne.symm e, h1⟩, h2⟩
    · exact .inr (.inl ⟨i + 1, d', by simpa using h1, by simpa using h2, h3⟩)
    · rw [List.length_set] at h1
      exact .inr (.inr ⟨i + 1, d', by simp; omega, by simp; omega, by simpa using h2, h3⟩)
theorem callW_ok {d : Den} {xs : List A} {vs : List V} {z : A} {cs' : Cs} {Q : VK} {E : XK} (hs : RS K r Z H cs) (hx : RAs K r Z vs xs) (e : callW ls d xs cs = some (z, cs'))
    (q : ∀ r' Z' H' v, Ext r Z H r' Z' H' → RS K r' Z' H' cs' → RA K r' Z' v z → Q v H') : spD K d vs H Q E := by
  unfold callW at e
  split at e
  case isFalse => cases e
  rename_i hl
  obtain ⟨ys, h1, e⟩ := bnd e
  obtain ⟨cc, h2, e⟩ := bnd e
  obtain ⟨⟨p, cc'⟩, h3, e⟩ := bnd e
  obtain ⟨hlen, e⟩ := ifs e
  cases e
  obtain ⟨l1, l2⟩ := pick_len h2
  have l3 : ∀ n ∈ ls, n < r.length := fun n hn => by rw [hs.len]; exact l2 n hn
  refine ⟨adrs r ls, Z, ys, cc, p, cc', pick_rs hs hl h2, renAs_ok hx h1, h3, fun r' Z' H' v x1 hs1 hv => ?_⟩
  obtain ⟨t, rfl⟩ := x1.pre
  have sub : ∀ b, b ∈ adrs r ls → b ∈ r := fun b hb => by
    obtain ⟨n, hn, rfl⟩ := mem_adrs hb
    rw [getD_of (List.getElem?_eq_getElem (l3 n hn))]
    exact List.getElem_mem _
  have tnew : ∀ b ∈ t, H b = none := fun b hb => by
    rcases x1.new b (List.mem_append_right _ hb) with z | z
    · exact absurd rfl ((List.nodup_append.mp hs1.nd).2.2 b z b hb)
    · exact z
  have x : Ext r Z H (r ++ t) Z' H' := ⟨List.prefix_append r t, x1.fz, fun b o h n => x1.keep b o h fun z => n (sub b z), fun b hb => by
    rcases List.mem_append.mp hb with z | z
    · exact .inl z
    · exact .inr (tnew b z), x1.fnew, x1.dom⟩
  have tl : t.length = cc'.length - ls.length := by
    have := hs1.len
    rw [List.length_append, adrs_len] at this
    have hlen' : ls.length ≤ cc'.length := hlen
    omega
  refine q (r ++ t) Z' H' v x ⟨hs1.fz, ?_, ?_, fun a ha => ?_, fun n a c h4 h5 => ?_⟩ ?_
  · rw [List.length_append, wb_len hlen, hs.len, tl]
  · rw [List.nodup_append]
    refine ⟨hs.nd, (List.nodup_append.mp hs1.nd).2.1, fun a ha b hb e => ?_⟩
    subst e
    obtain ⟨o, ho⟩ := hs.there ha
    rw [tnew a hb] at ho; cases ho
  · rcases List.mem_append.mp ha with h | h
    · by_cases hm : a ∈ adrs r ls
      · exact hs1.off a (List.mem_append_left _ hm)
      · cases e : Z' a with
        | none => rfl
        | some o =>
          rcases x1.fnew a o e with z | z
          · rw [hs.off a h] at z; cases z
          · obtain ⟨o', ho⟩ := hs.there h
            rw [z] at ho; cases ho
    · exact hs1.off a (List.mem_append_right _ h)
  · rw [← hs.len] at h5
    rcases wb_get hlen hl l2 h5 with ⟨h6, h7⟩ | ⟨i, d', h6, h7, rfl⟩ | ⟨i, d', h0, h6, h7, rfl⟩
    · have hn : n < r.length := by rw [hs.len]; exact (List.getElem?_eq_some_iff.mp h7).1
      rw [List.getElem?_append_left hn] at h4
      have hm : a ∉ adrs r ls := fun hm => by
        obtain ⟨k, hk, e⟩ := mem_adrs hm
        rw [getD_of (List.getElem?_eq_getElem (l3 k hk))] at e
        have := ix_inj hs.nd h4 (e ▸ List.getElem?_eq_getElem (l3 k hk))
        subst this
        exact h6 hk
      exact (hs.cell n a c h4 h7).mono (List.prefix_append r t) x1.fz fun o ho => x1.keep a o ho hm
    · have hi : (adrs r ls)[i]? = some (r.getD n 0) := adrs_get h6
      have hn : n < r.length := l3 n (mem_of_ix h6)
      rw [List.getElem?_append_left hn, List.getElem?_eq_getElem hn] at h4
      have h4 : r[n] = a := Option.some.inj h4
      rw [getD_of (List.getElem?_eq_getElem hn), h4] at hi
      have hil : i < (adrs r ls).length := (List.getElem?_eq_some_iff.mp hi).1
      exact bkC_ok l3 (hs1.cell i a d' (by rw [List.getElem?_append_left hil]; exact hi) h7)
    · rw [List.getElem?_append_right (by rw [hs.len]; omega)] at h4
      have e1 : n - r.length = i - ls.length := by rw [hs.len]; omega
      rw [e1] at h4
      exact bkC_ok l3 (hs1.cell i a d' (by rw [List.getElem?_append_right (by rw [adrs_len]; exact h0), adrs_len]; exact h4) h7)
  · rw [← hs.len]
    exact bkA_ok l3 hv
theorem callL_ok {d : Den} {xs : List A} {vs : List V} {z : A} {cs' : Cs} {Q : VK} {E : XK} (hs : RS K r Z H cs) (hx : RAs K r Z vs xs) (e : callL d xs cs = some (z, cs'))
    (q : ∀ r' Z' H' v, Ext r Z H r' Z' H' → RS K r' Z' H' cs' → RA K r' Z' v z → Q v H') : spD K d vs H Q E := callW_ok hs hx e q
end

/-! ### calls as expressions -/
section
variable {X : Cx} {e : Expr} {f : E} {fs gs : As} {d : Den}
/-- constants that fill up: data that needs no heap -/
def DC (K : PySem.W.Frag) (dvs : List V) (ds : List D) : Prop := ∀ Z, RDs K Z dvs ds
theorem dc_nil {K : PySem.W.Frag} : DC K [] [] := fun _ => .nil
theorem ras_app {K : PySem.W.Frag} {r : List Addr} {Z : Hp} : ∀ {vs ws : List V} {xs ys : List A}, RAs K r Z vs xs → RAs K r Z ws ys → RAs K r Z (vs ++ ws) (xs ++ ys)
  | _, _, _, _, .nil, h => h
  | _, _, _, _, .cons a t, h => .cons a (ras_app t h)
theorem ras_d {K : PySem.W.Frag} {r : List Addr} {Z : Hp} : ∀ {vs : List V} {ds : List D}, RDs K Z vs ds → RAs K r Z vs (ds.map A.d)
  | _, _, .nil => .nil
  | _, _, .cons a t => .cons a (ras_d t)
def eCall (d : Den) (ds : List D) (fs : As) : E := fun env cs => (fs env cs).bind fun p => callL d (p.1 ++ ds.map A.d) p.2
theorem x_call {dvs : List V} {ds : List D} {E : XK} (hd : DC X.K dvs ds) (h : PE X e (tCall (spD X.K d) dvs E (tAs X.K fs))) : XE X e (eCall d ds fs) := pe_imp h fun σ H Q ⟨r, Z, env, cs, y, cs', hs, hr, hf, q⟩ => by
  obtain ⟨⟨p, cs1⟩, h1, hf⟩ := bnd hf
  exact ⟨r, Z, env, cs, p, cs1, hs, hr, h1, fun r1 Z1 H1 vs x1 hs1 hvs => callL_ok hs1 (ras_app hvs (ras_d (hd Z1))) hf fun r2 Z2 H2 v x2 hs2 hv => q r2 Z2 H2 v (x1.trans x2) hs2 hv⟩
theorem x_call0 {dvs : List V} {ds : List D} {E : XK} (hd : DC X.K dvs ds) (h : PE X e (tCall (spD X.K d) dvs E tNil)) : XE X e (eCall d ds aNil) := pe_imp h fun σ H Q ⟨r, Z, env, cs, y, cs', hs, hr, hf, q⟩ =>
  callL_ok (E := E) hs (ras_d (hd Z)) hf q
/-- f(e, .., k = v): g puts them in order -/
def eCallK (d : Den) (g : List A → List A → List A) (fs gs : As) : E := fun env cs => (fs env cs).bind fun p => (gs env p.2).bind fun q => callL d (g p.1 q.1) q.2
theorem x_callK {gV : List V → List V → List V} {g : List A → List A → List A} {E : XK} (hg : ∀ r Z vs zs xs ys, RAs X.K r Z vs xs → RAs X.K r Z zs ys → RAs X.K r Z (gV vs zs) (g xs ys)) (h : PE X e (tCallK (spD X.K d) gV E (tAs X.K fs) (tAs X.K gs))) : XE X e (eCallK d g fs gs) :=
  pe_imp h fun σ H Q ⟨r, Z, env, cs, y, cs', hs, hr, hf, q⟩ => by
    obtain ⟨⟨p, cs1⟩, h1, hf⟩ := bnd hf
    obtain ⟨⟨p2, cs2⟩, h2, hf⟩ := bnd hf
    refine ⟨r, Z, env, cs, p, cs1, hs, hr, h1, fun r1 Z1 H1 vs x1 hs1 hvs => ?_⟩
    exact ⟨r1, Z1, env, cs1, p2, cs2, hs1, hr.mono x1.pre x1.fz, h2, fun r2 Z2 H2 zs x2 hs2 hzs => callL_ok hs2 (hg _ _ _ _ _ _ (hvs.mono x2.pre x2.fz) hzs) hf fun r3 Z3 H3 v x3 hs3 hv => q r3 Z3 H3 v ((x1.trans x2).trans x3) hs3 hv⟩
theorem xk_nil : PK X [] (tAs X.K aNil) := pk_imp pk_nil fun σ H Q ⟨r, Z, env, cs, xs, cs', hs, hr, hf, q⟩ => by
  cases hf
  exact q r Z H [] .refl hs .nil
theorem xk_cons {kws : List Keyword} {nm : Option Str} {kpos : Pos} (ha : XE X e f) (hr : PK X kws (tAs X.K fs)) : PK X (⟨nm, e, kpos⟩ :: kws) (tAs X.K (aCons f fs)) := pk_imp (pk_cons ha hr) fun _ _ _ h => acons_ok h

/-! ### instances -/
def insAt (c : Str) (x : A) (cs : Cs) : Option (Nat × List (Str × A)) := match x with
  | .loc n => match cs[n]? with
    | some (.ins c' fs) => if c' = c then some (n, fs) else none
    | _ => none
  | _ => none
theorem ins_ok {K : PySem.W.Frag} {r : List Addr} {Z H : Hp} {cs : Cs} {c : Str} {x : A} {v : V} {n : Nat} {fs : List (Str × A)} (hs : RS K r Z H cs) (hx : RA K r Z v x) (e : insAt c x cs = some (n, fs)) :
    ∃ a dx vs, x = .loc n ∧ cs[n]? = some (.ins c fs) ∧ r[n]? = some a ∧ v = .ref a ∧ H a = some (.ins (He.ga K c) dx vs) ∧ RP K r Z vs fs := by
  unfold insAt at e
  split at e
  · split at e
    · rename_i hc
      split at e
      · rename_i h
        cases e
        subst h
        obtain ⟨a, ha, rfl⟩ := hx
        obtain ⟨dx, vs, h1, h2⟩ := hs.cell _ a _ ha hc
        exact ⟨a, dx, vs, rfl, hc, ha, rfl, h1, h2⟩
      · cases e
    · cases e
  · cases e
theorem rp_lookup {K : PySem.W.Frag} {r : List Addr} {Z : Hp} (k : Str) : ∀ {vs : List (Str × V)} {xs : List (Str × A)}, RP K r Z vs xs → (xs.lookup k = none → vs.lookup k = none) ∧ ∀ x, xs.lookup k = some x → ∃ v, vs.lookup k = some v ∧ RA K r Z v x
  | _, _, .nil => ⟨fun _ => rfl, fun x h => by cases h⟩
  | _, _, .cons (k := k') (v := v) (vs := vs) (x := x) (xs := xs) a t => by
    have ih := rp_lookup k t
    rw [List.lookup_cons, List.lookup_cons]
    cases h : (k == k') with
    | true => exact ⟨fun q => (by cases q), fun y q => ⟨v, rfl, by cases q; exact a⟩⟩
    | false => exact ih
def putFA (f : Str) (v : A) : List (Str × A) → List (Str × A)
  | [] => [(f, v)]
  | (g, x) :: r => if g = f then (g, v) :: r else (g, x) :: putFA f v r
theorem rp_putF {K : PySem.W.Frag} {r : List Addr} {Z : Hp} {f : Str} {v : V} {x : A} (h : RA K r Z v x) : ∀ {vs : List (Str × V)} {xs : List (Str × A)}, RP K r Z vs xs → RP K r Z (putF f v vs) (putFA f x xs)
  | _, _, .nil => .cons h .nil
  | _, _, .cons (k := k) a t => by
    unfold putF putFA
    by_cases e : k = f
    · rw [if_pos e, if_pos e]; exact .cons h t
    · rw [if_neg e, if_neg e]; exact .cons a (rp_putF h t)
def eFld (c m : Str) (f : E) : E := fun env cs => (f env cs).bind fun p => (insAt c p.1 p.2).bind fun s => (s.2.lookup m).bind fun z => some (z, p.2)
theorem x_fld {c m : Str} {pos : Pos} (hc : Cls X.K (He.ga X.K c)) (hn : NoAttr X.K (He.ga X.K c) m) (h : XE X e f) (hb : attributeBase e m X.env (eval e X.env) = eval e X.env := by rfl) : XE X (.Attribute e m pos) (eFld c m f) :=
  pe_imp (pe_fld h hb) fun σ H Q ⟨r, Z, env, cs, y, cs', hs, hr, hf, q⟩ => by
    obtain ⟨⟨p, cs1⟩, h1, hf⟩ := bnd hf
    obtain ⟨⟨n, fs⟩, h2, hf⟩ := bnd hf
    obtain ⟨z, h3, hf⟩ := bnd hf
    cases hf
    refine ⟨r, Z, env, cs, p, _, hs, hr, h1, fun r1 Z1 H1 v x1 hs1 hv => ?_⟩
    obtain ⟨a, dx, vs, _, _, _, rfl, h4, h5⟩ := ins_ok hs1 hv h2
    obtain ⟨w, hw1, hw2⟩ := (rp_lookup m h5).2 _ h3
    exact ⟨a, _, dx, vs, w, rfl, h4, hc, hn, hw1, q r1 Z1 H1 w x1 hs1 hw2⟩
def sFldF (c m : Str) (f g : E) : S := fun env cs => (g env cs).bind fun p => (f env p.2).bind fun q => (insAt c q.1 q.2).bind fun s => if s.2.length < 1000 then some (.nx, env, q.2.set s.1 (.ins c (putFA m p.1 s.2))) else none
theorem s_fld {c m : Str} {g : E} {value : Expr} {pos pos' : Pos} (hc : Cls X.K (He.ga X.K c)) (hn : NoAttr X.K (He.ga X.K c) m) (h : XE X e f) (hv : XE X value g) (hsw : swapsWith value (some (.Attribute e m pos')) pos.line X.env = pure false := by rfl) :
    XS X (.Assign [.Attribute e m pos'] value pos) (sFldF c m f g) := ps_imp (ps_fld h hv hsw) fun D σ H ⟨r, Z, env, cs, o, env', cs', hs, hr, hf, q⟩ => by
  obtain ⟨⟨p, cs1⟩, h1, hf⟩ := bnd hf
  obtain ⟨⟨p2, cs2⟩, h2, hf⟩ := bnd hf
  obtain ⟨⟨n, fs⟩, h3, hf⟩ := bnd hf
  obtain ⟨h4, hf⟩ := ifs hf
  cases hf
  refine ⟨r, Z, env, cs, p, cs1, hs, hr, h1, fun r1 Z1 H1 v x1 hs1 hv => ?_⟩
  refine ⟨r1, Z1, env, cs1, p2, cs2, hs1, hr.mono x1.pre x1.fz, h2, fun r2 Z2 H2 w x2 hs2 hw => ?_⟩
  obtain ⟨a, dx, vs, _, _, ha, rfl, h5, h6⟩ := ins_ok hs2 hw h3
  refine ⟨a, _, dx, vs, rfl, h5, hc, hn, by rw [h6.length]; exact h4, ?_⟩
  obtain ⟨k1, k2⟩ := hs2.put (o := .ins (He.ga X.K c) dx (putF m v vs)) (c := .ins c (putFA m p fs)) ha ⟨dx, _, upd_same, rp_putF (hv.mono x2.pre x2.fz) h6⟩
  have x12 := x1.trans x2
  exact q r2 Z2 _ σ (x12.trans k2) k1 (hr.mono x12.pre x12.fz)
/-- o.m(..) -/
def eMeth (c m : Str) (d : Den) (ds : List D) (f : E) (fs : As) : E := fun env cs => (f env cs).bind fun p => (insAt c p.1 p.2).bind fun s => if s.2.lookup m = none then (fs env p.2).bind fun q => callL d (p.1 :: (q.1 ++ ds.map A.d)) q.2 else none
theorem x_meth {c m : Str} {dvs : List V} {ds : List D} {E : XK} (hd : DC X.K dvs ds) (h : PE X e (tMeth (He.ga X.K c) m (spD X.K d) dvs E (tE X.K f) (tAs X.K fs))) : XE X e (eMeth c m d ds f fs) := pe_imp h fun σ H Q ⟨r, Z, env, cs, y, cs', hs, hr, hf, q⟩ => by
  obtain ⟨⟨p, cs1⟩, h1, hf⟩ := bnd hf
  obtain ⟨⟨n, gs⟩, h2, hf⟩ := bnd hf
  dsimp only at hf
  split at hf
  · rename_i h3
    obtain ⟨⟨ps, cs2⟩, h4, hf⟩ := bnd hf
    refine ⟨r, Z, env, cs, p, cs1, hs, hr, h1, fun r1 Z1 H1 v x1 hs1 hv => ?_⟩
    obtain ⟨a, dx, vs, _, _, _, rfl, h5, h6⟩ := ins_ok hs1 hv h2
    refine ⟨a, dx, vs, rfl, h5, (rp_lookup m h6).1 h3, r1, Z1, env, cs1, ps, cs2, hs1, hr.mono x1.pre x1.fz, h4, fun r2 Z2 H2 ws x2 hs2 hws => ?_⟩
    exact callL_ok hs2 (.cons (hv.mono x2.pre x2.fz) (ras_app hws (ras_d (hd Z2)))) hf fun r3 Z3 H3 w x3 hs3 hw => q r3 Z3 H3 w ((x1.trans x2).trans x3) hs3 hw
  · cases hf
theorem x_meth0 {c m : Str} {dvs : List V} {ds : List D} {E : XK} (hd : DC X.K dvs ds) (h : PE X e (tMeth (He.ga X.K c) m (spD X.K d) dvs E (tE X.K f) tNil)) : XE X e (eMeth c m d ds f aNil) := pe_imp h fun σ H Q ⟨r, Z, env, cs, y, cs', hs, hr, hf, q⟩ => by
  obtain ⟨⟨p, cs1⟩, h1, hf⟩ := bnd hf
  obtain ⟨⟨n, gs⟩, h2, hf⟩ := bnd hf
  dsimp only at hf
  split at hf
  · rename_i h3
    refine ⟨r, Z, env, cs, p, cs1, hs, hr, h1, fun r1 Z1 H1 v x1 hs1 hv => ?_⟩
    obtain ⟨a, dx, vs, _, _, _, rfl, h5, h6⟩ := ins_ok hs1 hv h2
    refine ⟨a, dx, vs, rfl, h5, (rp_lookup m h6).1 h3, ?_⟩
    exact callL_ok (E := E) hs1 (.cons hv (ras_d (hd Z1))) hf fun r3 Z3 H3 w x3 hs3 hw => q r3 Z3 H3 w (x1.trans x3) hs3 hw
  · cases hf
/-- e.m, a property -/
def eProp (c : Str) (d : Den) (f : E) : E := fun env cs => (f env cs).bind fun p => (insAt c p.1 p.2).bind fun _ => callL d [p.1] p.2
theorem x_prop {c : Str} {E : XK} (h : PE X e (tProp (He.ga X.K c) (spD X.K d) [] E (tE X.K f))) : XE X e (eProp c d f) := pe_imp h fun σ H Q ⟨r, Z, env, cs, y, cs', hs, hr, hf, q⟩ => by
  obtain ⟨⟨p, cs1⟩, h1, hf⟩ := bnd hf
  obtain ⟨⟨n, gs⟩, h2, hf⟩ := bnd hf
  refine ⟨r, Z, env, cs, p, cs1, hs, hr, h1, fun r1 Z1 H1 v x1 hs1 hv => ?_⟩
  obtain ⟨a, dx, vs, _, _, _, rfl, h5, h6⟩ := ins_ok hs1 hv h2
  refine ⟨a, dx, vs, rfl, h5, ?_⟩
  exact callL_ok hs1 (.cons hv .nil) hf fun r3 Z3 H3 w x3 hs3 hw => q r3 Z3 H3 w (x1.trans x3) hs3 hw
/-- C(..) -/
def eMake (c : Str) (d : Den) (ds : List D) (fs : As) : E := fun env cs => (fs env cs).bind fun p => (callL d (.loc p.2.length :: (p.1 ++ ds.map A.d)) (p.2 ++ [.ins c []])).bind fun s => match s.1 with
  | .d .none => some (.loc p.2.length, s.2)
  | _ => none
theorem make_ok {K : PySem.W.Frag} {c : Str} {dvs : List V} {ds : List D} {E : XK} (hd : DC K dvs ds) {r : List Addr} {Z H : Hp} {cs cs' : Cs} {xs : List A} {vs : List V} {z : A} {Q : VK} (hs : RS K r Z H cs) (hx : RAs K r Z vs xs)
    (hf : ((callL d (.loc cs.length :: (xs ++ ds.map A.d)) (cs ++ [.ins c []])).bind fun s => match s.1 with
      | .d .none => some (A.loc cs.length, s.2)
      | _ => none) = some (z, cs')) (q : ∀ r' Z' H' v, Ext r Z H r' Z' H' → RS K r' Z' H' cs' → RA K r' Z' v z → Q v H') :
    ∀ x dx, H x = none → H dx = none → dx ≠ x → spD K d (.ref x :: (vs ++ dvs)) (upd (upd H dx (.own x)) x (.ins (He.ga K c) dx [])) (fun v H2 => v = .non ∧ Q (.ref x) H2) E := by
  intro x dx hxn hdn hne
  obtain ⟨⟨s, cs2⟩, h1, hf⟩ := bnd hf
  have r0 : dx ∉ r := fun hm => by
    obtain ⟨u, hu⟩ := hs.there hm
    rw [hdn] at hu; cases hu
  have z0 : Z dx = none := hs.fz.free hdn
  have hs1 : RS K r Z (upd H dx (.own x)) cs := by
    refine RS.side (p := dx) (o := .own x) ?_ upd_same r0 z0
    rw [era_upd hdn]; exact hs
  have x1 : Ext r Z H r Z (upd H dx (.own x)) := ⟨List.prefix_rfl, Same.refl _, fun b o h _ => by rw [upd_ne (ne_of_none h hdn)]; exact h, fun b h => .inl h, fun b o h => .inl h, fun b h => by
    by_cases hb : b = dx
    · subst hb; exact hdn
    · rw [upd_ne hb] at h; exact h⟩
  have hx1 : upd H dx (.own x) x = none := by rw [upd_ne (Ne.symm hne)]; exact hxn
  obtain ⟨hs2, x2⟩ := hs1.alloc (o := .ins (He.ga K c) dx []) (c := .ins c []) hx1 ⟨dx, [], upd_same, .nil⟩
  have hself : RA K (r ++ [x]) Z (.ref x) (.loc cs.length) := ⟨x, by rw [← hs.len, List.getElem?_append_right (Nat.le_refl _)]; simp, rfl⟩
  have x12 := x1.trans x2
  refine callL_ok hs2 (.cons hself (ras_app (hx.mono x12.pre x12.fz) (ras_d (hd Z)))) h1 fun r3 Z3 H3 v x3 hs3 hv => ?_
  dsimp only at hf
  split at hf
  · cases hf
    exact ⟨of_non hv, q r3 Z3 H3 _ (x12.trans x3) hs3 (hself.mono x3.pre x3.fz)⟩
  · cases hf
theorem x_make {c : Str} {dvs : List V} {ds : List D} {E : XK} (hd : DC X.K dvs ds) (h : PE X e (tMake (He.ga X.K c) (spD X.K d) dvs E (tAs X.K fs))) : XE X e (eMake c d ds fs) := pe_imp h fun σ H Q ⟨r, Z, env, cs, y, cs', hs, hr, hf, q⟩ => by
  obtain ⟨⟨p, cs1⟩, h1, hf⟩ := bnd hf
  exact ⟨r, Z, env, cs, p, cs1, hs, hr, h1, fun r1 Z1 H1 vs x1 hs1 hvs => make_ok hd hs1 hvs hf fun r2 Z2 H2 v x2 hs2 hv => q r2 Z2 H2 v (x1.trans x2) hs2 hv⟩
end
end Fn
end
section
/-! Fn, part K: a def's body and its promise; the law's end. -/
namespace Fn
open PySem L2

inductive Pol where
  | frz | keep | exp
def closedA (k : Nat) : A → Bool
  | .loc n => decide (n < k)
  | _ => true
def closedC (k : Nat) : Cell → Bool
  | .lst _ => true
  | .dct kvs => kvs.all fun p => closedA k p.2
  | .ins _ fs => fs.all fun p => closedA k p.2
/-- what is handed back: what the def has made itself is frozen, kept or handed out -/
def leave (p : Pol) (k : Nat) (x : A) (cs : Cs) : Option (A × Cs) := match p with
  | .keep => some (x, cs)
  | .frz => if (cs.take k).all (closedC k) = true then (if closedA k x = true then some (x, cs.take k) else match x with
      | .loc n => (lstAt cs n).bind fun ds => some (.d (.list ds), cs.take k)
      | _ => none) else none
  | .exp => if (cs.take k).all (closedC k) = true then (if closedA k x = true then some (x, cs.take k) else match x with
      | .loc n => (lstAt cs n).bind fun ds => some (.loc k, cs.take k ++ [.lst ds])
      | _ => none) else none
def startE (n : Nat) (xs : List A) : Env := xs.map some ++ List.replicate (n - xs.length) none
def den (np nN : Nat) (pol : Pol) (body : S) : Den := fun xs cs => if xs.length = np then (body (startE nN xs) cs).bind fun p => match p.1 with
  | .nx => leave pol cs.length (.d .none) p.2.2
  | .rt x => leave pol cs.length x p.2.2
  | _ => none
else none
section
variable {K : PySem.W.Frag} {r r' : List Addr} {Z Z' H H' : Hp} {cs cs' : Cs}
theorem cl_a {t : List Addr} {x : A} {v : V} (h : RA K (r ++ t) Z v x) (c : closedA r.length x = true) : RA K r Z v x := by
  cases x with
  | d x => exact h
  | ro xs => exact h
  | loc n =>
    obtain ⟨a, ha, rfl⟩ := h
    have hn : n < r.length := of_decide_eq_true c
    rw [List.getElem?_append_left hn] at ha
    exact ⟨a, ha, rfl⟩
theorem cl_p {κ : Type} {t : List Addr} : ∀ {xs : List (κ × A)} {vs : List (κ × V)}, RP K (r ++ t) Z vs xs → (xs.all fun p => closedA r.length p.2) = true → RP K r Z vs xs
  | _, _, .nil, _ => .nil
  | _, _, .cons a q, c => by
    simp only [List.all_cons, Bool.and_eq_true] at c
    exact .cons (cl_a a c.1) (cl_p q c.2)
theorem cl_c {t : List Addr} {a : Addr} {c : Cell} (h : RC K (r ++ t) Z H a c) (k : closedC r.length c = true) : RC K r Z H a c := by
  cases c with
  | lst xs => exact h
  | dct kvs =>
    obtain ⟨vs, h1, h2⟩ := h
    exact ⟨vs, h1, cl_p h2 k⟩
  | ins c fs =>
    obtain ⟨dx, vs, h1, h2⟩ := h
    exact ⟨dx, vs, h1, cl_p h2 k⟩
theorem rs_take {t : List Addr} (hs : RS K (r ++ t) Z H cs) (hc : (cs.take r.length).all (closedC r.length) = true) : RS K r Z H (cs.take r.length) := by
  have l := hs.len
  rw [List.length_append] at l
  refine ⟨hs.fz, by rw [List.length_take]; omega, (List.nodup_append.mp hs.nd).1, fun a ha => hs.off a (List.mem_append_left _ ha), fun i a c h1 h2 => ?_⟩
  have hi : i < r.length := (List.getElem?_eq_some_iff.mp h1).1
  have h3 : cs[i]? = some c := by rw [List.getElem?_take_of_lt hi] at h2; exact h2
  exact cl_c (hs.cell i a c (by rw [List.getElem?_append_left hi]; exact h1) h3) (List.all_eq_true.mp hc c (mem_of_ix h2))
theorem leave_ok {pol : Pol} {x z : A} {v : V} {cs2 : Cs} {Q : VK} (hl : r.length = cs.length) (x1 : Ext r Z H r' Z' H') (hs : RS K r' Z' H' cs') (hv : RA K r' Z' v x) (e : leave pol cs.length x cs' = some (z, cs2))
    (q : ∀ r' Z' H' v, Ext r Z H r' Z' H' → RS K r' Z' H' cs2 → RA K r' Z' v z → Q v H') : Q v H' := by
  unfold leave at e
  cases pol with
  | keep => cases e; exact q r' Z' H' v x1 hs hv
  | frz =>
    dsimp only at e
    split at e
    case isFalse => cases e
    rename_i hc
    obtain ⟨t, rfl⟩ := x1.pre
    rw [← hl] at e hc
    have ht := rs_take hs hc
    have x2 : Ext r Z H r Z' H' := ⟨List.prefix_rfl, x1.fz, x1.keep, fun b h => .inl h, x1.fnew, x1.dom⟩
    split at e
    · rename_i hx
      cases e
      exact q r Z' H' v x2 ht (cl_a hv hx)
    · rename_i hx
      split at e
      · rename_i n
        obtain ⟨ds, h1, e⟩ := bnd e
        cases e
        obtain ⟨a, ha, rfl⟩ := hv
        have hn : ¬ n < r.length := fun h => hx (decide_eq_true h)
        rw [List.getElem?_append_right (by omega)] at ha
        have hat := mem_of_ix ha
        obtain ⟨vs, h2, h3⟩ := hs.cell n a _ (by rw [List.getElem?_append_right (by omega)]; exact ha) (lstAt_ok h1)
        have har : a ∉ r := fun hm => absurd rfl ((List.nodup_append.mp hs.nd).2.2 a hm a hat)
        have hza : Z' a = none := hs.off a (List.mem_append_right _ hat)
        have e1 : Same Z' (upd Z' a (.lst vs)) := fun b u w => by rw [upd_ne (ne_of_none w hza)]; exact w
        refine q r (upd Z' a (.lst vs)) H' (.ref a) ⟨List.prefix_rfl, x1.fz.trans e1, x1.keep, fun b h => .inl h, fun b o h => ?_, x1.dom⟩ ⟨fun b u w => ?_, ht.len, ht.nd, fun b hb => ?_, fun i b c h4 h5 => ?_⟩ (RD.lst upd_same (RDs.mono e1 ds vs h3))
        · by_cases hb : b = a
          · subst hb
            rcases x1.new b (List.mem_append_right _ hat) with w | w
            · exact absurd w har
            · exact .inr w
          · rw [upd_ne hb] at h; exact x1.fnew b o h
        · by_cases hb : b = a
          · subst hb; rw [upd_same] at w; rw [h2]; exact w
          · rw [upd_ne hb] at w; exact ht.fz b u w
        · rw [upd_ne (fun w => har (by rw [← w]; exact hb))]; exact ht.off b hb
        · exact (ht.cell i b c h4 h5).mono List.prefix_rfl e1 fun _ w => w
      · cases e
  | exp =>
    dsimp only at e
    split at e
    case isFalse => cases e
    rename_i hc
    obtain ⟨t, rfl⟩ := x1.pre
    rw [← hl] at e hc
    have ht := rs_take hs hc
    have x2 : Ext r Z H r Z' H' := ⟨List.prefix_rfl, x1.fz, x1.keep, fun b h => .inl h, x1.fnew, x1.dom⟩
    split at e
    · rename_i hx
      cases e
      exact q r Z' H' v x2 ht (cl_a hv hx)
    · rename_i hx
      split at e
      · rename_i n
        obtain ⟨ds, h1, e⟩ := bnd e
        cases e
        obtain ⟨a, ha, rfl⟩ := hv
        have hn : ¬ n < r.length := fun h => hx (decide_eq_true h)
        rw [List.getElem?_append_right (by omega)] at ha
        have hat := mem_of_ix ha
        obtain ⟨vs, h2, h3⟩ := hs.cell n a _ (by rw [List.getElem?_append_right (by omega)]; exact ha) (lstAt_ok h1)
        have har : a ∉ r := fun hm => absurd rfl ((List.nodup_append.mp hs.nd).2.2 a hm a hat)
        generalize List.take r.length cs' = T at ht q
        have tl := ht.len
        refine q (r ++ [a]) Z' H' (.ref a) ⟨List.prefix_append r [a], x1.fz, x1.keep, fun b h => ?_, x1.fnew, x1.dom⟩ ⟨hs.fz, by simp [tl], ?_, fun b hb => ?_, fun i b c h4 h5 => ?_⟩ ⟨a, by simp, rfl⟩
        · rcases List.mem_append.mp h with w | w
          · exact .inl w
          · rw [List.mem_singleton] at w
            subst w
            rcases x1.new b (List.mem_append_right _ hat) with w | w
            · exact absurd w har
            · exact .inr w
        · rw [List.nodup_append]
          refine ⟨ht.nd, by simp, fun b hb d hd w => ?_⟩
          rw [List.mem_singleton] at hd
          subst hd; subst w; exact har hb
        · rcases List.mem_append.mp hb with w | w
          · exact ht.off b w
          · rw [List.mem_singleton] at w
            subst w
            exact hs.off b (List.mem_append_right _ hat)
        · by_cases hi : i < r.length
          · rw [List.getElem?_append_left hi] at h4
            rw [List.getElem?_append_left (by rw [← tl]; exact hi)] at h5
            exact (ht.cell i b c h4 h5).mono (List.prefix_append r [a]) (Same.refl _) fun _ w => w
          · have := (List.getElem?_eq_some_iff.mp h4).1
            rw [List.length_append, List.length_singleton] at this
            have ei : i = r.length := by omega
            subst ei
            rw [List.getElem?_append_right (Nat.le_refl _)] at h4
            rw [tl, List.getElem?_append_right (Nat.le_refl _)] at h5
            simp at h4 h5
            subst h4; subst h5
            exact ⟨vs, h2, h3⟩
      · cases e
theorem re_start {N : List Str} {xs : List A} {vs : List V} (h : RAs K r Z vs xs) : RE K r Z (startE N.length xs) (L2.start N vs) := by
  have l := h.length
  refine ⟨by simp [startE, L2.start, l], fun i x hx => ?_⟩
  unfold startE at hx
  by_cases hi : i < xs.length
  · rw [List.getElem?_append_left (by simpa using hi), List.getElem?_map] at hx
    have : ∀ {xs : List A} {vs : List V} {i : Nat} {x : A}, RAs K r Z vs xs → xs[i]? = some x → ∃ v, vs[i]? = some v ∧ RA K r Z v x := by
      intro xs vs i x h
      induction h generalizing i with
      | nil => intro e; simp at e
      | cons a t ih =>
        intro e
        cases i with
        | zero => simp at e; subst e; exact ⟨_, rfl, a⟩
        | succ i =>
          obtain ⟨v, h1, h2⟩ := ih (i := i) (by simpa using e)
          exact ⟨v, by simpa using h1, h2⟩
    cases e : xs[i]? with
    | none => rw [e] at hx; cases hx
    | some y =>
      rw [e] at hx
      cases hx
      obtain ⟨v, h1, h2⟩ := this h e
      refine ⟨v, ?_, h2⟩
      unfold L2.start
      rw [List.getElem?_append_left (by rw [List.length_map, l]; exact hi), List.getElem?_map, h1]
      rfl
  · rw [List.getElem?_append_right (by simpa using hi), List.getElem?_replicate] at hx
    split at hx <;> cases hx
end
/-- a def holds the promise of its plain function -/
theorem fn_ok {P : Program} {w : World} {K : PySem.W.Frag} {mg : Str → Option Value} {base : Heap} {x qual : Str} {params : Arguments} {body : List Stmt} {scope : Scope} {dvs : List V} {kws : List (Str × V)} {f : Addr} {fd : FuncData} {N ps : List Str} {k : Nat} {fb : S} {pol : Pol}
    (F : FunD K x qual params body scope dvs kws f fd) (S : FnScope N ps scope)
    (hb : ∀ (X : Cx), X.K = K → X.prog = P → X.w = w → X.mg = mg → X.base = base → X.N = N → X.calm = true → X.env.scope = scope → (∀ y, X.fn y = true) → Room k X.A → PassesOwn (model X.prog X.w) X.A X.env X.xe → X.xe = (fun _ _ => False) → True → PSs X body (tS K fb)) :
    FnOk P w K mg base CX0 (k + 1) f fd ps (spD K (den ps.length N.length pol fb)) := by
  refine F.ok S (fun vs H Q E h => ?_) (fun cdv A outer s H vs Q E hr h => ⟨tS K fb, PSs.nox ?_, ?_⟩)
  · obtain ⟨r, Z, xs, cs, z, cs', hs, hx, hf, q⟩ := h
    unfold den at hf
    split at hf
    · rename_i hl
      rw [hx.length, hl]
    · cases hf
  · exact hb _ rfl rfl rfl rfl rfl rfl rfl rfl (fun _ => rfl) hr PassesOwn.never rfl trivial
  · obtain ⟨r, Z, xs, cs, z, cs', hs, hx, hf, q⟩ := h
    unfold den at hf
    split at hf
    case isFalse => cases hf
    obtain ⟨⟨o, env', cs1⟩, h1, hf⟩ := bnd hf
    refine ⟨r, Z, startE N.length xs, cs, o, env', cs1, hs, re_start hx, h1, fun r1 Z1 H1 σ1 x1 hs1 hr1 => ?_⟩
    cases o with
    | nx => exact leave_ok hs.len x1 hs1 (x := .d .none) RD.non hf q
    | rt y => exact fun v hv => leave_ok hs.len x1 hs1 hv hf q
    | bk => cases hf
    | ct => cases hf
/-- the law's def, called with the script -/
theorem law_sp {K : PySem.W.Frag} {d : Den} {H : Hp} {a : Addr} {ns : List Int} {cs' : Cs} {E : XK} (hS : SqL K H a (ns.map V.int)) (h : d [.ro (ns.map PyData.int)] [] = some (.d (.bool true), cs')) :
    spD K d [.ref a] H (fun v _ => v = .bl true) E := by
  have hZ : SqL K (fun b => if b = a then H a else none) a (ns.map V.int) := by
    have e : (fun b => if b = a then H a else none : Hp) a = H a := if_pos rfl
    rcases hS with (q | ⟨o, q⟩) | q
    · exact .inl (.inl (by rw [e]; exact q))
    · exact .inl (.inr ⟨o, by rw [e]; exact q⟩)
    · exact .inr q
  have hA : RA K [] (fun b => if b = a then H a else none) (.ref a) (.ro (ns.map PyData.int)) := ⟨a, ns.map V.int, rfl, hZ, .ints ns⟩
  refine ⟨[], fun b => if b = a then H a else none, [.ro (ns.map PyData.int)], [], _, cs', ⟨fun b u q => ?_, rfl, List.nodup_nil, fun _ z => (nomatch z), fun i a c h1 _ => by simp at h1⟩, .cons hA .nil, h, fun r' Z' H' v _ _ hv => of_bl hv⟩
  split at q
  · rename_i hb
    subst hb; exact q
  · cases q
end Fn
end
section
/-! Fn, part Z: zip of two texts, sign by sign. -/
namespace Fn
open PySem L2

abbrev sgn (c : Nat) : Str := ⟨#[c]⟩
def ItzS (x y : Str) : It := ⟨fun i _ => i < min x.cps.size y.cps.size, fun i H v H' => ∃ T c d, v = .ref T ∧ H T = none ∧ H' = upd H T (.tup [.str (sgn c), .str (sgn d)]) ∧ x.cps[i]? = some c ∧ y.cps[i]? = some d,
  fun i _ => min x.cps.size y.cps.size ≤ i⟩
abbrev five (z : Addr) (a b c d : Addr) : List Addr := [z, a, b, c, d]
theorem in_five {z a b c d e : Addr} (h : e ∈ five z a b c d) : e = z ∨ e = a ∨ e = b ∨ e = c ∨ e = d := by simpa [five] using h
theorem turn_zipS {P : Program} {w : World} {K : PySem.W.Frag} {es : List Expr} {kk : Nat} {tp : Pos} {z TI TO i1 i2 : Addr} (D : ZipSep2 z TI TO i1 i2 [i1] [i2]) (x y : Str) (t1 t2 : Tok) :
    Turn P w K (.Tuple es kk tp) (ItzS x y) (five z TI TO i1 i2) z (fun i h => i ≤ min x.cps.size y.cps.size ∧ IsZip h z TI TO .none ∧ IsTupOf2 h TI (.ref i1) (.ref i2) ∧ (∃ a b, IsTupOf2 h TO a b) ∧ h.IsStrIter i1 (strIterType x) x t1 i ∧ h.IsStrIter i2 (strIterType y) y t2 i) where
  mem := by simp [five]
  obj := fun i h ⟨_, hz, hI, ⟨a, b, hO⟩, ⟨o1, e1, _, d1⟩, ⟨o2, e2, _, d2⟩⟩ c hc => by
    rcases in_five hc with rfl | rfl | rfl | rfl | rfl
    · exact ⟨_, hz, fun v q => (nomatch q)⟩
    · exact ⟨_, hI, fun v q => (nomatch q)⟩
    · exact ⟨_, hO, fun v q => (nomatch q)⟩
    · exact ⟨o1, e1, fun v q => by rw [d1] at q; cases q⟩
    · exact ⟨o2, e2, fun v q => by rw [d2] at q; cases q⟩
  keep := fun i h h' ⟨hi, hz, hI, ⟨a, b, hO⟩, ⟨o1, e1, r1⟩, ⟨o2, e2, r2⟩⟩ k =>
    ⟨hi, k z (by simp [five]) _ hz, k TI (by simp [five]) _ hI, ⟨a, b, k TO (by simp [five]) _ hO⟩, ⟨o1, k i1 (by simp [five]) _ e1, r1⟩, ⟨o2, k i2 (by simp [five]) _ e2, r2⟩⟩
  item := by
    intro X hP hw hK hc i pins s σ H E I hf ⟨hi, hz, hI, ⟨a, b, hO⟩, h1, h2⟩ hg
    subst hP hw hK
    have hg : i < min x.cps.size y.cps.size := hg
    have hh : X.A.in1.handled = none := I.ok.hd hc
    have zl : z < s.heap.objs.size := Heap.lt_size hz
    refine wpAny_pyNext_zipD2_item D (Draws.text hh i1 x t1) (Draws.text hh i2 y t2) hz hI hO h1 h2 (by omega) (by omega) fun v1 v2 h' tk q1 q2 z' O' j1 j2 hT hsz hk => ?_
    obtain ⟨c, u, hcx, rfl⟩ := q1
    obtain ⟨d, u2, hdy, rfl⟩ := q2
    refine ⟨_, rfl, wpAny_letOwnedTupleGo_zip (s := { s with heap := h', toks := tk }) z' fun h'' z'' sb => ?_⟩
    have same : ∀ {b o}, b ≠ z → h'.get? b = some o → h''.get? b = some o := fun hb e => (sb.2 _ hb).trans e
    have hT2 := same (Nat.ne_of_gt zl) hT
    have new : ObjOk X.prog X.w (upd H s.heap.objs.size (.tup [.str (sgn c), .str (sgn d)])) h'' s.heap.objs.size (.tup [.str (sgn c), .str (sgn d)]) :=
      ⟨by show 2 ≤ sizeLine; decide, [.str ⟨#[c]⟩ u, .str ⟨#[d]⟩ u2], .cons ⟨u, rfl⟩ (.cons ⟨u2, rfl⟩ .nil), ⟨_, hT2, rfl, _, rfl⟩⟩
    have I1 : Inv X pins σ (upd H s.heap.objs.size (.tup [.str (sgn c), .str (sgn d)])) { s with heap := h'', toks := tk } :=
      I.turnedNew (ch := five z TI TO i1 i2) (fun b o hb q => same (fun e => hb (by simp [five, e])) (hk b o (fun e => hb (by simp [five, e])) (fun e => hb (by simp [five, e])) (fun e => hb (by simp [five, e])) (fun e => hb (by simp [five, e])) q)) hf (Nat.le_refl _) new
    obtain ⟨p1, g1, r1⟩ := h1
    obtain ⟨p2, g2, r2⟩ := h2
    obtain ⟨p1', g1', r1'⟩ := j1
    obtain ⟨p2', g2', r2'⟩ := j2
    refine ⟨.ref s.heap.objs.size, _, I1, rfl, ⟨_, c, d, rfl, I.hok.fresh (Nat.le_refl _), rfl, hcx, hdy⟩, ⟨by omega, z'', same D.TIz (hk _ _ D.TIz D.TITO D.TIi1 D.TIi2 hI), ⟨_, _, same D.TOz O'⟩, ⟨_, same (Ne.symm D.zi1) g1', r1'⟩, ⟨_, same (Ne.symm D.zi2) g2', r2'⟩⟩, fun b hb => ?_⟩
    have hlt : b < s.heap.objs.size := by
      rcases in_five hb with rfl | rfl | rfl | rfl | rfl
      · exact zl
      · exact Heap.lt_size hI
      · exact Heap.lt_size hO
      · exact Heap.lt_size g1
      · exact Heap.lt_size g2
    rw [upd_ne (Nat.ne_of_lt hlt)]
    exact (hf b hb).1
  done := by
    intro X hP hw hK hc i pins s σ H E I hf ⟨hi, hz, hI, ⟨a, b, hO⟩, h1, h2⟩ hg
    subst hP hw hK
    have hg : min x.cps.size y.cps.size ≤ i := hg
    have hh : X.A.in1.handled = none := I.ok.hd hc
    refine wpAny_pyNext_zipD2_end D (Draws.text hh i1 x t1) (Draws.text hh i2 y t2) hz hI hO h1 h2 (by omega) (by omega) (by omega) fun h' tk hk => ⟨rfl, ?_⟩
    exact I.turnedL (t' := tk) (ch := five z TI TO i1 i2) (fun b o hb q => hk b o (fun e => hb (by simp [five, e])) (fun e => hb (by simp [five, e])) (fun e => hb (by simp [five, e])) (fun e => hb (by simp [five, e])) q) hf
  self := fun A i s Q E st h => wpAny_pyIter_zip st.2.1 h
def iZipS (ta : TA) : TI := fun σ H R => ta σ H fun vs H1 => ∃ x y, vs = [.str x, .str y] ∧ R (ItzS x y) H1
theorem pi_zipS {X : Cx} {e e2 : Expr} {ta : TA} {p pos tp : Pos} {es : List Expr} {kk : Nat} (hg : Gl X "zip") (hm : X.mg "zip" = none) (ha : PA X [e, e2] ta)
    (hs : starEach [e, e2] X.env = (false, eval e X.env) :: starEach [e2] X.env := by rfl) (hpl : (backTo pos (starEach [e2] X.env)).any (·.1) = false := by rfl) : PI X (.Tuple es kk tp) (.Call (.Name "zip" p) [e, e2] [] pos) (iZipS ta) := by
  refine ⟨fun pins s σ H R I h => PyProof.Rows.Call_ (ld_blt I hg hm PyProof.Rows.boot_zip (PyProof.Rows.callWith_type1 (thn (ha.run pos pins s σ H _ I h) fun us s1 ⟨vs, H1, I1, r1, x, y, ex, q⟩ => ?_) hs hpl))⟩
  subst ex
  obtain ⟨u1, u2, rfl, ⟨t1, rfl⟩, ⟨t2, rfl⟩⟩ := Vals.two r1
  refine zip_begins2 (begins_text x t1) (begins_text y t2) trivial trivial fun h' hz hI hO g1 g2 hsz hk => wpAny_pyIter_zip hz ?_
  have I2 : Inv X pins σ H1 { s1 with heap := h' } := I1.kept (t' := s1.toks) hk
  have ne : ∀ {a b : Nat}, a ≠ b → s1.heap.objs.size + a ≠ s1.heap.objs.size + b := fun h e => h (Nat.add_left_cancel e)
  have D : ZipSep2 (s1.heap.objs.size + 4) (s1.heap.objs.size + 2) (s1.heap.objs.size + 3) s1.heap.objs.size (s1.heap.objs.size + 1) [s1.heap.objs.size] [s1.heap.objs.size + 1] := by
    constructor <;> simp
  refine ⟨s1.heap.objs.size + 4, five (s1.heap.objs.size + 4) (s1.heap.objs.size + 2) (s1.heap.objs.size + 3) s1.heap.objs.size (s1.heap.objs.size + 1), _, _, H1, rfl, I2, turn_zipS D x y t1 t2, ⟨Nat.zero_le _, hz, hI, ⟨_, _, hO⟩, ⟨_, g1, rfl, rfl⟩, ⟨_, g2, rfl, rfl⟩⟩, fun b hb => ?_, q⟩
  have hle : s1.heap.objs.size ≤ b := by
    rcases in_five hb with e | e | e | e | e <;> rw [e] <;> first | exact Nat.le_add_right _ _ | exact Nat.le_refl _
  exact I1.fpOk hle (I1.hok.fresh hle)
def zipS (x y : Str) : List D := (x.cps.toList.zip y.cps.toList).map fun p => .tuple [.str (sgn p.1), .str (sgn p.2)]
def iZip (fs : As) : I := fun env cs => (fs env cs).bind fun p => match p.1 with
  | [.d (.str x), .d (.str y)] => some (zipS x y, none, p.2)
  | _ => none
theorem zipS_len (x y : Str) : (zipS x y).length = min x.cps.size y.cps.size := by simp [zipS]
theorem y_zipS {K : PySem.W.Frag} {r : List Addr} {Z : Hp} {x y : Str} : Yields K r Z (ItzS x y) (zipS x y) none := by
  refine ⟨fun i r1 Z1 H1 cs1 hp e h1 _ hi => by show i < _; rw [← zipS_len]; exact hi, fun r1 Z1 H1 cs1 hp e h1 _ => by show _ ≤ _; rw [← zipS_len]; exact Nat.le_refl _, fun i r1 Z1 H1 cs1 v H' hp e h1 _ hi yy => ?_⟩
  obtain ⟨T, c, d, rfl, hT, rfl, hc, hd⟩ := yy
  obtain ⟨f1, f2⟩ := h1.freeze (o := .tup [.str (sgn c), .str (sgn d)]) hT
  refine ⟨_, _, f2, f1, ?_, RD.tup (.inl (.inl upd_same)) (.cons (.str _) (.one (.str _)))⟩
  rw [← Array.getElem?_toList] at hc hd
  unfold zipS
  rw [List.getElem?_map, (List.getElem?_zip_eq_some (z := (c, d))).mpr ⟨hc, hd⟩]
  rfl
theorem xi_zip {X : Cx} {tg e : Expr} {fs : As} (h : PI X tg e (iZipS (tAs X.K fs))) : XI X tg e (iZip fs) := pi_imp h fun σ H R ⟨r, Z, env, cs, xs, lk, cs', hs, hr, hf, q⟩ => by
  obtain ⟨⟨p, cs1⟩, h1, hf⟩ := bnd hf
  refine ⟨r, Z, env, cs, p, cs1, hs, hr, h1, fun r1 Z1 H1 vs x1 hs1 hv => ?_⟩
  dsimp only at hf
  split at hf
  · cases hf
    obtain ⟨u, w, rfl, hu, hw⟩ := ras2 hv
    rw [of_str hu, of_str hw]
    exact ⟨_, _, rfl, q r1 Z1 H1 _ x1 hs1 y_zipS⟩
  · cases hf
end Fn
end
section
/-! Fn, part X: what is wanted besides. -/
namespace Fn
open PySem L2

section
variable {X : Cx} {e e2 : Expr} {pos : Pos} {f g : E} {fs gs : As}
/-! module constants -/
theorem x_gint {x : Str} {i : Int} (h : ∃ t, X.mg x = some (.int i t)) (hg : Gl X x) (hd : (x == ("__debug__" : Str)) = false := by decide) : XE X (.Name x pos) (eC (.int i)) := by
  obtain ⟨t, h⟩ := h
  exact x_c (pe_glob (v := .int i) hg h ⟨t, rfl⟩ hd) fun _ => .int i
theorem x_gstr {x : Str} {i : Str} (h : ∃ t, X.mg x = some (.str i t)) (hg : Gl X x) (hd : (x == ("__debug__" : Str)) = false := by decide) : XE X (.Name x pos) (eC (.str i)) := by
  obtain ⟨t, h⟩ := h
  exact x_c (pe_glob (v := .str i) hg h ⟨t, rfl⟩ hd) fun _ => .str i
/-! a slice of a list, a text or a tuple, whatever stands there -/
def eSl (f : E) (lo hi : O) : E := fun env cs => (f env cs).bind fun p => (lo env p.2).bind fun a => (hi env a.2).bind fun b => match p.1 with
  | .d (.str z) => if z.length ≤ sizeLine then some (.d (.str (cutS z a.1 b.1)), b.2) else none
  | x => (seqL x b.2).bind fun xs => some (.d (.list (cutD xs a.1 b.1)), b.2)
theorem x_sl {lo hi : Option Expr} {fl fh : O} {p2 : Pos} (he : XE X e f) (hl : XO X lo fl) (hh : XO X hi fh) : XE X (.Subscript e (.Slice lo hi none p2) pos) (eSl f fl fh) :=
  pe_imp (pe_slice (sl_list.or sl_str) he hl hh) fun σ H Q ⟨r, Z, env, cs, ds, cs', hs, he, hf, q⟩ => by
    obtain ⟨⟨p, cs1⟩, h1, hf⟩ := bnd hf
    obtain ⟨⟨a, cs2⟩, h2, hf⟩ := bnd hf
    obtain ⟨⟨b, cs3⟩, h3, hf⟩ := bnd hf
    refine ⟨r, Z, env, cs, p, cs1, hs, he, h1, fun r1 Z1 H1 v x1 hs1 ha => ?_⟩
    refine ⟨r1, Z1, env, cs1, a, cs2, hs1, he.mono x1.pre x1.fz, h2, fun r2 Z2 H2 x2 hs2 => ?_⟩
    refine ⟨r2, Z2, env, cs2, b, cs3, hs2, (he.mono x1.pre x1.fz).mono x2.pre x2.fz, h3, fun r3 Z3 H3 x3 hs3 => ?_⟩
    dsimp only at hf
    split at hf
    · obtain ⟨hz, hf⟩ := ifs hf
      cases hf
      exact .inr ⟨_, of_str ha, hz, q r3 Z3 H3 _ ((x1.trans x2).trans x3) hs3 (RD.str _)⟩
    · obtain ⟨xs, h4, hf⟩ := bnd hf
      cases hf
      obtain ⟨l, vs, rfl, t1, d1⟩ := seqL_ok hs3 ((ha.mono x2.pre x2.fz).mono x3.pre x3.fz) h4
      exact .inl ⟨l, vs, rfl, t1, fun p' hp => frz_l hs3 hp (cut_rd d1) fun r4 Z4 H4 v x4 hs4 hv => q r4 Z4 H4 v (((x1.trans x2).trans x3).trans x4) hs4 hv⟩
/-! keywords, the numbers of values told -/
def eCallN (n m : Nat) (d : Den) (g : List A → List A → List A) (fs gs : As) : E := fun env cs => (fs env cs).bind fun p => (gs env p.2).bind fun q => if p.1.length = n ∧ q.1.length = m then callL d (g p.1 q.1) q.2 else none
theorem x_callN {n m : Nat} {d : Den} {gV : List V → List V → List V} {g : List A → List A → List A} {E : XK} (hg : ∀ r Z vs zs xs ys, RAs X.K r Z vs xs → RAs X.K r Z zs ys → RAs X.K r Z (gV vs zs) (g xs ys)) (h : PE X e (tCallN n m (spD X.K d) gV E (tAs X.K fs) (tAs X.K gs))) : XE X e (eCallN n m d g fs gs) :=
  pe_imp h fun σ H Q ⟨r, Z, env, cs, y, cs', hs, hr, hf, q⟩ => by
    obtain ⟨⟨p, cs1⟩, h1, hf⟩ := bnd hf
    obtain ⟨⟨p2, cs2⟩, h2, hf⟩ := bnd hf
    dsimp only at hf
    split at hf
    · rename_i hl
      refine ⟨r, Z, env, cs, p, cs1, hs, hr, h1, fun r1 Z1 H1 vs x1 hs1 hvs => ?_⟩
      exact ⟨r1, Z1, env, cs1, p2, cs2, hs1, hr.mono x1.pre x1.fz, h2, fun r2 Z2 H2 zs x2 hs2 hzs => ⟨hvs.length.trans hl.1, hzs.length.trans hl.2, callL_ok hs2 (hg _ _ _ _ _ _ (hvs.mono x2.pre x2.fz) hzs) hf fun r3 Z3 H3 v x3 hs3 hv => q r3 Z3 H3 v ((x1.trans x2).trans x3) hs3 hv⟩⟩
    · cases hf
theorem ras_cat {K : PySem.W.Frag} : ∀ r Z vs zs xs ys, RAs K r Z vs xs → RAs K r Z zs ys → RAs K r Z (vs ++ zs) (xs ++ ys) := fun _ _ _ _ _ _ h h' => ras_app h h'
/-! isinstance -/
def tyA (x : A) (cs : Cs) : Option String := match x with
  | .d .none => some "NoneType"
  | .d (.bool _) => some "bool"
  | .d (.int _) => some "int"
  | .d (.str _) => some "str"
  | .d (.list _) => some "list"
  | .d (.tuple _) => some "tuple"
  | .ro _ => some "list"
  | .loc n => match cs[n]? with
    | some (.lst _) => some "list"
    | some (.dct _) => some "dict"
    | _ => none
  | _ => none
def eIsi (U : String) (f : E) : E := fun env cs => (f env cs).bind fun p => (tyA p.1 p.2).bind fun T => (kitB T U).bind fun b => some (.d (.bool b), p.2)
theorem ty_l {K : PySem.W.Frag} {H : Hp} {a : Addr} {vs : List V} (h : SqL K H a vs) : TyX K H (.ref a) (.type "list") := by
  rcases h with (h | ⟨o, h⟩) | ⟨o, its, n, h, hc, _⟩
  · exact .base (.lst h)
  · exact .base (.frz h)
  · exact .kList h hc
theorem ty_t {K : PySem.W.Frag} {H : Hp} {a : Addr} {vs : List V} (h : SqT K H a vs) : TyX K H (.ref a) (.type "tuple") := by
  rcases h with (h | ⟨o, h⟩) | ⟨o, its, n, h, hc, _⟩
  · exact .base (.tup h)
  · exact .fTuple h
  · exact .kTuple h hc
theorem ty_ok {K : PySem.W.Frag} {r : List Addr} {Z H : Hp} {cs : Cs} {x : A} {v : V} {T : String} (hs : RS K r Z H cs) (hx : RA K r Z v x) (e : tyA x cs = some T) : TyX K H v (.type T) := by
  unfold tyA at e
  split at e
  · cases e; rw [of_non hx]; exact .base .non
  · cases e; rw [of_bl hx]; exact .base (.bl _)
  · cases e; rw [of_int hx]; exact .base (.int _)
  · cases e; rw [of_str hx]; exact .base (.str _)
  · cases e
    obtain ⟨a, vs, rfl, h1, _⟩ := seqL_ok hs hx rfl
    exact ty_l h1
  · cases e
    obtain ⟨a, vs, rfl, h1, _⟩ := seqT_ok hs hx rfl
    exact ty_t h1
  · cases e
    obtain ⟨a, vs, rfl, h1, _⟩ := seqL_ok hs hx rfl
    exact ty_l h1
  · obtain ⟨a, ha, rfl⟩ := hx
    split at e
    · rename_i hc
      cases e
      obtain ⟨vs, h1, _⟩ := hs.cell _ a _ ha hc
      exact .base (.lst h1)
    · rename_i hc
      cases e
      obtain ⟨vs, h1, _⟩ := hs.cell _ a _ ha hc
      exact .base (.dK h1)
    · cases e
  · cases e
theorem x_isi {U : String} (h : PE X e (tCB (rIsi X.K) (tCons (tE X.K f) (tCons (tC (.ty U)) tNil)))) : XE X e (eIsi U f) := pe_imp h fun σ H Q ⟨r, Z, env, cs, y, cs', hs, hr, hf, q⟩ => by
  obtain ⟨⟨p, cs1⟩, h1, hf⟩ := bnd hf
  obtain ⟨T, h2, hf⟩ := bnd hf
  obtain ⟨b, h3, hf⟩ := bnd hf
  cases hf
  exact ⟨r, Z, env, cs, p, _, hs, hr, h1, fun r1 Z1 H1 v x1 hs1 hv => ⟨v, .ty U, .type T, .type U, b, rfl, .ty U, ty_ok hs1 hv h2, kit_ty h3, q r1 Z1 H1 _ x1 hs1 (RD.bl b)⟩⟩
/-! a = b = e -/
theorem s_set2 {st : Stmt} {i j : Nat} (h : PS X st (tAsg2 (tE X.K f) (gName i) (gName j))) : XS X st (sSet2 i j f) := ps_imp h fun D σ H ⟨r, Z, env, cs, o, env', cs', hs, hr, hf, q⟩ => by
  obtain ⟨⟨p, cs1⟩, h1, hf⟩ := bnd hf
  cases hf
  exact ⟨r, Z, env, cs, p, _, hs, hr, h1, fun r1 Z1 H1 v x1 hs1 hv => q r1 Z1 H1 _ x1 hs1 (((hr.mono x1.pre x1.fz).set i hv).set j hv)⟩
/-! x = [..] where x is a plain local -/
theorem lc_frz {K : PySem.W.Frag} {it : I} {tg : TG} {gg : G} {ids own : List Nat} {t : T} {elt : E} (hG : GF K tg gg ids) (hi : ∀ j ∈ ids, j ∈ own) {σ : St} {H : Hp} {Q : VK} (h : tE K (eFrz (fComp own it gg t elt)) σ H Q) : tLc (tI K it) tg (tT K t) (tE K elt) own σ H Q := by
  obtain ⟨r, Z, env, cs, y, cs', hs, hr, hf, q⟩ := h
  obtain ⟨⟨xs, cs1⟩, h1, hf⟩ := bnd hf
  cases hf
  exact comp_ok hG hi ⟨r, Z, env, cs, xs, _, hs, hr, h1, fun r1 Z1 H1 p vs x1 hs1 hp hd => frz_l hs1 hp hd fun r2 Z2 H2 v x2 hs2 hv => q r2 Z2 H2 v (x1.trans x2) hs2 hv⟩
theorem lc_cell {K : PySem.W.Frag} {it : I} {tg : TG} {gg : G} {ids own : List Nat} {t : T} {elt : E} (hG : GF K tg gg ids) (hi : ∀ j ∈ ids, j ∈ own) {σ : St} {H : Hp} {Q : VK} (h : tE K (eCell (fComp own it gg t elt)) σ H Q) : tLc (tI K it) tg (tT K t) (tE K elt) own σ H Q := by
  obtain ⟨r, Z, env, cs, y, cs', hs, hr, hf, q⟩ := h
  obtain ⟨⟨xs, cs1⟩, h1, hf⟩ := bnd hf
  cases hf
  refine comp_ok hG hi ⟨r, Z, env, cs, xs, cs1, hs, hr, h1, fun r1 Z1 H1 p vs x1 hs1 hp hd => ?_⟩
  obtain ⟨h2, h3⟩ := hs1.alloc (o := .lst vs) (c := .lst xs) hp ⟨vs, upd_same, hd⟩
  refine q _ _ _ _ (x1.trans h3) h2 ⟨p, ?_, rfl⟩
  rw [← hs1.len, List.getElem?_append_right (Nat.le_refl _)]
  simp
theorem s_lcF {st : Stmt} {i : Nat} {it : I} {tg : TG} {gg : G} {ids own : List Nat} {t : T} {elt : E} (hG : GF X.K tg gg ids) (hi : ∀ j ∈ ids, j ∈ own) (h : PS X st (tAsg (tLc (tI X.K it) tg (tT X.K t) (tE X.K elt) own) (gName i))) : XS X st (sSet i (eFrz (fComp own it gg t elt))) :=
  ps_imp h fun D σ H q => lc_frz hG hi (Q := fun x H1 => gName i x σ H1 D.nx) (by
    obtain ⟨r, Z, env, cs, o, env', cs', hs, hr, hf, q⟩ := q
    obtain ⟨⟨p, cs1⟩, h1, hf⟩ := bnd hf
    cases hf
    exact ⟨r, Z, env, cs, p, _, hs, hr, h1, fun r1 Z1 H1 v x1 hs1 hv => q r1 Z1 H1 _ x1 hs1 ((hr.mono x1.pre x1.fz).set i hv)⟩)
theorem s_lcC {st : Stmt} {i : Nat} {it : I} {tg : TG} {gg : G} {ids own : List Nat} {t : T} {elt : E} (hG : GF X.K tg gg ids) (hi : ∀ j ∈ ids, j ∈ own) (h : PS X st (tAsg (tLc (tI X.K it) tg (tT X.K t) (tE X.K elt) own) (gName i))) : XS X st (sSet i (eCell (fComp own it gg t elt))) :=
  ps_imp h fun D σ H q => lc_cell hG hi (Q := fun x H1 => gName i x σ H1 D.nx) (by
    obtain ⟨r, Z, env, cs, o, env', cs', hs, hr, hf, q⟩ := q
    obtain ⟨⟨p, cs1⟩, h1, hf⟩ := bnd hf
    cases hf
    exact ⟨r, Z, env, cs, p, _, hs, hr, h1, fun r1 Z1 H1 v x1 hs1 hv => q r1 Z1 H1 _ x1 hs1 ((hr.mono x1.pre x1.fz).set i hv)⟩)
/-! a < b < c, as a value -/
theorem x_chain {op op' : CmpOp} {t t' : R2} {c c' : A → A → Cs → Option Bool} {h : E} {e3 : Expr} (hc : CmF X.K t c) (hc' : CmF X.K t' c') (hp : PE X e (tChain t t' (tE X.K f) (tE X.K g) (tE X.K h))) : XE X e (eChain c c' f g h) := pe_imp hp fun σ H Q ⟨r, Z, env, cs, y, cs', hs, hr, hf, q⟩ => by
  obtain ⟨⟨p, cs1⟩, h1, hf⟩ := bnd hf
  obtain ⟨⟨p2, cs2⟩, h2, hf⟩ := bnd hf
  obtain ⟨b, h3, hf⟩ := bnd hf
  refine ⟨r, Z, env, cs, p, cs1, hs, hr, h1, fun r1 Z1 H1 v x1 hs1 hv => ?_⟩
  refine ⟨r1, Z1, env, cs1, p2, cs2, hs1, hr.mono x1.pre x1.fz, h2, fun r2 Z2 H2 w x2 hs2 hw => ?_⟩
  refine hc hs2 (hv.mono x2.pre x2.fz) hw h3 ⟨b, rfl, ?_⟩
  have x12 := x1.trans x2
  cases b with
  | true =>
    rw [if_pos rfl] at hf
    refine iteT ?_
    obtain ⟨⟨p3, cs3⟩, h4, hf⟩ := bnd hf
    obtain ⟨b', h5, hf⟩ := bnd hf
    cases hf
    refine ⟨r2, Z2, env, cs2, p3, _, hs2, hr.mono x12.pre x12.fz, h4, fun r3 Z3 H3 u x3 hs3 hu => ?_⟩
    exact hc' hs3 (hw.mono x3.pre x3.fz) hu h5 (q r3 Z3 H3 _ (x12.trans x3) hs3 (RD.bl _))
  | false =>
    rw [if_neg Bool.false_ne_true] at hf
    cases hf
    exact iteF (q r2 Z2 H2 _ x12 hs2 (RD.bl _))
end
end Fn
end
section
/-! Fn, part W: what the top leaves, told by names; the bodies of defs; the whole. -/
namespace Fn
open PySem L2

/-! ### defs by their addresses -/
/-- the getter of a property -/
def gp (K : PySem.W.Frag) (x m : Str) : Addr := match PySem.W.recIn K (He.ma K (He.ga K x) m) "property" with
  | some (.ref g :: _) => g
  | _ => 0
def propB (K : PySem.W.Frag) (x m : Str) : Bool := He.eqO (PySem.W.findIn K (.ref (He.ga K x)) m) (some (some (.ref (He.ma K (He.ga K x) m)))) &&
  (He.eqO (PySem.W.specialIn K (.ref (He.ma K (He.ga K x) m)) "__get__") (some (some (.builtin "property.__get__"))) && (decide (PySem.W.takesIn K (.ref (He.ma K (He.ga K x) m)) = some true) &&
  match PySem.W.recIn K (He.ma K (He.ga K x) m) "property" with
  | some (.ref _ :: _) => true
  | _ => false))
theorem prop_ok {K : PySem.W.Frag} {x m : Str} (h : propB K x m = true) : PropOf K (He.ga K x) m (He.ma K (He.ga K x) m) (gp K x m) := by
  obtain ⟨h1, h⟩ := He.ba h
  obtain ⟨h2, h⟩ := He.ba h
  obtain ⟨h3, h4⟩ := He.ba h
  refine ⟨He.eqO_ok h1, He.eqO_ok h2, of_decide_eq_true h3, ?_⟩
  unfold gp
  split at h4
  · rename_i g l e
    rw [e]
    exact ⟨l, rfl⟩
  · cases h4
inductive Ad where
  | glo (x : Str) | meth (x m : Str) | prop (x m : Str)
def Ad.at_ (K : PySem.W.Frag) : Ad → Addr
  | .glo x => He.ga K x
  | .meth x m => He.ma K (He.ga K x) m
  | .prop x m => gp K x m
structure DefA where
  adr : Ad
  name : Str
  qual : Str
  params : Arguments
  body : List Stmt
  scope : Scope
  dfl : List He.Dv := []
  kwd : List (Str × He.Dv) := []
def fnWA (K : PySem.W.Frag) (a : Addr) : He.FnW := match K.lookup a with
  | some ⟨_, _, .func fd, _⟩ => some (fd.name, fd.qualname, fd.params, fd.body, fd.scope, fd.globals, fd.closure, fd.builtins)
  | _ => none
def DefA.val (d : DefA) : He.FnW := some (d.name, d.qual, d.params, .stmts d.body, d.scope, mainGlobals, [], builtinsNs)
def DefA.dvs (K : PySem.W.Frag) (d : DefA) : List V := d.dfl.map (He.Dv.v K)
def DefA.kws (K : PySem.W.Frag) (d : DefA) : List (Str × V) := d.kwd.map fun q => (q.1, q.2.v K)
def DefA.ok (K : PySem.W.Frag) (d : DefA) : Bool := PySem.W.keepIn K (.ref (d.adr.at_ K)) && (match K.lookup (d.adr.at_ K) with
  | some ⟨_, _, .func fd, _⟩ => PySem.W.codeIn K fd.code d.qual && (He.dflB K fd.defaults (d.dvs K) && He.kwdB K fd.kwdefaults (d.kws K))
  | _ => false)
abbrev DefA.Is (d : DefA) (K : PySem.W.Frag) (fd : FuncData) : Prop := FunD K d.name d.qual d.params d.body d.scope (d.dvs K) (d.kws K) (d.adr.at_ K) fd
theorem DefA.funD {K : PySem.W.Frag} {d : DefA} (e : fnWA K (d.adr.at_ K) = d.val) (c : d.ok K = true) : ∃ fd, d.Is K fd := by
  obtain ⟨kp, c2⟩ := He.ba c
  unfold fnWA at e
  cases q : K.lookup (d.adr.at_ K) with
  | none => rw [q] at c2; cases c2
  | some o =>
    obtain ⟨oc, od, dt, osl⟩ := o
    rw [q] at c2 e
    cases dt with
    | func fd =>
      obtain ⟨n1, n2, n3, n4, n5, n6, n7, n8, n9, n10, n11, n12, n13, n14, n15⟩ := fd
      have e2 : (some (n1, n2, n3, n4, n5, n6, n7, n15) : He.FnW) = d.val := e
      unfold DefA.val at e2
      simp only [Option.some.injEq, Prod.mk.injEq] at e2
      obtain ⟨h1, h2, h3, h4, h5, h6, h7, h8⟩ := e2
      subst h1 h2 h3 h4 h5 h6 h7 h8
      obtain ⟨k1, k2⟩ := He.ba (show (PySem.W.codeIn K n13 d.qual && (He.dflB K n8 (d.dvs K) && He.kwdB K n9 (d.kws K))) = true from c2)
      obtain ⟨k3, k4⟩ := He.ba k2
      exact ⟨_, ⟨oc, od, n8, n9, n10, n11, n12, n13, n14, osl, rfl, q, k1, He.dflB_ok k3, He.kwdB_ok k4⟩, kp⟩
    | _ => cases c2
/-! ### the look -/
abbrev Fb := PySem.W.Frag → Bool
abbrev AlX : Type := Bool × List He.FnW
def obsX (fa : List Fb) (fn : List DefA) (K : PySem.W.Frag) : AlX := ((fa.all fun f => f K) && fn.all fun d => d.ok K, fn.map fun d => fnWA K (d.adr.at_ K))
def valX (fn : List DefA) : AlX := (true, fn.map DefA.val)
def SaysX (fa : List Fb) (fn : List DefA) (K : PySem.W.Frag) : Prop := obsX fa fn K = valX fn
def obsXG (n : Nat) (fa : List Fb) (fn : List DefA) (g : Addr → Option Obj) : AlX := obsX fa fn (He.frG g (He.asD g n))
def hookX (n : Nat) (fa : List Fb) (fn : List DefA) : PySem.W.Hook where
  α := AlX
  obs := fun s => obsXG n fa fn s.heap.get?
  val := fun _ => valX fn
  says := fun _ h => ∃ K : PySem.W.Frag, K.In h ∧ SaysX fa fn K
  of := fun _ _ e => ⟨_, He.frG_in, e⟩
  keeps := fun _ _ _ ⟨K, hK, c⟩ k => ⟨K, PySem.W.Frag.In.keeps hK k, c⟩
theorem obsXG_eq {n : Nat} {fa : List Fb} {fn : List DefA} {g : Addr → Option Obj} {s : Shared} (h : ∀ a, g a = s.heap.get? a) : obsXG n fa fn g = (hookX n fa fn).obs s := by
  have e : g = s.heap.get? := funext h
  rw [e]; rfl
section
variable {fa : List Fb} {fn : List DefA} {K : PySem.W.Frag}
theorem SaysX.fact (c : SaysX fa fn K) (i : Nat) {f : Fb} (h : fa[i]? = some f := by rfl) : f K = true := by
  have c1 := (He.ba (show ((fa.all fun f => f K) && fn.all fun d => d.ok K) = true from congrArg (fun z : AlX => z.1) c)).1
  exact List.all_eq_true.mp c1 f (List.mem_of_getElem? h)
theorem SaysX.def_ (c : SaysX fa fn K) (i : Nat) {d : DefA} (h : fn[i]? = some d := by rfl) : ∃ fd, d.Is K fd := by
  have c2 := (He.ba (show ((fa.all fun f => f K) && fn.all fun d => d.ok K) = true from congrArg (fun z : AlX => z.1) c)).2
  have e : fn.map (fun d => fnWA K (d.adr.at_ K)) = fn.map DefA.val := congrArg (fun z : AlX => z.2) c
  have e2 : (fn.map fun d => fnWA K (d.adr.at_ K))[i]? = (fn.map DefA.val)[i]? := by rw [e]
  rw [List.getElem?_map, List.getElem?_map, h] at e2
  exact DefA.funD (Option.some.inj e2) (List.all_eq_true.mp c2 d (List.mem_of_getElem? h))
end
/-! ### a def's body -/
theorem def_ok {P : Program} {w : World} {K : PySem.W.Frag} {mg : Str → Option Value} {base : Heap} {d : DefA} {fd : FuncData} {N ps : List Str} {k : Nat} {fb : S} {pol : Pol} (F : d.Is K fd) (S : FnScope N ps d.scope)
    (hb : ∀ (cdv : Value) (A : Around) (outer : List PySem.Env) (s : Shared) (H : Hp) (E : XK), Room k (A.deeper (PyProof.Rows.envOfC d.qual d.scope s.heap.objs.size (d.adr.at_ K) cdv)) → XSs (cxOf CX0 P w K mg base N d.qual d.scope (d.adr.at_ K) cdv A outer s H E).nox d.body fb) :
    FnOk P w K mg base CX0 (k + 1) (d.adr.at_ K) fd ps (spD K (den ps.length N.length pol fb)) := by
  refine F.ok S (fun vs H Q E h => ?_) (fun cdv A outer s H vs Q E hr h => ⟨tS K fb, PSs.nox (hb cdv A outer s H E hr), ?_⟩)
  · obtain ⟨r, Z, xs, cs, z, cs', hs, hx, hf, q⟩ := h
    unfold den at hf
    split at hf
    · rename_i hl
      rw [hx.length, hl]
    · cases hf
  · obtain ⟨r, Z, xs, cs, z, cs', hs, hx, hf, q⟩ := h
    unfold den at hf
    split at hf
    case isFalse => cases hf
    obtain ⟨⟨o, env', cs1⟩, h1, hf⟩ := bnd hf
    refine ⟨r, Z, startE N.length xs, cs, o, env', cs1, hs, re_start hx, h1, fun r1 Z1 H1 σ1 x1 hs1 hr1 => ?_⟩
    cases o with
    | nx => exact leave_ok hs.len x1 hs1 (x := .d .none) RD.non hf q
    | rt y => exact fun v hv => leave_ok hs.len x1 hs1 hv hf q
    | bk => cases hf
    | ct => cases hf
end Fn
end
section
/-! Fn.P: what a denotation answers, told forwards: a condition carried through the text. -/
namespace Fn
open PySem L2

def okO {α : Type} (o : Option α) (Q : α → Prop) : Prop := ∃ x, o = some x ∧ Q x
def okE (f : E) (env : Env) (cs : Cs) (Q : A → Cs → Prop) : Prop := ∃ x cs', f env cs = some (x, cs') ∧ Q x cs'
def okT (f : T) (env : Env) (cs : Cs) (Q : Bool → Cs → Prop) : Prop := ∃ x cs', f env cs = some (x, cs') ∧ Q x cs'
def okF (f : F) (env : Env) (cs : Cs) (Q : List D → Cs → Prop) : Prop := ∃ x cs', f env cs = some (x, cs') ∧ Q x cs'
def okA (f : As) (env : Env) (cs : Cs) (Q : List A → Cs → Prop) : Prop := ∃ x cs', f env cs = some (x, cs') ∧ Q x cs'
def okN (f : O) (env : Env) (cs : Cs) (Q : Option Int → Cs → Prop) : Prop := ∃ x cs', f env cs = some (x, cs') ∧ Q x cs'
def okP (f : Ps) (env : Env) (cs : Cs) (Q : List (Key × A) → Cs → Prop) : Prop := ∃ x cs', f env cs = some (x, cs') ∧ Q x cs'
def okI (f : I) (env : Env) (cs : Cs) (Q : List D → Lk → Cs → Prop) : Prop := ∃ x lk cs', f env cs = some (x, lk, cs') ∧ Q x lk cs'
def okS (f : S) (env : Env) (cs : Cs) (Q : Out → Env → Cs → Prop) : Prop := ∃ o env' cs', f env cs = some (o, env', cs') ∧ Q o env' cs'
section
variable {env : Env} {cs : Cs} {f g h : E} {t u : T} {s s2 : S} {fs gs : As} {ff : F} {ps : Ps} {lo hi : O}
/-! values -/
theorem okO_mk {α : Type} {o : Option α} {Q : α → Prop} {x : α} (e : o = some x) (q : Q x) : okO o Q := ⟨x, e, q⟩
theorem okO_is {α : Type} {o : Option α} {Q : α → Prop} {v : α} (h : okO o fun z => z = v) (q : Q v) : okO o Q := by
  obtain ⟨x, e, rfl⟩ := h
  exact ⟨x, e, q⟩
theorem okO_bind {α β : Type} {o : Option α} {k : α → Option β} {Q : β → Prop} (q : okO o fun x => okO (k x) Q) : okO (o.bind k) Q := by
  obtain ⟨x, e, y, e2, q⟩ := q
  exact ⟨y, by rw [e]; exact e2, q⟩
theorem okO_some {α : Type} {x : α} {Q : α → Prop} (q : Q x) : okO (some x) Q := ⟨x, rfl, q⟩
theorem okO_if {α : Type} {c : Prop} [Decidable c] {a b : Option α} {Q : α → Prop} (q : okO a Q) (h : c) : okO (if c then a else b) Q := by rw [if_pos h]; exact q
theorem okE_var {Q : A → Cs → Prop} {i : Nat} {x : A} (h : env[i]? = some (some x)) (q : Q x cs) : okE (eVar i) env cs Q := ⟨x, cs, by unfold eVar; rw [h], q⟩
theorem okE_c {Q : A → Cs → Prop} {x : D} (q : Q (.d x) cs) : okE (eC x) env cs Q := ⟨_, _, rfl, q⟩
theorem okE_bin {Q : A → Cs → Prop} {op : A → A → Cs → Option A} (q : okE f env cs fun x cs => okE g env cs fun y cs => okO (op x y cs) fun z => Q z cs) : okE (eBin op f g) env cs Q := by
  obtain ⟨x, c1, e1, y, c2, e2, z, e3, q⟩ := q
  exact ⟨z, c2, by unfold eBin; rw [e1]; simp only [Option.bind_some]; rw [e2]; simp only [Option.bind_some]; rw [e3]; rfl, q⟩
theorem okE_cmp {Q : A → Cs → Prop} {op : A → A → Cs → Option Bool} (q : okE f env cs fun x cs => okE g env cs fun y cs => okO (op x y cs) fun z => Q (.d (.bool z)) cs) : okE (eCmp op f g) env cs Q := by
  obtain ⟨x, c1, e1, y, c2, e2, z, e3, q⟩ := q
  exact ⟨_, c2, by unfold eCmp; rw [e1]; simp only [Option.bind_some]; rw [e2]; simp only [Option.bind_some]; rw [e3]; rfl, q⟩
theorem okT_cmp {Q : Bool → Cs → Prop} {op : A → A → Cs → Option Bool} (q : okE f env cs fun x cs => okE g env cs fun y cs => okO (op x y cs) fun z => Q z cs) : okT (tCmp op f g) env cs Q := by
  obtain ⟨x, c1, e1, y, c2, e2, z, e3, q⟩ := q
  exact ⟨_, c2, by unfold tCmp; rw [e1]; simp only [Option.bind_some]; rw [e2]; simp only [Option.bind_some]; rw [e3]; rfl, q⟩
theorem okE_frz {Q : A → Cs → Prop} (q : okF ff env cs fun xs cs => Q (.d (.list xs)) cs) : okE (eFrz ff) env cs Q := by
  obtain ⟨x, c1, e1, q⟩ := q
  exact ⟨_, _, by unfold eFrz; rw [e1]; rfl, q⟩
theorem okE_cell {Q : A → Cs → Prop} (q : okF ff env cs fun xs cs => Q (.loc cs.length) (cs ++ [.lst xs])) : okE (eCell ff) env cs Q := by
  obtain ⟨x, c1, e1, q⟩ := q
  exact ⟨_, _, by unfold eCell; rw [e1]; rfl, q⟩
theorem okN_no {Q : Option Int → Cs → Prop} (q : Q none cs) : okN oNo env cs Q := ⟨_, _, rfl, q⟩
theorem okN_pt {Q : Option Int → Cs → Prop} (q : okE f env cs fun x cs => ∃ i, x = .d (.int i) ∧ Q (some i) cs) : okN (oPt f) env cs Q := by
  obtain ⟨x, c1, e1, i, rfl, q⟩ := q
  exact ⟨_, _, by unfold oPt; rw [e1]; rfl, q⟩
theorem int_is {i : Int} {p : Int → Prop} (q : p i) : ∃ j, (A.d (.int i)) = .d (.int j) ∧ p j := ⟨i, rfl, q⟩
theorem okF_sl {Q : List D → Cs → Prop} (q : okE f env cs fun x cs => okN lo env cs fun a cs => okN hi env cs fun b cs => okO (seqL x cs) fun xs => Q (cutD xs a b) cs) : okF (fSl f lo hi) env cs Q := by
  obtain ⟨x, c1, e1, a, c2, e2, b, c3, e3, xs, e4, q⟩ := q
  exact ⟨_, _, by unfold fSl; rw [e1]; simp only [Option.bind_some]; rw [e2]; simp only [Option.bind_some]; rw [e3]; simp only [Option.bind_some]; rw [e4]; rfl, q⟩
def slA (x : A) (cs : Cs) (a b : Option Int) : Option A := match x with
  | .d (.str z) => if z.length ≤ sizeLine then some (.d (.str (cutS z a b))) else none
  | x => (seqL x cs).bind fun xs => some (.d (.list (cutD xs a b)))
theorem okE_sl {Q : A → Cs → Prop} (q : okE f env cs fun x cs => okN lo env cs fun a cs => okN hi env cs fun b cs => okO (slA x cs a b) fun z => Q z cs) : okE (eSl f lo hi) env cs Q := by
  obtain ⟨x, c1, e1, a, c2, e2, b, c3, e3, z, e4, q⟩ := q
  refine ⟨z, c3, ?_, q⟩
  unfold eSl; rw [e1]; simp only [Option.bind_some]; rw [e2]; simp only [Option.bind_some]; rw [e3]; simp only [Option.bind_some]
  unfold slA at e4
  split at e4
  · split at e4
    · cases e4; simp_all
    · cases e4
  · rename_i hx
    obtain ⟨xs, h1, h2⟩ := bnd e4
    cases h2
    first
      | (rw [h1]; rfl)
      | (split
         · rename_i z; exact absurd rfl (hx _)
         · rw [h1]; rfl)
theorem okF_add {Q : List D → Cs → Prop} (q : okE f env cs fun x cs => okE g env cs fun y cs => okO (trkL x cs) fun a => okO (trkL y cs) fun b => (Q (a ++ b) cs ∧ a.length + b.length ≤ sizeLine)) : okF (fAdd f g) env cs Q := by
  obtain ⟨x, c1, e1, y, c2, e2, a, e3, b, e4, q, hl⟩ := q
  exact ⟨_, _, by unfold fAdd; rw [e1]; simp only [Option.bind_some]; rw [e2]; simp only [Option.bind_some]; rw [e3]; simp only [Option.bind_some]; rw [e4]; simp only [Option.bind_some]; rw [if_pos hl], q⟩
theorem okF_lst {Q : List D → Cs → Prop} (q : okA fs env cs fun xs cs => okO (allD xs) fun ds => (Q ds cs ∧ ds.length ≤ sizeLine)) : okF (fLst fs) env cs Q := by
  obtain ⟨x, c1, e1, ds, e2, q, hl⟩ := q
  exact ⟨_, _, by unfold fLst; rw [e1]; simp only [Option.bind_some]; rw [e2]; simp only [Option.bind_some]; rw [if_pos hl], q⟩
theorem okE_tup {Q : A → Cs → Prop} (q : okA fs env cs fun xs cs => okO (allD xs) fun ds => (Q (.d (.tuple ds)) cs ∧ ds.length ≤ sizeLine)) : okE (eTup fs) env cs Q := by
  obtain ⟨x, c1, e1, ds, e2, q, hl⟩ := q
  exact ⟨_, _, by unfold eTup; rw [e1]; simp only [Option.bind_some]; rw [e2]; simp only [Option.bind_some]; rw [if_pos hl], q⟩
theorem okA_nil {Q : List A → Cs → Prop} (q : Q [] cs) : okA aNil env cs Q := ⟨_, _, rfl, q⟩
theorem okA_cons {Q : List A → Cs → Prop} (q : okE f env cs fun x cs => okA fs env cs fun xs cs => Q (x :: xs) cs) : okA (aCons f fs) env cs Q := by
  obtain ⟨x, c1, e1, xs, c2, e2, q⟩ := q
  exact ⟨_, _, by unfold aCons; rw [e1]; simp only [Option.bind_some]; rw [e2]; rfl, q⟩
theorem okE_b {Q : A → Cs → Prop} {op : List A → Cs → Option A} (q : okA fs env cs fun xs cs => okO (op xs cs) fun z => Q z cs) : okE (eB op fs) env cs Q := by
  obtain ⟨x, c1, e1, z, e2, q⟩ := q
  exact ⟨_, _, by unfold eB; rw [e1]; simp only [Option.bind_some]; rw [e2]; rfl, q⟩
theorem okF_b {Q : List D → Cs → Prop} {op : List A → Cs → Option (List D)} (q : okA fs env cs fun xs cs => okO (op xs cs) fun z => Q z cs) : okF (fB op fs) env cs Q := by
  obtain ⟨x, c1, e1, z, e2, q⟩ := q
  exact ⟨_, _, by unfold fB; rw [e1]; simp only [Option.bind_some]; rw [e2]; rfl, q⟩
theorem okE_neg {Q : A → Cs → Prop} (q : okE f env cs fun x cs => ∃ i, x = .d (.int i) ∧ Q (.d (.int (-i))) cs) : okE (eNeg f) env cs Q := by
  obtain ⟨x, c1, e1, i, rfl, q⟩ := q
  exact ⟨_, _, by unfold eNeg; rw [e1]; rfl, q⟩
theorem okE_not {Q : A → Cs → Prop} (q : okE f env cs fun x cs => okO (truth x cs) fun b => Q (.d (.bool (!b))) cs) : okE (eNotF f) env cs Q := by
  obtain ⟨x, c1, e1, b, e2, q⟩ := q
  exact ⟨_, _, by unfold eNotF; rw [e1]; simp only [Option.bind_some]; rw [e2]; rfl, q⟩
def boolQ (x : A) (p : Bool → Prop) : Prop := ∃ b, x = .d (.bool b) ∧ p b
theorem bool_is {b : Bool} {p : Bool → Prop} (q : p b) : boolQ (.d (.bool b)) p := ⟨b, rfl, q⟩
/-- by the value of a truth -/
def iteQ (b : Bool) (p q : Prop) : Prop := (b = true → p) ∧ (b = false → q)
theorem ite_t {p q : Prop} (h : p) : iteQ true p q := ⟨fun _ => h, fun z => by cases z⟩
theorem ite_f {p q : Prop} (h : q) : iteQ false p q := ⟨fun z => (nomatch z), fun _ => h⟩
theorem ite_mk {b : Bool} {p q : Prop} (h : b = true → p) (k : b = false → q) : iteQ b p q := ⟨h, k⟩
theorem ite_yes {b : Bool} {p q : Prop} (e : b = true) (h : p) : iteQ b p q := ⟨fun _ => h, fun z => by rw [e] at z; cases z⟩
theorem ite_no {b : Bool} {p q : Prop} (e : b = false) (h : q) : iteQ b p q := ⟨fun z => (by rw [e] at z; cases z), fun _ => h⟩
theorem okE_or {Q : A → Cs → Prop} (q : okE f env cs fun x cs => boolQ x fun b => iteQ b (Q (.d (.bool true)) cs) (okE g env cs Q)) : okE (eOrF f g) env cs Q := by
  obtain ⟨x, c1, e1, b, rfl, q⟩ := q
  cases b with
  | true => exact ⟨_, _, by unfold eOrF; rw [e1]; rfl, q.1 rfl⟩
  | false => obtain ⟨y, c2, e2, q⟩ := q.2 rfl; exact ⟨_, _, by unfold eOrF; rw [e1]; exact e2, q⟩
theorem okE_and {Q : A → Cs → Prop} (q : okE f env cs fun x cs => boolQ x fun b => iteQ b (okE g env cs Q) (Q (.d (.bool false)) cs)) : okE (eAndF f g) env cs Q := by
  obtain ⟨x, c1, e1, b, rfl, q⟩ := q
  cases b with
  | false => exact ⟨_, _, by unfold eAndF; rw [e1]; rfl, q.2 rfl⟩
  | true => obtain ⟨y, c2, e2, q⟩ := q.1 rfl; exact ⟨_, _, by unfold eAndF; rw [e1]; exact e2, q⟩
theorem okE_if {Q : A → Cs → Prop} (q : okT t env cs fun b cs => iteQ b (okE f env cs Q) (okE g env cs Q)) : okE (eIf t f g) env cs Q := by
  obtain ⟨b, c1, e1, q⟩ := q
  cases b with
  | true => obtain ⟨y, c2, e2, q⟩ := q.1 rfl; exact ⟨_, _, by unfold eIf; rw [e1]; exact e2, q⟩
  | false => obtain ⟨y, c2, e2, q⟩ := q.2 rfl; exact ⟨_, _, by unfold eIf; rw [e1]; exact e2, q⟩
theorem okT_val {Q : Bool → Cs → Prop} (q : okE f env cs fun x cs => boolQ x fun b => Q b cs) : okT (tVal f) env cs Q := by
  obtain ⟨x, c1, e1, b, rfl, q⟩ := q
  exact ⟨_, _, by unfold tVal; rw [e1]; rfl, q⟩
theorem okT_tru {Q : Bool → Cs → Prop} (q : okE f env cs fun x cs => okO (truth x cs) fun b => Q b cs) : okT (tTru f) env cs Q := by
  obtain ⟨x, c1, e1, b, e2, q⟩ := q
  exact ⟨_, _, by unfold tTru; rw [e1]; simp only [Option.bind_some]; rw [e2]; rfl, q⟩
theorem okT_not {Q : Bool → Cs → Prop} (q : okT t env cs fun b cs => Q (!b) cs) : okT (tNotF t) env cs Q := by
  obtain ⟨x, c1, e1, q⟩ := q
  exact ⟨_, _, by unfold tNotF; rw [e1]; rfl, q⟩
theorem okT_and {Q : Bool → Cs → Prop} (q : okT t env cs fun b cs => iteQ b (okT u env cs Q) (Q false cs)) : okT (tAndF t u) env cs Q := by
  obtain ⟨b, c1, e1, q⟩ := q
  cases b with
  | true => obtain ⟨y, c2, e2, q⟩ := q.1 rfl; exact ⟨_, _, by unfold tAndF; rw [e1]; exact e2, q⟩
  | false => exact ⟨_, _, by unfold tAndF; rw [e1]; rfl, q.2 rfl⟩
theorem okT_or {Q : Bool → Cs → Prop} (q : okT t env cs fun b cs => iteQ b (Q true cs) (okT u env cs Q)) : okT (tOrF t u) env cs Q := by
  obtain ⟨b, c1, e1, q⟩ := q
  cases b with
  | false => obtain ⟨y, c2, e2, q⟩ := q.2 rfl; exact ⟨_, _, by unfold tOrF; rw [e1]; exact e2, q⟩
  | true => exact ⟨_, _, by unfold tOrF; rw [e1]; rfl, q.1 rfl⟩
theorem okT_yes {Q : Bool → Cs → Prop} (q : Q true cs) : okT tTrue env cs Q := ⟨_, _, rfl, q⟩
theorem okE_isi {Q : A → Cs → Prop} {U : String} (q : okE f env cs fun x cs => okO (tyA x cs) fun k => okO (kitB k U) fun b => Q (.d (.bool b)) cs) : okE (eIsi U f) env cs Q := by
  obtain ⟨x, c1, e1, k, e2, b, e3, q⟩ := q
  exact ⟨_, _, by unfold eIsi; rw [e1]; simp only [Option.bind_some]; rw [e2]; simp only [Option.bind_some]; rw [e3]; rfl, q⟩
theorem okE_call {Q : A → Cs → Prop} {d : Den} {ds : List D} (q : okA fs env cs fun xs cs => okO (callL d (xs ++ ds.map A.d) cs) fun p => Q p.1 p.2) : okE (eCall d ds fs) env cs Q := by
  obtain ⟨xs, c1, e1, ⟨z, c2⟩, e2, q⟩ := q
  exact ⟨z, c2, by unfold eCall; rw [e1]; exact e2, q⟩
theorem okE_callN {Q : A → Cs → Prop} {d : Den} {n m : Nat} {k : List A → List A → List A} (q : okA fs env cs fun xs cs => okA gs env cs fun ys cs => (xs.length = n ∧ ys.length = m) ∧ okO (callL d (k xs ys) cs) fun p => Q p.1 p.2) : okE (eCallN n m d k fs gs) env cs Q := by
  obtain ⟨xs, c1, e1, ys, c2, e2, hl, ⟨z, c3⟩, e3, q⟩ := q
  exact ⟨z, c3, by unfold eCallN; rw [e1]; simp only [Option.bind_some]; rw [e2]; simp only [Option.bind_some]; rw [if_pos hl]; exact e3, q⟩
theorem okE_m {Q : A → Cs → Prop} {T : String} {m : A → List A → Cs → Option (A × Cs)} (q : okE f env cs fun x cs => kindA T x cs = true ∧ okA fs env cs fun xs cs => okO (m x xs cs) fun p => Q p.1 p.2) : okE (eM T m f fs) env cs Q := by
  obtain ⟨x, c1, e1, hk, xs, c2, e2, ⟨z, c3⟩, e3, q⟩ := q
  exact ⟨z, c3, by unfold eM; rw [e1]; simp only [Option.bind_some]; rw [if_pos hk, e2]; exact e3, q⟩
theorem okE_dget {Q : A → Cs → Prop} (q : okE f env cs fun x cs => okE g env cs fun y cs => okO (dctAt x cs) fun kvs => okO (keyOf y) fun k => okO (valA kvs k) fun z => Q z cs) : okE (eDget f g) env cs Q := by
  obtain ⟨x, c1, e1, y, c2, e2, kvs, e3, k, e4, z, e5, q⟩ := q
  exact ⟨z, c2, by unfold eDget; rw [e1]; simp only [Option.bind_some]; rw [e2]; simp only [Option.bind_some]; rw [e3]; simp only [Option.bind_some]; rw [e4]; simp only [Option.bind_some]; rw [e5]; rfl, q⟩
theorem okE_din {Q : A → Cs → Prop} {neg : Bool} (q : okE g env cs fun x cs => okE f env cs fun y cs => okO (dctAt y cs) fun kvs => okO (keyOf x) fun k => Q (.d (.bool (if neg then !(valA kvs k).isSome else (valA kvs k).isSome))) cs) : okE (eDin neg g f) env cs Q := by
  obtain ⟨x, c1, e1, y, c2, e2, kvs, e3, k, e4, q⟩ := q
  exact ⟨_, c2, by unfold eDin; rw [e1]; simp only [Option.bind_some]; rw [e2]; simp only [Option.bind_some]; rw [e3]; simp only [Option.bind_some]; rw [e4]; rfl, q⟩
theorem okE_dnew {Q : A → Cs → Prop} (q : Q (.loc cs.length) (cs ++ [.dct []])) : okE eDnew env cs Q := ⟨_, _, rfl, q⟩
theorem okP_nil {Q : List (Key × A) → Cs → Prop} (q : Q [] cs) : okP pNil env cs Q := ⟨_, _, rfl, q⟩
theorem okP_cons {Q : List (Key × A) → Cs → Prop} (q : okE f env cs fun x cs => okE g env cs fun y cs => okO (keyOf x) fun k => okP ps env cs fun kvs cs => Q ((k, y) :: kvs) cs) : okP (pCons f g ps) env cs Q := by
  obtain ⟨x, c1, e1, y, c2, e2, k, e3, kvs, c3, e4, q⟩ := q
  exact ⟨_, _, by unfold pCons; rw [e1]; simp only [Option.bind_some]; rw [e2]; simp only [Option.bind_some]; rw [e3]; simp only [Option.bind_some]; rw [e4]; rfl, q⟩
theorem okE_dict {Q : A → Cs → Prop} (q : okP ps env cs fun kvs cs => (Q (.loc cs.length) (cs ++ [.dct (mergeA kvs)]) ∧ kvs.length ≤ 15)) : okE (eDict ps) env cs Q := by
  obtain ⟨kvs, c1, e1, q, hl⟩ := q
  exact ⟨_, _, by unfold eDict; rw [e1]; simp only [Option.bind_some]; rw [if_pos hl], q⟩
theorem okE_fld {Q : A → Cs → Prop} {c m : Str} (q : okE f env cs fun x cs => okO (insAt c x cs) fun s => okO (s.2.lookup m) fun z => Q z cs) : okE (eFld c m f) env cs Q := by
  obtain ⟨x, c1, e1, s, e2, z, e3, q⟩ := q
  exact ⟨z, c1, by unfold eFld; rw [e1]; simp only [Option.bind_some]; rw [e2]; simp only [Option.bind_some]; rw [e3]; rfl, q⟩
theorem okE_meth {Q : A → Cs → Prop} {c m : Str} {d : Den} {ds : List D} (q : okE f env cs fun x cs => okO (insAt c x cs) fun s => s.2.lookup m = none ∧ okA fs env cs fun xs cs => okO (callL d (x :: (xs ++ ds.map A.d)) cs) fun p => Q p.1 p.2) : okE (eMeth c m d ds f fs) env cs Q := by
  obtain ⟨x, c1, e1, s, e2, hl, xs, c2, e3, ⟨z, c3⟩, e4, q⟩ := q
  exact ⟨z, c3, by unfold eMeth; rw [e1]; simp only [Option.bind_some]; rw [e2]; simp only [Option.bind_some]; rw [if_pos hl, e3]; exact e4, q⟩
theorem okE_prop {Q : A → Cs → Prop} {c : Str} {d : Den} (q : okE f env cs fun x cs => okO (insAt c x cs) fun _ => okO (callL d [x] cs) fun p => Q p.1 p.2) : okE (eProp c d f) env cs Q := by
  obtain ⟨x, c1, e1, s, e2, ⟨z, c3⟩, e4, q⟩ := q
  exact ⟨z, c3, by unfold eProp; rw [e1]; simp only [Option.bind_some]; rw [e2]; exact e4, q⟩
/-! lists made by a comprehension -/
theorem okF_comp {Q : List D → Cs → Prop} {own : List Nat} {it : I} {gt : G} {t : T} {el : E} (q : okI it env cs fun xs lk cs => (okO (compM lk own gt t el env xs cs) fun p => Q p.1 p.2) ∧ xs.length ≤ sizeLine) : okF (fComp own it gt t el) env cs Q := by
  obtain ⟨xs, lk, c1, e1, ⟨⟨z, c2⟩, e2, q⟩, hl⟩ := q
  exact ⟨z, c2, by unfold fComp; rw [e1]; simp only [Option.bind_some]; rw [if_pos hl]; exact e2, q⟩
def srcA (x : A) (cs : Cs) : Option (List D × Lk) := match x with
  | .d (.str s) => some (chars s, none)
  | .d (.tuple xs) => some (xs, none)
  | x => src x cs
theorem okI_val {Q : List D → Lk → Cs → Prop} (q : okE f env cs fun x cs => okO (srcA x cs) fun z => Q z.1 z.2 cs) : okI (iVal f) env cs Q := by
  obtain ⟨x, c1, e1, ⟨z, lk⟩, e2, q⟩ := q
  refine ⟨z, lk, c1, ?_, q⟩
  unfold iVal; rw [e1]; simp only [Option.bind_some]
  unfold srcA at e2
  split at e2
  · cases e2; rfl
  · cases e2; rfl
  · rename_i h1 h2
    first
      | (rw [e2]; rfl)
      | (split
         · rename_i s; exact absurd rfl (h1 s)
         · rename_i s; exact absurd rfl (h2 s)
         · rw [e2]; rfl)
theorem okI_range1 {Q : List D → Lk → Cs → Prop} (q : okA fs env cs fun xs cs => ∃ j, xs = [.d (.int j)] ∧ (Q (rngD 0 j.toNat) none cs ∧ -B62 ≤ j ∧ j < B62)) : okI (iRange1 fs) env cs Q := by
  obtain ⟨xs, c1, e1, j, rfl, q, hl⟩ := q
  exact ⟨_, _, c1, by unfold iRange1; rw [e1]; simp only [Option.bind_some]; rw [if_pos hl], q⟩
theorem okI_range2 {Q : List D → Lk → Cs → Prop} (q : okA fs env cs fun xs cs => ∃ i j, xs = [.d (.int i), .d (.int j)] ∧ (Q (rngD i (j - i).toNat) none cs ∧ (-B62 ≤ i ∧ i < B62) ∧ -B62 ≤ j ∧ j < B62)) : okI (iRange2 fs) env cs Q := by
  obtain ⟨xs, c1, e1, i, j, rfl, q, hl⟩ := q
  exact ⟨_, _, c1, by unfold iRange2; rw [e1]; simp only [Option.bind_some]; rw [if_pos hl], q⟩
/-! statements -/
def thenQ (g : S) (Q : Out → Env → Cs → Prop) : Out → Env → Cs → Prop
  | .nx, env, cs => okS g env cs Q
  | .rt v, env, cs => Q (.rt v) env cs
  | .bk, env, cs => Q .bk env cs
  | .ct, env, cs => Q .ct env cs
theorem okS_seq {Q : Out → Env → Cs → Prop} (q : okS s env cs (thenQ s2 Q)) : okS (sSeq s s2) env cs Q := by
  obtain ⟨o, e1, c1, h1, q⟩ := q
  cases o with
  | nx => obtain ⟨o2, e2, c2, h2, q⟩ := q; exact ⟨o2, e2, c2, by unfold sSeq; rw [h1]; exact h2, q⟩
  | rt v => exact ⟨_, e1, c1, by unfold sSeq; rw [h1]; rfl, q⟩
  | bk => exact ⟨_, e1, c1, by unfold sSeq; rw [h1]; rfl, q⟩
  | ct => exact ⟨_, e1, c1, by unfold sSeq; rw [h1]; rfl, q⟩
theorem then_nx {Q : Out → Env → Cs → Prop} (q : okS s env cs Q) : thenQ s Q .nx env cs := q
theorem then_rt {Q : Out → Env → Cs → Prop} {v : A} (q : Q (.rt v) env cs) : thenQ s Q (.rt v) env cs := q
theorem then_bk {Q : Out → Env → Cs → Prop} (q : Q .bk env cs) : thenQ s Q .bk env cs := q
theorem then_ct {Q : Out → Env → Cs → Prop} (q : Q .ct env cs) : thenQ s Q .ct env cs := q
theorem okS_nil {Q : Out → Env → Cs → Prop} (q : Q .nx env cs) : okS sNil env cs Q := ⟨_, _, _, rfl, q⟩
theorem okS_brk {Q : Out → Env → Cs → Prop} (q : Q .bk env cs) : okS sBrk env cs Q := ⟨_, _, _, rfl, q⟩
theorem okS_cnt {Q : Out → Env → Cs → Prop} (q : Q .ct env cs) : okS sCnt env cs Q := ⟨_, _, _, rfl, q⟩
theorem okS_retN {Q : Out → Env → Cs → Prop} (q : Q (.rt (.d .none)) env cs) : okS sRetN env cs Q := ⟨_, _, _, rfl, q⟩
theorem okS_exp {Q : Out → Env → Cs → Prop} (q : okE f env cs fun _ cs => Q .nx env cs) : okS (sExp f) env cs Q := by
  obtain ⟨x, c1, e1, q⟩ := q
  exact ⟨_, _, _, by unfold sExp; rw [e1]; rfl, q⟩
theorem okS_ret {Q : Out → Env → Cs → Prop} (q : okE f env cs fun x cs => Q (.rt x) env cs) : okS (sRet f) env cs Q := by
  obtain ⟨x, c1, e1, q⟩ := q
  exact ⟨_, _, _, by unfold sRet; rw [e1]; rfl, q⟩
theorem okS_if {Q : Out → Env → Cs → Prop} (q : okT t env cs fun b cs => iteQ b (okS s env cs Q) (okS s2 env cs Q)) : okS (sIf t s s2) env cs Q := by
  obtain ⟨b, c1, e1, q⟩ := q
  cases b with
  | true => obtain ⟨o2, e2, c2, h2, q⟩ := q.1 rfl; exact ⟨o2, e2, c2, by unfold sIf; rw [e1]; exact h2, q⟩
  | false => obtain ⟨o2, e2, c2, h2, q⟩ := q.2 rfl; exact ⟨o2, e2, c2, by unfold sIf; rw [e1]; exact h2, q⟩
theorem okS_set {Q : Out → Env → Cs → Prop} {i : Nat} (q : okE f env cs fun x cs => Q .nx (env.set i (some x)) cs) : okS (sSet i f) env cs Q := by
  obtain ⟨x, c1, e1, q⟩ := q
  exact ⟨_, _, _, by unfold sSet; rw [e1]; rfl, q⟩
theorem okS_set2 {Q : Out → Env → Cs → Prop} {i j : Nat} (q : okE f env cs fun x cs => Q .nx ((env.set i (some x)).set j (some x)) cs) : okS (sSet2 i j f) env cs Q := by
  obtain ⟨x, c1, e1, q⟩ := q
  exact ⟨_, _, _, by unfold sSet2; rw [e1]; rfl, q⟩
theorem okS_aug {Q : Out → Env → Cs → Prop} {i : Nat} {op : A → A → Cs → Option A} {x : A} (h : env[i]? = some (some x)) (q : okE f env cs fun y cs => okO (op x y cs) fun z => Q .nx (env.set i (some z)) cs) : okS (sAug i op f) env cs Q := by
  obtain ⟨y, c1, e1, z, e2, q⟩ := q
  exact ⟨_, _, _, by unfold sAug; rw [h]; simp only; rw [e1]; simp only [Option.bind_some]; rw [e2]; rfl, q⟩
theorem okS_asg {Q : Out → Env → Cs → Prop} {gt : G} (q : okE f env cs fun x cs => ∃ d, x = .d d ∧ okO (gt d env) fun env1 => Q .nx env1 cs) : okS (sAsg f gt) env cs Q := by
  obtain ⟨x, c1, e1, d, rfl, env1, e2, q⟩ := q
  exact ⟨_, _, _, by unfold sAsg; rw [e1]; simp only [Option.bind_some]; rw [e2]; rfl, q⟩
theorem okS_dput {Q : Out → Env → Cs → Prop} (q : okE h env cs fun z cs => okE f env cs fun x cs => okE g env cs fun k cs => ∃ n kvs kk, x = .loc n ∧ dctAt (.loc n) cs = some kvs ∧ keyOf k = some kk ∧ (Q .nx env (cs.set n (.dct (putA kvs kk z))) ∧ kvs.length < sizeLine)) : okS (sDput f g h) env cs Q := by
  obtain ⟨z, c1, e1, x, c2, e2, k, c3, e3, n, kvs, kk, rfl, e4, e5, q, hl⟩ := q
  refine ⟨_, _, _, ?_, q⟩
  unfold sDput; rw [e1]; simp only [Option.bind_some]; rw [e2]; simp only [Option.bind_some]; rw [e3]; simp only [Option.bind_some]; rw [e4]; simp only [Option.bind_some]; rw [e5]; simp only [Option.bind_some]; rw [if_pos hl]
theorem okS_fld {Q : Out → Env → Cs → Prop} {c m : Str} (q : okE g env cs fun z cs => okE f env cs fun x cs => okO (insAt c x cs) fun p => (Q .nx env (cs.set p.1 (.ins c (putFA m z p.2))) ∧ p.2.length < 1000)) : okS (sFldF c m f g) env cs Q := by
  obtain ⟨z, c1, e1, x, c2, e2, p, e3, q, hl⟩ := q
  exact ⟨_, _, _, by unfold sFldF; rw [e1]; simp only [Option.bind_some]; rw [e2]; simp only [Option.bind_some]; rw [e3]; simp only [Option.bind_some]; rw [if_pos hl], q⟩
/-- both ways meet again -/
def midQ (P : Env → Cs → Prop) : Out → Env → Cs → Prop
  | .nx, env, cs => P env cs
  | _, _, _ => False
theorem mid_nx {P : Env → Cs → Prop} (h : P env cs) : midQ P .nx env cs := h
theorem okS_mid {Q : Out → Env → Cs → Prop} {k : S} (P : Env → Cs → Prop) (h : okS s env cs (midQ P)) (hk : ∀ env cs, P env cs → okS k env cs Q) : okS s env cs (thenQ k Q) := by
  obtain ⟨o, e1, c1, h1, q⟩ := h
  cases o with
  | nx => exact ⟨_, e1, c1, h1, hk _ _ q⟩
  | rt v => exact q.elim
  | bk => exact q.elim
  | ct => exact q.elim
theorem ite_mid {Q : Out → Env → Cs → Prop} {k : S} {b : Bool} (P : Env → Cs → Prop) (h : iteQ b (okS s env cs (midQ P)) (okS s2 env cs (midQ P))) (hk : ∀ env cs, P env cs → okS k env cs Q) : iteQ b (okS s env cs (thenQ k Q)) (okS s2 env cs (thenQ k Q)) :=
  ⟨fun e => okS_mid P (h.1 e) hk, fun e => okS_mid P (h.2 e) hk⟩
/-- both ways set the one name -/
theorem ite_setv {Q : Out → Env → Cs → Prop} {k : S} {b : Bool} (i : Nat) (x : A) (h1 : b = true → okS s env cs (midQ fun e c => e = env.set i (some x) ∧ c = cs)) (h2 : b = false → okS s2 env cs (midQ fun e c => e = env.set i (some x) ∧ c = cs)) (hk : okS k (env.set i (some x)) cs Q) : iteQ b (okS s env cs (thenQ k Q)) (okS s2 env cs (thenQ k Q)) :=
  ite_mid (fun e c => e = env.set i (some x) ∧ c = cs) ⟨h1, h2⟩ fun e c h => by rw [h.1, h.2]; exact hk
/-! loops -/
theorem okS_for {Q : Out → Env → Cs → Prop} {it : I} {gt : G} (q : okI it env cs fun xs lk cs => okS (forL lk gt s xs) env cs Q) : okS (sFor it gt s) env cs Q := by
  obtain ⟨xs, lk, c1, e1, o, e2, c2, h2, q⟩ := q
  exact ⟨o, e2, c2, by unfold sFor; rw [e1]; exact h2, q⟩
def turnQ (P : Env → Cs → Prop) (Q : Out → Env → Cs → Prop) : Out → Env → Cs → Prop
  | .nx, env, cs => P env cs
  | .ct, env, cs => P env cs
  | .bk, env, cs => Q .nx env cs
  | .rt v, env, cs => Q (.rt v) env cs
theorem turn_nx {P : Env → Cs → Prop} {Q : Out → Env → Cs → Prop} (q : P env cs) : turnQ P Q .nx env cs := q
theorem turn_ct {P : Env → Cs → Prop} {Q : Out → Env → Cs → Prop} (q : P env cs) : turnQ P Q .ct env cs := q
theorem turn_bk {P : Env → Cs → Prop} {Q : Out → Env → Cs → Prop} (q : Q .nx env cs) : turnQ P Q .bk env cs := q
theorem turn_rt {P : Env → Cs → Prop} {Q : Out → Env → Cs → Prop} {v : A} (q : Q (.rt v) env cs) : turnQ P Q (.rt v) env cs := q
/-- P says what holds when the items pre are done -/
theorem for_go {lk : Lk} {gt : G} {body : S} {Q : Out → Env → Cs → Prop} (xs : List D) (P : List D → Env → Cs → Prop)
    (hl : ∀ pre env cs, P pre env cs → lockOk lk cs = true)
    (hs : ∀ pre x post env cs, xs = pre ++ x :: post → P pre env cs → okO (gt x env) fun env1 => okS body env1 cs (turnQ (P (pre ++ [x])) Q))
    (he : ∀ env cs, P xs env cs → Q .nx env cs) : ∀ (pre post : List D) (env : Env) (cs : Cs), xs = pre ++ post → P pre env cs → okS (forL lk gt body post) env cs Q
  | pre, [], env, cs, e, h => ⟨.nx, env, cs, by unfold forL; rw [if_pos (hl _ _ _ h)], he _ _ (by rw [e, List.append_nil]; exact h)⟩
  | pre, x :: post, env, cs, e, h => by
    obtain ⟨env1, e1, o, e2, c2, h2, q⟩ := hs pre x post env cs e h
    have ih := fun q => for_go (lk := lk) (gt := gt) (body := body) (Q := Q) xs P hl hs he (pre ++ [x]) post e2 c2 (by rw [e]; simp) q
    cases o with
    | nx => obtain ⟨o3, e3, c3, h3, q3⟩ := ih q; exact ⟨o3, e3, c3, by unfold forL; rw [if_pos (hl _ _ _ h), e1]; simp only [Option.bind_some]; rw [h2]; exact h3, q3⟩
    | ct => obtain ⟨o3, e3, c3, h3, q3⟩ := ih q; exact ⟨o3, e3, c3, by unfold forL; rw [if_pos (hl _ _ _ h), e1]; simp only [Option.bind_some]; rw [h2]; exact h3, q3⟩
    | bk => exact ⟨_, e2, c2, by unfold forL; rw [if_pos (hl _ _ _ h), e1]; simp only [Option.bind_some]; rw [h2]; rfl, q⟩
    | rt v => exact ⟨_, e2, c2, by unfold forL; rw [if_pos (hl _ _ _ h), e1]; simp only [Option.bind_some]; rw [h2]; rfl, q⟩
theorem okS_forL {lk : Lk} {gt : G} {body : S} {Q : Out → Env → Cs → Prop} {xs : List D} (P : List D → Env → Cs → Prop) (h0 : P [] env cs)
    (hl : ∀ pre env cs, P pre env cs → lockOk lk cs = true)
    (hs : ∀ pre x post env cs, xs = pre ++ x :: post → P pre env cs → okO (gt x env) fun env1 => okS body env1 cs (turnQ (P (pre ++ [x])) Q))
    (he : ∀ env cs, P xs env cs → Q .nx env cs) : okS (forL lk gt body xs) env cs Q := for_go xs P hl hs he [] xs env cs rfl h0
theorem while_go {t : T} {body : S} {Q : Out → Env → Cs → Prop} (P : Nat → Env → Cs → Prop)
    (hs : ∀ n env cs, P n env cs → okT t env cs fun b cs => iteQ b (∃ m, n = m + 1 ∧ okS body env cs (turnQ (P m) Q)) (Q .nx env cs)) : ∀ (n : Nat) (env : Env) (cs : Cs), P n env cs → ∀ k, n < k → okS (whileN t body k) env cs Q
  | n, env, cs, h, k + 1, hk => by
    obtain ⟨b, c1, e1, q⟩ := hs n env cs h
    cases b with
    | false => exact ⟨_, _, _, by unfold whileN; rw [e1]; rfl, q.2 rfl⟩
    | true =>
      obtain ⟨m, rfl, o, e2, c2, h2, q⟩ := q.1 rfl
      have ih := fun q => while_go (t := t) (body := body) (Q := Q) P hs m e2 c2 q k (by omega)
      cases o with
      | nx => obtain ⟨o3, e3, c3, h3, q3⟩ := ih q; exact ⟨o3, e3, c3, by unfold whileN; rw [e1]; simp only [Option.bind_some, if_true]; rw [h2]; exact h3, q3⟩
      | ct => obtain ⟨o3, e3, c3, h3, q3⟩ := ih q; exact ⟨o3, e3, c3, by unfold whileN; rw [e1]; simp only [Option.bind_some, if_true]; rw [h2]; exact h3, q3⟩
      | bk => exact ⟨_, e2, c2, by unfold whileN; rw [e1]; simp only [Option.bind_some, if_true]; rw [h2]; rfl, q⟩
      | rt v => exact ⟨_, e2, c2, by unfold whileN; rw [e1]; simp only [Option.bind_some, if_true]; rw [h2]; rfl, q⟩
  | n, env, cs, h, 0, hk => absurd hk (by omega)
theorem okS_while {t : T} {body : S} {Q : Out → Env → Cs → Prop} {k : Env → Cs → Nat} (P : Nat → Env → Cs → Prop) (n : Nat) (h0 : P n env cs) (hk : n < k env cs)
    (hs : ∀ n env cs, P n env cs → okT t env cs fun b cs => iteQ b (∃ m, n = m + 1 ∧ okS body env cs (turnQ (P m) Q)) (Q .nx env cs)) : okS (sWhile k t body) env cs Q := while_go P hs n env cs h0 _ hk
/-- a comprehension, its parts without a trace -/
theorem comp_map {lk : Lk} {own : List Nat} {gt : G} {t : T} {el : E} (kp : D → Bool) (fn : D → D) (hl : lockOk lk cs = true) : ∀ (xs : List D), (∀ x ∈ xs, okO (gt x (wipeE env own)) fun env1 => okT t env1 cs fun b cs' => cs' = cs ∧ b = kp x ∧ (b = true → okE el env1 cs fun y cs' => cs' = cs ∧ y = .d (fn x))) →
    compM lk own gt t el env xs cs = some ((xs.filter kp).map fn, cs)
  | [], _ => by unfold compM; rw [if_pos hl]; rfl
  | x :: xs, h => by
    have ih := comp_map (lk := lk) (own := own) (gt := gt) (t := t) (el := el) kp fn hl xs fun y hy => h y (List.mem_cons_of_mem _ hy)
    obtain ⟨env1, e1, b, c1, e2, rfl, hb, q⟩ := h x List.mem_cons_self
    unfold compM
    rw [if_pos hl, e1]; simp only [Option.bind_some]; rw [e2]; simp only [Option.bind_some]
    cases b with
    | true =>
      obtain ⟨y, c2, e3, rfl, rfl⟩ := q rfl
      rw [if_pos rfl, e3]; simp only [Option.bind_some]; rw [ih]
      simp [← hb]
    | false =>
      rw [if_neg (by simp), ih]
      simp [← hb]
end
/-! a def -/
theorem den_ok {np nN : Nat} {pol : Pol} {body : S} {xs : List A} {cs : Cs} {Q : A → Cs → Prop} (hl : xs.length = np)
    (h : okS body (startE nN xs) cs fun o _ cs1 => match o with
      | .nx => okO (leave pol cs.length (.d .none) cs1) fun p => Q p.1 p.2
      | .rt x => okO (leave pol cs.length x cs1) fun p => Q p.1 p.2
      | _ => False) : okO (den np nN pol body xs cs) fun p => Q p.1 p.2 := by
  obtain ⟨o, e1, c1, h1, q⟩ := h
  unfold den
  rw [if_pos hl, h1]
  cases o with
  | nx => exact q
  | rt v => exact q
  | bk => exact q.elim
  | ct => exact q.elim
theorem okO_eq {α β : Type} {o : Option (α × β)} {x : α} {y : β} (h : okO o fun p => p.1 = x ∧ p.2 = y) : o = some (x, y) := by
  obtain ⟨⟨a, b⟩, e, rfl, rfl⟩ := h
  exact e
/-- a call that hands no cell on -/
theorem call_flat {d : Den} {xs : List A} {cs : Cs} {x : D} (hx : xs.flatMap locA = []) (hr : renAs [] xs = some xs) (h : d xs [] = some (.d x, [])) : callL d xs cs = some (.d x, cs) := by
  unfold callL
  rw [hx]
  show callW [] d xs cs = _
  unfold callW
  rw [if_pos List.nodup_nil, hr]
  show ((d xs []).bind _) = _
  rw [h]
  simp [bkA, wb]
theorem call_new {d : Den} {xs : List A} {cs : Cs} {ds : List D} (hx : xs.flatMap locA = []) (hr : renAs [] xs = some xs) (h : d xs [] = some (.loc 0, [.lst ds])) : callL d xs cs = some (.loc cs.length, cs ++ [.lst ds]) := by
  unfold callL
  rw [hx]
  show callW [] d xs cs = _
  unfold callW
  rw [if_pos List.nodup_nil, hr]
  show ((d xs []).bind _) = _
  rw [h]
  simp [bkA, wb, bkN, bkC]
/-- one list cell alone handed on -/
theorem call_one {d : Den} {n : Nat} {cs : Cs} {ds ds' : List D} {x : D} (hn : cs[n]? = some (.lst ds)) (h : d [.loc 0] [.lst ds] = some (.d x, [.lst ds'])) : callL d [.loc n] cs = some (.d x, cs.set n (.lst ds')) := by
  have e : reach cs 64 ([A.loc n].flatMap locA) [] = [n] := by
    show reach cs 64 [n] [] = [n]
    unfold reach; rw [if_neg (by simp)]
    simp only [hn, locC, List.nil_append, List.append_nil]
    unfold reach; rfl
  unfold callL
  rw [e]
  unfold callW
  rw [if_pos (by simp)]
  have e2 : renAs [n] [A.loc n] = some [.loc 0] := by simp [renAs, renA, List.idxOf?, List.findIdx?_cons]
  have e3 : pick [n] cs [n] = some [.lst ds] := by simp [pick, hn, renC]
  rw [e2]; simp only [Option.bind_some]; rw [e3]; simp only [Option.bind_some]; rw [h]
  simp [bkA, wb, bkC]
end Fn
end
section
/-! Fn.Q: the operations, told forwards. -/
namespace Fn
open PySem L2
section
variable {cs : Cs} {QA : A → Prop} {QL : List D → Prop} {QB : Bool → Prop} {QP : A × Cs → Prop}
theorem v_addI {i j : Int} (q : QA (.d (.int (i + j)))) : okO (oAdd (.d (.int i)) (.d (.int j)) cs) QA := ⟨_, rfl, q⟩
theorem v_addS {s t : Str} (q : QA (.d (.str (s ++ t)))) (h : s.length + t.length ≤ sizeLine) : okO (oAdd (.d (.str s)) (.d (.str t)) cs) QA := ⟨_, if_pos h, q⟩
theorem v_addL {a b : List D} (q : QA (.d (.list (a ++ b)))) (h : a.length + b.length ≤ sizeLine) : okO (oAdd (.d (.list a)) (.d (.list b)) cs) QA := ⟨_, if_pos h, q⟩
theorem v_addT {a b : List D} (q : QA (.d (.tuple (a ++ b)))) (h : a.length + b.length ≤ sizeLine) : okO (oAdd (.d (.tuple a)) (.d (.tuple b)) cs) QA := ⟨_, if_pos h, q⟩
theorem v_subI {i j : Int} (q : QA (.d (.int (i - j)))) : okO (oSub (.d (.int i)) (.d (.int j)) cs) QA := ⟨_, rfl, q⟩
theorem v_int {c : Int → Int → Bool} {g : Int → Int → Int} {i j : Int} (q : QA (.d (.int (g i j)))) (h : c i j = true) : okO (oInt c g (.d (.int i)) (.d (.int j)) cs) QA := ⟨_, if_pos h, q⟩
theorem v_mulI {i j : Int} (q : QA (.d (.int (i * j)))) (h : (-B64 < i ∧ i < B64) ∨ (-B64 < j ∧ j < B64)) : okO (oMul (.d (.int i)) (.d (.int j)) cs) QA := ⟨_, if_pos (by unfold cMul; simp only [Bool.or_eq_true, Bool.and_eq_true, decide_eq_true_eq]; exact h), q⟩
theorem v_mulS {s : Str} {j : Int} (q : QA (.d (.str (strRep s j.toNat)))) (h : -B63 ≤ j ∧ j < B63 ∧ s.length * j.toNat ≤ sizeLine) : okO (oMul (.d (.str s)) (.d (.int j)) cs) QA := ⟨_, if_pos h, q⟩
theorem v_mulL {a : List D} {j : Int} (q : QA (.d (.list (List.replicate j.toNat a).flatten))) (h : -B63 ≤ j ∧ j < B63 ∧ a.length * j.toNat ≤ sizeLine) : okO (oMul (.d (.list a)) (.d (.int j)) cs) QA := ⟨_, if_pos h, q⟩
theorem v_ixL {xs : List D} {i : Int} (q : okO (atI xs i) fun z => QA (.d z)) : okO (oIx (.d (.list xs)) (.d (.int i)) cs) QA := by
  obtain ⟨z, e, q⟩ := q
  exact ⟨_, by show (atI xs i).bind _ = _; rw [e]; rfl, q⟩
theorem v_ixT {xs : List D} {i : Int} (q : okO (atI xs i) fun z => QA (.d z)) : okO (oIx (.d (.tuple xs)) (.d (.int i)) cs) QA := by
  obtain ⟨z, e, q⟩ := q
  exact ⟨_, by show (atI xs i).bind _ = _; rw [e]; rfl, q⟩
theorem v_ixR {xs : List D} {i : Int} (q : okO (atI xs i) fun z => QA (.d z)) : okO (oIx (.ro xs) (.d (.int i)) cs) QA := by
  obtain ⟨z, e, q⟩ := q
  exact ⟨_, by show (atI xs i).bind _ = _; rw [e]; rfl, q⟩
theorem v_ixC {n : Nat} {xs : List D} {i : Int} (h : lstAt cs n = some xs) (q : okO (atI xs i) fun z => QA (.d z)) : okO (oIx (.loc n) (.d (.int i)) cs) QA := by
  obtain ⟨z, e, q⟩ := q
  exact ⟨_, by show (lstAt cs n).bind _ = _; rw [h]; show (atI xs i).bind _ = _; rw [e]; rfl, q⟩
theorem v_ixS {s : Str} {i : Int} (q : okO (atI s.cps.toList i) fun z => QA (.d (.str ⟨#[z]⟩))) (h : s.length ≤ sizeLine) : okO (oIx (.d (.str s)) (.d (.int i)) cs) QA := by
  obtain ⟨z, e, q⟩ := q
  exact ⟨_, by show (if s.length ≤ sizeLine then _ else _) = _; rw [if_pos h, e]; rfl, q⟩
theorem ixN_pos {n : Nat} {i : Int} (h : 0 ≤ i) (hn : i < n) : ixN n i = some i.toNat := by
  unfold ixN
  simp only [h, hn, if_true]
theorem at_mk {α : Type} {xs : List α} {i : Int} {z : α} {Q : α → Prop} (h0 : 0 ≤ i) (h : xs[i.toNat]? = some z) (q : Q z) : okO (atI xs i) Q := by
  have hn : i.toNat < xs.length := (List.getElem?_eq_some_iff.mp h).1
  exact ⟨z, by unfold atI; rw [ixN_pos h0 (by omega)]; exact h, q⟩
/-- the one item that stands there -/
theorem at_get {α : Type} {xs : List α} {i : Int} {Q : α → Prop} (h0 : 0 ≤ i) (h : i.toNat < xs.length) (q : Q xs[i.toNat]) : okO (atI xs i) Q := at_mk h0 (List.getElem?_eq_getElem h) q
theorem at_last {α : Type} {xs : List α} {z : α} {Q : α → Prop} (h : xs.getLast? = some z) (q : Q z) : okO (atI xs (-1)) Q := by
  refine ⟨z, ?_, q⟩
  cases xs with
  | nil => cases h
  | cons a t =>
    have e : ixN (a :: t).length (-1) = some t.length := by
      unfold ixN
      rw [if_neg (by decide), if_pos (by simp [List.length_cons]; omega)]
      congr 1
      simp only [List.length_cons]; omega
    unfold atI
    rw [e]
    show (a :: t)[t.length]? = some z
    rw [← h, List.getLast?_eq_getElem?]
    rfl
/-! comparisons -/
theorem v_cint {p : Int → Int → Bool} {i j : Int} (q : QB (p i j)) : okO (cInt p (.d (.int i)) (.d (.int j)) cs) QB := ⟨_, rfl, q⟩
theorem eqv_int (i j : Int) : PyData.eqv (.int i) (.int j) = decide (i = j) := by
  rw [PyData.eqv.eq_def]; exact Bool.beq_eq_decide_eq i j
theorem eqv_str (i j : Str) : PyData.eqv (.str i) (.str j) = decide (i = j) := by
  rw [PyData.eqv.eq_def]; exact Bool.beq_eq_decide_eq i j
theorem v_eqI {i j : Int} (q : QB (decide (i = j))) : okO (cEq (.d (.int i)) (.d (.int j)) cs) QB := ⟨_, rfl, by rw [eqv_int]; exact q⟩
theorem v_neI {i j : Int} (q : QB (!decide (i = j))) : okO (cNe (.d (.int i)) (.d (.int j)) cs) QB := ⟨_, rfl, by rw [eqv_int]; exact q⟩
theorem v_eqS {i j : Str} (q : QB (decide (i = j))) : okO (cEq (.d (.str i)) (.d (.str j)) cs) QB := ⟨_, rfl, by rw [eqv_str]; exact q⟩
theorem v_neS {i j : Str} (q : QB (!decide (i = j))) : okO (cNe (.d (.str i)) (.d (.str j)) cs) QB := ⟨_, rfl, by rw [eqv_str]; exact q⟩
theorem v_eq {x y : A} {a b : D} (h1 : toD x cs = some a) (h2 : toD y cs = some b) (q : QB (PyData.eqv a b)) (h : shallow a b = true) : okO (cEq x y cs) QB := ⟨_, by unfold cEq; rw [h1]; simp only [Option.bind_some]; rw [h2]; simp only [Option.bind_some]; rw [if_pos h], q⟩
theorem v_ne {x y : A} {a b : D} (h1 : toD x cs = some a) (h2 : toD y cs = some b) (q : QB (!PyData.eqv a b)) (h : shallow a b = true) : okO (cNe x y cs) QB := ⟨_, by unfold cNe; rw [h1]; simp only [Option.bind_some]; rw [h2]; simp only [Option.bind_some]; rw [if_pos h], q⟩
theorem v_in {x y : A} {a : D} {b : List D} (h1 : toD x cs = some a) (h2 : items y cs = some b) (q : QB (b.any fun z => PyData.eqv z a)) (h : shallowIn a b = true) : okO (cIn x y cs) QB := ⟨_, by unfold cIn; rw [h1]; simp only [Option.bind_some]; rw [h2]; simp only [Option.bind_some]; rw [if_pos h], q⟩
theorem v_notIn {x y : A} {a : D} {b : List D} (h1 : toD x cs = some a) (h2 : items y cs = some b) (q : QB (!(b.any fun z => PyData.eqv z a))) (h : shallowIn a b = true) : okO (cNotIn x y cs) QB := ⟨_, by unfold cNotIn; rw [h1]; simp only [Option.bind_some]; rw [h2]; simp only [Option.bind_some]; rw [if_pos h], q⟩
/-! built-ins -/
theorem v_truS {s : Str} (q : QB ((s.length : Int) != 0)) (h : s.length ≤ sizeLine) : okO (truth (.d (.str s)) cs) QB := ⟨_, if_pos h, q⟩
theorem v_lenS {s : Str} (q : QA (.d (.int s.length))) (h : s.length ≤ sizeLine) : okO (bLen [.d (.str s)] cs) QA := ⟨_, if_pos h, q⟩
theorem v_lenL {xs : List D} (q : QA (.d (.int xs.length))) : okO (bLen [.d (.list xs)] cs) QA := ⟨_, rfl, q⟩
theorem v_lenR {xs : List D} (q : QA (.d (.int xs.length))) : okO (bLen [.ro xs] cs) QA := ⟨_, rfl, q⟩
theorem v_lenC {n : Nat} {xs : List D} (h : lstAt cs n = some xs) (q : QA (.d (.int xs.length))) : okO (bLen [.loc n] cs) QA := ⟨_, by show (lstAt cs n).bind _ = _; rw [h]; rfl, q⟩
theorem v_all {xs : List D} {bs : List Bool} (h : allB xs = some bs) (q : QA (.d (.bool (bs.all id)))) : okO (bAll [.d (.list xs)] cs) QA := ⟨_, by show (allB xs).bind _ = _; rw [h]; rfl, q⟩
theorem v_any {xs : List D} {bs : List Bool} (h : allB xs = some bs) (q : QA (.d (.bool (bs.any id)))) : okO (bAny [.d (.list xs)] cs) QA := ⟨_, by show (allB xs).bind _ = _; rw [h]; rfl, q⟩
theorem v_sum {xs : List D} {bs : List Int} (h : allI xs = some bs) (q : QA (.d (.int bs.sum))) : okO (bSum [.d (.list xs)] cs) QA := ⟨_, by show (allI xs).bind _ = _; rw [h]; rfl, q⟩
theorem allB_map {α : Type} (f : α → Bool) : ∀ xs : List α, allB (xs.map fun x => PyData.bool (f x)) = some (xs.map f)
  | [] => rfl
  | x :: xs => by simp only [List.map_cons]; unfold allB; rw [allB_map f xs]; rfl
theorem allI_map {α : Type} (f : α → Int) : ∀ xs : List α, allI (xs.map fun x => PyData.int (f x)) = some (xs.map f)
  | [] => rfl
  | x :: xs => by simp only [List.map_cons]; unfold allI; rw [allI_map f xs]; rfl
theorem allS_map {α : Type} (f : α → Str) : ∀ xs : List α, allS (xs.map fun x => PyData.str (f x)) = some (xs.map f)
  | [] => rfl
  | x :: xs => by simp only [List.map_cons]; unfold allS; rw [allS_map f xs]; rfl
theorem v_app {n : Nat} {y : D} {ds : List D} (h : lstAt cs n = some ds) (q : QP (.d .none, cs.set n (.lst (ds ++ [y])))) (hl : ds.length < sizeLine) : okO (mAppend (.loc n) [.d y] cs) QP := ⟨_, by show (lstAt cs n).bind _ = _; rw [h]; exact if_pos hl, q⟩
theorem v_join {a : Str} {y : A} {ds : List D} {ys : List Str} (h : items y cs = some ds) (h2 : allS ds = some ys) (q : QP (.d (.str (Str.join a ys)), cs)) (hl : (ys.map (·.length)).sum + ys.length * a.length ≤ 16777216) : okO (mJoin (.d (.str a)) [y] cs) QP := ⟨_, by show (items y cs).bind _ = _; rw [h]; show (allS ds).bind _ = _; rw [h2]; exact if_pos hl, q⟩
theorem v_slS {s : Str} {a b : Option Int} (q : QA (.d (.str (cutS s a b)))) (h : s.length ≤ sizeLine) : okO (slA (.d (.str s)) cs a b) QA := ⟨_, if_pos h, q⟩
theorem v_slL {xs : List D} {a b : Option Int} (q : QA (.d (.list (cutD xs a b)))) : okO (slA (.d (.list xs)) cs a b) QA := ⟨_, rfl, q⟩
theorem v_slR {xs : List D} {a b : Option Int} (q : QA (.d (.list (cutD xs a b)))) : okO (slA (.ro xs) cs a b) QA := ⟨_, rfl, q⟩
theorem v_slC {n : Nat} {xs : List D} {a b : Option Int} (h : lstAt cs n = some xs) (q : QA (.d (.list (cutD xs a b)))) : okO (slA (.loc n) cs a b) QA := ⟨_, by show (lstAt cs n).bind _ = _; rw [h]; rfl, q⟩
end
theorem okE_d {x : D} {p : D → Prop} (q : p x) : ∃ y, (A.d x) = .d y ∧ p y := ⟨x, rfl, q⟩
theorem one_int {i : Int} {p : Int → Prop} (q : p i) : ∃ y, [A.d (.int i)] = [.d (.int y)] ∧ p y := ⟨i, rfl, q⟩
theorem two_int {i j : Int} {p : Int → Int → Prop} (q : p i j) : ∃ y z, [A.d (.int i), A.d (.int j)] = [.d (.int y), .d (.int z)] ∧ p y z := ⟨i, j, rfl, q⟩
theorem zip_mk {fs : As} {env : Env} {cs : Cs} {Q : List D → Lk → Cs → Prop} (q : okA fs env cs fun xs cs => ∃ a b, xs = [.d (.str a), .d (.str b)] ∧ Q (zipS a b) none cs) : okI (iZip fs) env cs Q := by
  obtain ⟨xs, c1, e1, a, b, rfl, q⟩ := q
  exact ⟨_, _, c1, by unfold iZip; rw [e1]; rfl, q⟩
theorem two_str {i j : Str} {p : Str → Str → Prop} (q : p i j) : ∃ y z, [A.d (.str i), A.d (.str j)] = [.d (.str y), .d (.str z)] ∧ p y z := ⟨i, j, rfl, q⟩
theorem enum_mk {fs : As} {env : Env} {cs : Cs} {Q : List D → Lk → Cs → Prop} (q : okA fs env cs fun xs cs => ∃ x, xs = [x] ∧ okO (src x cs) fun z => Q (enumD z.1) z.2 cs) : okI (iEnumF fs) env cs Q := by
  obtain ⟨xs, c1, e1, x, rfl, ⟨z, lk⟩, e2, q⟩ := q
  exact ⟨_, _, c1, by unfold iEnumF; rw [e1]; simp only [Option.bind_some]; rw [e2]; rfl, q⟩
theorem one_any {x : A} {p : A → Prop} (q : p x) : ∃ y, [x] = [y] ∧ p y := ⟨x, rfl, q⟩
/-- how a def that freezes ends -/
def outD (x : D) : Out → Cs → Prop
  | .nx, _ => x = .none
  | .rt (.d y), _ => x = y
  | .rt (.loc n), cs => ∃ ds, lstAt cs n = some ds ∧ x = .list ds
  | _, _ => False
theorem den_frz {np nN : Nat} {body : S} {xs : List A} {x : D} (hl : xs.length = np) (h : okS body (startE nN xs) [] fun o _ cs1 => outD x o cs1) : den np nN .frz body xs [] = some (.d x, []) := by
  obtain ⟨o, e1, c1, h1, q⟩ := h
  unfold den
  rw [if_pos hl, h1]
  simp only [Option.bind_some]
  cases o with
  | nx => cases q; rfl
  | bk => exact q.elim
  | ct => exact q.elim
  | rt y => cases y with
    | d y => cases q; rfl
    | ro _ => exact q.elim
    | loc n =>
      obtain ⟨ds, e, rfl⟩ := q
      show leave .frz 0 (.loc n) c1 = _
      unfold leave
      simp [closedA, e]
/-- .. that hands its new list out -/
def outN (x : List D) : Out → Cs → Prop
  | .rt (.loc n), cs => lstAt cs n = some x
  | _, _ => False
theorem den_exp {np nN : Nat} {body : S} {xs : List A} {x : List D} (hl : xs.length = np) (h : okS body (startE nN xs) [] fun o _ cs1 => outN x o cs1) : den np nN .exp body xs [] = some (.loc 0, [.lst x]) := by
  obtain ⟨o, e1, c1, h1, q⟩ := h
  unfold den
  rw [if_pos hl, h1]
  simp only [Option.bind_some]
  cases o with
  | nx => exact q.elim
  | bk => exact q.elim
  | ct => exact q.elim
  | rt y => cases y with
    | d y => exact q.elim
    | ro _ => exact q.elim
    | loc n =>
      have e : lstAt c1 n = some x := q
      show leave .exp 0 (.loc n) c1 = _
      unfold leave
      simp [closedA, e]
theorem outD_d {x y : D} {cs : Cs} (h : x = y) : outD x (.rt (.d y)) cs := h
theorem outD_l {x : List D} {n : Nat} {cs : Cs} (h : lstAt cs n = some x) : outD (.list x) (.rt (.loc n)) cs := ⟨x, h, rfl⟩
/-- .. what holds of the value told -/
def outQ (R : D → Prop) : Out → Cs → Prop
  | .nx, _ => R .none
  | .rt (.d y), _ => R y
  | .rt (.loc n), cs => ∃ ds, lstAt cs n = some ds ∧ R (.list ds)
  | _, _ => False
theorem den_q {np nN : Nat} {body : S} {xs : List A} {R : D → Prop} (hl : xs.length = np) (h : okS body (startE nN xs) [] fun o _ cs1 => outQ R o cs1) : ∃ x, den np nN .frz body xs [] = some (.d x, []) ∧ R x := by
  obtain ⟨o, e1, c1, h1, q⟩ := h
  unfold den
  rw [if_pos hl, h1]
  simp only [Option.bind_some]
  cases o with
  | nx => exact ⟨_, rfl, q⟩
  | bk => exact q.elim
  | ct => exact q.elim
  | rt y => cases y with
    | d y => exact ⟨_, rfl, q⟩
    | ro _ => exact q.elim
    | loc n =>
      obtain ⟨ds, e, q⟩ := q
      refine ⟨.list ds, ?_, q⟩
      show leave .frz 0 (.loc n) c1 = _
      unfold leave
      simp [closedA, e]
theorem outQ_d {R : D → Prop} {y : D} {cs : Cs} (h : R y) : outQ R (.rt (.d y)) cs := h
theorem outQ_l {R : D → Prop} {ds : List D} {n : Nat} {cs : Cs} (h : lstAt cs n = some ds) (q : R (.list ds)) : outQ R (.rt (.loc n)) cs := ⟨ds, h, q⟩
theorem v_modI {cs : Cs} {QA : A → Prop} {i j : Int} (q : QA (.d (.int (i.fmod j)))) (h : j ≠ 0) : okO (oMod (.d (.int i)) (.d (.int j)) cs) QA := v_int q (decide_eq_true h)
theorem v_divI {cs : Cs} {QA : A → Prop} {i j : Int} (q : QA (.d (.int (i.fdiv j)))) (h : j ≠ 0) (h2 : j < 1073741824) (h3 : -1073741824 < j) : okO (oDiv (.d (.int i)) (.d (.int j)) cs) QA := v_int q (by
  have : j.natAbs < 1073741824 := by omega
  simp [h, this])
theorem kind_s {s : Str} {cs : Cs} : kindA "str" (.d (.str s)) cs = true := by simp [kindA, isStrA]
theorem kind_l {x : A} {cs : Cs} (h : (seqL x cs).isSome = true) : kindA "list" x cs = true := by simp [kindA, h]
theorem dput_mk {n : Nat} {k : A} {cs : Cs} {kvs : List (Key × A)} {kk : Key} {Q : Nat → List (Key × A) → Key → Prop} (h1 : dctAt (.loc n) cs = some kvs) (h2 : keyOf k = some kk) (q : Q n kvs kk) (hl : kvs.length < sizeLine) :
    ∃ n' kvs kk, A.loc n = .loc n' ∧ dctAt (.loc n') cs = some kvs ∧ keyOf k = some kk ∧ (Q n' kvs kk ∧ kvs.length < sizeLine) := ⟨n, kvs, kk, rfl, h1, h2, q, hl⟩
theorem v_truB {b : Bool} {cs : Cs} {QB : Bool → Prop} (q : QB b) : okO (truth (.d (.bool b)) cs) QB := ⟨_, rfl, q⟩
theorem v_truI {i : Int} {cs : Cs} {QB : Bool → Prop} (q : QB (i != 0)) : okO (truth (.d (.int i)) cs) QB := ⟨_, rfl, q⟩
theorem v_truN {cs : Cs} {QB : Bool → Prop} (q : QB false) : okO (truth (.d .none) cs) QB := ⟨_, rfl, q⟩
theorem v_truL {xs : List D} {cs : Cs} {QB : Bool → Prop} (q : QB (!xs.isEmpty)) : okO (truth (.d (.list xs)) cs) QB := ⟨_, rfl, q⟩
theorem okE_make {c : Str} {d : Den} {ds : List D} {fs : As} {env : Env} {cs : Cs} {Q : A → Cs → Prop} (q : okA fs env cs fun xs cs => okO (callL d (.loc cs.length :: (xs ++ ds.map A.d)) (cs ++ [.ins c []])) fun p => p.1 = .d .none ∧ Q (.loc cs.length) p.2) : okE (eMake c d ds fs) env cs Q := by
  obtain ⟨xs, c1, e1, ⟨z, c2⟩, e2, hz, q⟩ := q
  have hz : z = .d .none := hz
  subst hz
  exact ⟨_, c2, by unfold eMake; rw [e1]; simp only [Option.bind_some]; rw [e2]; rfl, q⟩
theorem enum_at {xs pre post : List D} {x : D} (h : enumD xs = pre ++ x :: post) : ∃ z, xs[pre.length]? = some z ∧ x = .tuple [.int (pre.length : Nat), z] := by
  have h1 : (enumD xs)[pre.length]? = some x := by rw [h]; simp
  have hl : pre.length < xs.length := by
    have := congrArg List.length h
    rw [enumD_len] at this
    simp at this; omega
  refine ⟨xs[pre.length], List.getElem?_eq_getElem hl, ?_⟩
  rw [enumD_get (List.getElem?_eq_getElem hl)] at h1
  exact (Option.some.inj h1).symm
theorem den_keep {np nN : Nat} {body : S} {xs : List A} {cs cs' : Cs} (hl : xs.length = np) (h : okS body (startE nN xs) cs fun o _ c => o = .nx ∧ c = cs') : den np nN .keep body xs cs = some (.d .none, cs') := by
  obtain ⟨o, e1, c1, h1, rfl, rfl⟩ := h
  unfold den
  rw [if_pos hl, h1]
  rfl
theorem eqv_bool (i j : Bool) : PyData.eqv (.bool i) (.bool j) = decide (i = j) := by
  rw [PyData.eqv.eq_def]; exact Bool.beq_eq_decide_eq i j
theorem v_neB {i j : Bool} {cs : Cs} {QB : Bool → Prop} (q : QB (!decide (i = j))) : okO (cNe (.d (.bool i)) (.d (.bool j)) cs) QB := ⟨_, rfl, by rw [eqv_bool]; exact q⟩
theorem v_eqB {i j : Bool} {cs : Cs} {QB : Bool → Prop} (q : QB (decide (i = j))) : okO (cEq (.d (.bool i)) (.d (.bool j)) cs) QB := ⟨_, rfl, by rw [eqv_bool]; exact q⟩
end Fn
end
section
/-! Fn.R: texts of two signs, counting signs, joins of signs. -/
namespace Fn
open PySem L2
/-- the text of the signs l -/
def txt (l : List Nat) : Str := ⟨l.toArray⟩
theorem txt_len (l : List Nat) : (txt l).length = l.length := by simp [txt, Str.length]
theorem txt_app (a b : List Nat) : txt a ++ txt b = txt (a ++ b) := by
  show Str.append _ _ = _
  simp [Str.append, txt]
theorem txt_rep (a : List Nat) (n : Nat) : strRep (txt a) n = txt (List.replicate n a).flatten := by simp [strRep, txt]
theorem txt_chars (l : List Nat) : chars (txt l) = l.map fun c => PyData.str ⟨#[c]⟩ := by simp [chars, txt]
theorem txt_toList (l : List Nat) : (txt l).cps.toList = l := by simp [txt]
theorem txt_eta (s : Str) : txt s.cps.toList = s := by cases s; simp [txt]
theorem txt_inj {a b : List Nat} : txt a = txt b ↔ a = b := ⟨fun h => by have := congrArg (fun s : Str => s.cps.toList) h; simpa [txt] using this, fun h => by rw [h]⟩
theorem sgn_txt (c : Nat) : (⟨#[c]⟩ : Str) = txt [c] := rfl
theorem join_txt : ∀ ls : List (List Nat), Str.join ⟨#[]⟩ (ls.map txt) = txt ls.flatten
  | [] => rfl
  | [x] => by simp [Str.join]
  | x :: y :: rest => by
    have ih := join_txt (y :: rest)
    simp only [List.map_cons] at ih
    simp only [List.map_cons, Str.join]
    rw [ih]
    show txt x ++ txt [] ++ txt _ = _
    rw [txt_app, txt_app]
    simp
/-! counting one sign -/
open Builtin.Str in
theorem occ_one (x : Str) (c : Nat) : (occurrences x ⟨#[c]⟩ 0 x.length (x.length + 1)).length = (x.cps.toList.filter fun z => decide (z = c)).length := by
  have sub : ∀ i, subAt x ⟨#[c]⟩ i = decide (x.cps.toList[i]? = some c) := by
    intro i
    unfold subAt
    rw [Bool.eq_iff_iff]
    simp only [beq_iff_eq, decide_eq_true_eq]
    show x.cps.extract i (i + 1) = #[c] ↔ _
    rw [← Array.toList_inj]
    simp only [Array.toList_extract, List.extract_eq_take_drop, Nat.add_sub_cancel_left]
    constructor
    · intro h
      have := congrArg (fun l : List Nat => l[0]?) h
      simpa [List.getElem?_take, List.getElem?_drop] using this
    · intro h
      apply List.ext_getElem?
      intro j
      cases j with
      | zero => simp [List.getElem?_take, List.getElem?_drop, h]
      | succ j => simp [List.getElem?_take]
  have go : ∀ (m k : Nat) (st : Array Nat × Nat), k + m = x.length + 1 → st.2 ≤ k → st.1.size ≤ k → (forIn (List.range' k m) st (StrLaws.occBody x ⟨#[c]⟩ x.length (x.length + 1))).run.1.size = st.1.size + ((x.cps.toList.drop k).filter fun z => decide (z = c)).length := by
    intro m
    induction m with
    | zero =>
      intro k st hk h1 h2
      have : x.cps.toList.drop k = [] := List.drop_eq_nil_of_le (by simp only [Array.length_toList]; show x.length ≤ k; omega)
      rw [this]; rfl
    | succ m ih =>
      intro k st hk h1 h2
      rw [List.range'_succ, List.forIn_cons]
      unfold StrLaws.occBody
      rw [sub]
      by_cases hlt : k < x.cps.toList.length
      · rw [List.drop_eq_getElem_cons hlt]
        have hlt' : k < x.length := by simpa [Str.length] using hlt
        have one : (Str.length ⟨#[c]⟩) = 1 := rfl
        by_cases hc : x.cps.toList[k] = c
        · rw [if_pos ⟨⟨⟨by omega, h1⟩, by rw [one]; omega⟩, decide_eq_true (by rw [List.getElem?_eq_getElem hlt]; exact congrArg some hc)⟩, List.filter_cons_of_pos (p := fun z => decide (z = c)) (by rw [decide_eq_true_eq]; exact hc), List.length_cons]
          have := ih (k + 1) (st.1.push k, k + 1) (by omega) (by simp) (by simp; omega)
          simp only [Array.size_push] at this
          refine Eq.trans this ?_
          omega
        · rw [if_neg (by
            rintro ⟨_, h⟩
            have h := of_decide_eq_true h
            rw [List.getElem?_eq_getElem hlt] at h
            exact hc (Option.some.inj h)), List.filter_cons_of_neg (p := fun z => decide (z = c)) (by rw [decide_eq_true_eq]; exact hc)]
          exact ih (k + 1) (st.1, st.2) (by omega) (by show st.2 ≤ k + 1; omega) (by show st.1.size ≤ k + 1; omega)
      · have hk' : x.cps.toList.drop k = [] := List.drop_eq_nil_of_le (by omega)
        have hk2 : x.cps.toList.drop (k + 1) = [] := List.drop_eq_nil_of_le (by omega)
        rw [if_neg (by
          rintro ⟨_, h⟩
          have h := of_decide_eq_true h
          rw [List.getElem?_eq_none (by omega)] at h
          cases h)]
        have := ih (k + 1) (st.1, st.2) (by omega) (by show st.2 ≤ k + 1; omega) (by show st.1.size ≤ k + 1; omega)
        rw [hk2] at this
        rw [hk']
        exact this
  rw [StrLaws.occ_eq, Array.length_toList]
  have := go (x.length + 1) 0 (#[], 0) (by omega) (Nat.le_refl _) (Nat.le_refl _)
  simpa using this
theorem count_txt (l : List Nat) (c : Nat) : Txt.count (txt l) ⟨#[c]⟩ = ((l.filter fun z => decide (z = c)).length : Int) := by
  unfold Txt.count
  rw [occ_one, txt_toList]
end Fn
end
section
namespace K62
open PySem L2 Fn
/-- _law_numbers: 0 cell, 1 base, 2 count, 3 numbers, 4 rest, 5 mixed, 6 k -/
def b_law_numbers : S := (sSeq (sSet 3 (eCell (fLst aNil)))
  (sSeq (sSet 4 (eVar 0))
  (sSeq (sSet 5 (eBin oMod (eB bInt (aCons (eBin oAdd (eBin oMul (eVar 0) (eC (.int 48271))) (eC (.int 7))) aNil)) (eC (.int 2147483647))))
  (sSeq (sFor (iRange1 (aCons (eVar 2) aNil)) (gN 6) (sSeq (sSet 5 (eBin oMod (eB bInt (aCons (eBin oAdd (eBin oAdd (eBin oMul (eVar 5) (eC (.int 16807))) (eVar 6)) (eC (.int 40692))) aNil)) (eC (.int 2147483647))))
  (sIf (tAndF (tCmp cGe (eVar 0) (eBin oPow (eC (.int 10)) (eC (.int 18)))) (tCmp cGt (eVar 4) (eC (.int 0)))) (sSeq (sExp (eM "list" mAppend (eVar 3) (aCons (eBin oMod (eB bInt (aCons (eVar 4) aNil)) (eVar 1)) aNil)))
  (sSet 4 (eBin oDiv (eVar 4) (eVar 1)))) (sExp (eM "list" mAppend (eVar 3) (aCons (eBin oMod (eBin oDiv (eVar 5) (eC (.int 11))) (eVar 1)) aNil))))))
  (sRet (eVar 3))))))
def d_law_numbers : Den := den 3 7 .frz b_law_numbers
/-- _law_cell: 0 script, 1 k -/
def b_law_cell : S := (sSeq (sIf (tCmp cLt (eVar 1) (eB bLen (aCons (eVar 0) aNil))) (sRet (eBin oIx (eVar 0) (eVar 1))) sNil)
  (sRet (eC (.int 0))))
def d_law_cell : Den := den 2 2 .frz b_law_cell
/-- _law_schedule: 0 numbers, 1 schedule, 2 number, 3 kind -/
def b_law_schedule : S := (sSeq (sSet 1 (eC (.str "")))
  (sSeq (sFor (iVal (eSl (eVar 0) (oPt (eC (.int 1))) (oPt (eBin oAdd (eC (.int 2)) (eBin oMod (eB bInt (aCons (eBin oIx (eVar 0) (eC (.int 0))) aNil)) (eC (.int 12))))))) (gN 2) (sSet 1 (eBin oAdd (eVar 1) (eBin oIx (eC (.str "wr")) (eBin oMod (eB bInt (aCons (eVar 2) aNil)) (eC (.int 2)))))))
  (sSeq (sSet 3 (eBin oMod (eB bInt (aCons (eBin oDiv (eBin oIx (eVar 0) (eC (.int 0))) (eC (.int 12))) aNil)) (eC (.int 6))))
  (sSeq (sIf (tCmp cEq (eVar 3) (eC (.int 1))) (sSet 1 (eBin oAdd (eBin oMul (eC (.str "w")) (eBin oAdd (eC (.int 1)) (eBin oMod (eB bInt (aCons (eBin oIx (eVar 0) (eC (.int 1))) aNil)) (eC (.int 6))))) (eBin oMul (eC (.str "r")) (eBin oAdd (eC (.int 1)) (eBin oMod (eB bInt (aCons (eBin oIx (eVar 0) (eC (.int 2))) aNil)) (eC (.int 6))))))) sNil)
  (sSeq (sIf (tCmp cEq (eVar 3) (eC (.int 2))) (sSet 1 (eBin oMul (eBin oIx (eFrz (fLst (aCons (eC (.str "wr")) (aCons (eC (.str "rw")) aNil)))) (eBin oMod (eB bInt (aCons (eBin oIx (eVar 0) (eC (.int 1))) aNil)) (eC (.int 2)))) (eBin oAdd (eC (.int 1)) (eBin oMod (eB bInt (aCons (eBin oIx (eVar 0) (eC (.int 2))) aNil)) (eC (.int 6)))))) sNil)
  (sSeq (sIf (tCmp cEq (eVar 3) (eC (.int 3))) (sSet 1 (eM "str" mJoin (eC (.str "")) (aCons (eFrz (fComp [2] (iVal (eSl (eVar 0) (oPt (eC (.int 1))) (oPt (eBin oAdd (eC (.int 2)) (eBin oMod (eB bInt (aCons (eBin oIx (eVar 0) (eC (.int 2))) aNil)) (eC (.int 6))))))) (gN 2) tTrue (eBin oIx (eFrz (fLst (aCons (eC (.str "wr")) (aCons (eC (.str "rw")) aNil)))) (eBin oMod (eB bInt (aCons (eBin oDiv (eVar 2) (eC (.int 2))) aNil)) (eC (.int 2)))))) aNil))) sNil)
  (sRet (eVar 1))))))))
def d_law_schedule : Den := den 1 4 .frz b_law_schedule
/-- _law_edges: 0 schedule, 1 stages, 2 window, 3 many, 4 counts, 5 marks, 6 reads, 7 edges, 8 side, 9 other, 10 since, 11 read, 12 known, 13 now -/
def b_law_edges : S := (sSeq (sSet 4 (eDict (pCons (eC (.str "w")) (eCell (fLst (aCons (eC (.int 0)) aNil))) (pCons (eC (.str "r")) (eCell (fLst (aCons (eC (.int 0)) aNil))) pNil))))
  (sSeq (sSet 5 (eDict (pCons (eC (.str "w")) (eC (.int 0)) (pCons (eC (.str "r")) (eC (.int 0)) pNil))))
  (sSeq (sSet 6 (eDict (pCons (eC (.str "w")) (eCell (fLst aNil)) (pCons (eC (.str "r")) (eCell (fLst aNil)) pNil))))
  (sSeq (sSet 7 (eCell (fLst aNil)))
  (sSeq (sFor (iVal (eBin oMul (eVar 0) (eVar 3))) (gN 8) (sSeq (sSet 9 (eC (.str "r")))
  (sSeq (sIf (tCmp cEq (eVar 8) (eC (.str "r"))) (sSet 9 (eC (.str "w"))) sNil)
  (sSeq (sSet 10 (eSl (eDget (eVar 4) (eVar 9)) (oPt (eDget (eVar 5) (eVar 8))) oNo))
  (sSeq (sSet 11 (eBin oIx (eVar 10) (eB bMax (aCons (eC (.int 0)) (aCons (eBin oSub (eBin oSub (eB bLen (aCons (eVar 10) aNil)) (eC (.int 1))) (eVar 2)) aNil)))))
  (sSeq (sExp (eM "list" mAppend (eDget (eVar 6) (eVar 8)) (aCons (eVar 11) aNil)))
  (sSeq (sSet 12 (eC (.int 0)))
  (sSeq (sIf (tCmp cGt (eB bLen (aCons (eDget (eVar 6) (eVar 8)) aNil)) (eVar 1)) (sSet 12 (eBin oIx (eDget (eVar 6) (eVar 8)) (eBin oSub (eBin oSub (eB bLen (aCons (eDget (eVar 6) (eVar 8)) aNil)) (eC (.int 1))) (eVar 1)))) sNil)
  (sSeq (sSet 13 (eBin oIx (eDget (eVar 4) (eVar 8)) (eNeg (eC (.int 1)))))
  (sSeq (sExp (eM "list" mAppend (eVar 7) (aCons (eTup (aCons (eVar 8) (aCons (eVar 11) (aCons (eVar 12) (aCons (eVar 13) aNil))))) aNil)))
  (sSeq (sExp (eM "list" mAppend (eDget (eVar 4) (eVar 8)) (aCons (eBin oAdd (eVar 13) (eB bInt (aCons (eOrF (eCmp cEq (eVar 8) (eC (.str "w"))) (eCmp cGt (eVar 12) (eVar 13))) aNil))) aNil)))
  (sDput (eVar 5) (eVar 8) (eBin oSub (eB bLen (aCons (eDget (eVar 4) (eVar 9)) aNil)) (eC (.int 1)))))))))))))))
  (sRet (eVar 7)))))))
def d_law_edges : Den := den 4 14 .frz b_law_edges
/-- _law_gaps: 0 edges, 1 side, 2 read, 3 known, 4 now -/
def b_law_gaps : S := (sRet (eFrz (fComp [1, 2, 3, 4] (iVal (eVar 0)) (gT 4 [(gN 1), (gN 2), (gN 3), (gN 4)]) (tCmp cEq (eVar 1) (eC (.str "w"))) (eBin oSub (eVar 4) (eVar 3)))))
def d_law_gaps : Den := den 1 5 .frz b_law_gaps
/-- latest_gaps: 0 schedule, 1 stages, 2 window, 3 rounds, 4 gaps, 5 written, 6 taken, 7 writer_view, 8 reader_view, 9 written_before, 10 taken_before, 11 side, 12 view -/
def b_latest_gaps : S := (sSeq (sSet 4 (eCell (fLst aNil)))
  (sSeq (sSet2 5 6 (eC (.int 0)))
  (sSeq (sSet 7 (eBin oMul (eFrz (fLst (aCons (eC (.int 0)) aNil))) (eVar 1)))
  (sSeq (sSet 8 (eBin oMul (eFrz (fLst (aCons (eC (.int 0)) aNil))) (eVar 1)))
  (sSeq (sSet 9 (eFrz (fLst aNil)))
  (sSeq (sSet 10 (eFrz (fLst aNil)))
  (sSeq (sFor (iVal (eBin oMul (eVar 0) (eVar 3))) (gN 11) (sIf (tCmp cEq (eVar 11) (eC (.str "w"))) (sSeq (sSet 12 (eBin oAdd (eFrz (fLst (aCons (eBin oIx (eBin oAdd (eFrz (fLst (aCons (eVar 6) aNil))) (eVar 10)) (eNeg (eC (.int 1)))) aNil))) (eVar 7)))
  (sSeq (sExp (eM "list" mAppend (eVar 4) (aCons (eBin oSub (eVar 5) (eBin oIx (eVar 12) (eNeg (eC (.int 1))))) aNil)))
  (sSeq (sSet 7 (eSl (eVar 12) oNo (oPt (eNeg (eC (.int 1))))))
  (sSeq (sSet 10 (eFrz (fLst aNil)))
  (sSeq (sSet 9 (eSl (eBin oAdd (eFrz (fLst (aCons (eVar 5) aNil))) (eVar 9)) oNo (oPt (eVar 2))))
  (sAug 5 oAddI (eC (.int 1)))))))) (sSeq (sSet 12 (eBin oAdd (eFrz (fLst (aCons (eBin oIx (eBin oAdd (eFrz (fLst (aCons (eVar 5) aNil))) (eVar 9)) (eNeg (eC (.int 1)))) aNil))) (eVar 8)))
  (sSeq (sSet 8 (eSl (eVar 12) oNo (oPt (eNeg (eC (.int 1))))))
  (sSeq (sSet 9 (eFrz (fLst aNil)))
  (sSeq (sSet 10 (eSl (eBin oAdd (eFrz (fLst (aCons (eVar 6) aNil))) (eVar 10)) oNo (oPt (eVar 2))))
  (sIf (tCmp cGt (eBin oIx (eVar 12) (eNeg (eC (.int 1)))) (eVar 6)) (sAug 6 oAddI (eC (.int 1))) sNil)))))))
  (sRet (eVar 4)))))))))
def d_latest_gaps : Den := den 4 13 .exp b_latest_gaps
/-- _law_whole_numbers: 0 row, 1 number -/
def b_law_whole_numbers : S := (sSeq (sIf (tNotF (tTru (eIsi "list" (eVar 0)))) (sRet (eC (.bool false))) sNil)
  (sRet (eNotF (eFrz (fComp [1] (iVal (eVar 0)) (gN 1) (tOrF (tTru (eIsi "bool" (eVar 1))) (tNotF (tTru (eIsi "int" (eVar 1))))) (eVar 1))))))
def d_law_whole_numbers : Den := den 1 2 .frz b_law_whole_numbers
/-- _law_gaps_right: 0 schedule, 1 stages, 2 window, 3 many, 4 due, 5 told -/
def b_law_gaps_right : S := (sSeq (sSet 5 (eCallN 3 1 d_latest_gaps (fun a b => a ++ b) (aCons (eVar 0) (aCons (eVar 1) (aCons (eVar 2) aNil))) (aCons (eVar 3) aNil)))
  (sSeq (sIf (tOrF (tNotF (tTru (eCall d_law_whole_numbers [] (aCons (eVar 5) aNil)))) (tCmp cNe (eVar 5) (eVar 4))) (sRet (eC (.bool false))) sNil)
  (sSeq (sExp (eM "list" mAppend (eVar 5) (aCons (eC (.int 0)) aNil)))
  (sRet (eCmp cEq (eCallN 3 1 d_latest_gaps (fun a b => a ++ b) (aCons (eVar 0) (aCons (eVar 1) (aCons (eVar 2) aNil))) (aCons (eVar 3) aNil)) (eVar 4))))))
def d_law_gaps_right : Den := den 5 6 .frz b_law_gaps_right
/-- _law_stretch: 0 size, 1 wires, 2 ring, 3 k -/
def b_law_stretch : S := (sSeq (sSet 1 (eBin oDiv (eBin oAdd (eVar 0) (eC (.int 1))) (eC (.int 2))))
  (sSeq (sSet 2 (eCell (fLst aNil)))
  (sSeq (sFor (iRange1 (aCons (eVar 0) aNil)) (gN 3) (sIf (tCmp cLe (eVar 3) (eVar 1)) (sExp (eM "list" mAppend (eVar 2) (aCons (eBin oAdd (eBin oMul (eC (.str "1")) (eVar 3)) (eBin oMul (eC (.str "0")) (eBin oSub (eVar 1) (eVar 3)))) aNil))) (sExp (eM "list" mAppend (eVar 2) (aCons (eBin oAdd (eBin oMul (eC (.str "0")) (eBin oSub (eVar 3) (eVar 1))) (eBin oMul (eC (.str "1")) (eBin oSub (eBin oMul (eC (.int 2)) (eVar 1)) (eVar 3)))) aNil)))))
  (sRet (eVar 2)))))
def d_law_stretch : Den := den 1 4 .frz b_law_stretch
/-- check_ring: 0 ring, 1 at, 2 word -/
def b_check_ring : S := (sSeq (sIf (tNotF (tTru (eVar 0))) sNev sNil)
  (sFor (iEnumF (aCons (eVar 0) aNil)) (gT 2 [(gN 1), (gN 2)]) (sIf (tCmp cNe (eB bLen (aCons (eVar 2) aNil)) (eB bLen (aCons (eBin oIx (eVar 0) (eC (.int 0))) aNil))) sNev sNil)))
def d_check_ring : Den := den 1 3 .frz b_check_ring
/-- check_words: 0 ring, 1 at, 2 word -/
def b_check_words : S := (sSeq (sExp (eCall d_check_ring [] (aCons (eVar 0) aNil)))
  (sFor (iEnumF (aCons (eVar 0) aNil)) (gT 2 [(gN 1), (gN 2)]) (sIf (tCmp cIn (eVar 2) (eSl (eVar 0) oNo (oPt (eVar 1)))) sNev sNil)))
def d_check_words : Den := den 1 3 .frz b_check_words
/-- Queue.__init__: 0 self, 1 depth, 2 stages, 3 ring, 4 window, 5 width -/
def b_Queue_init : S := (sSeq (sExp (eCall d_check_words [] (aCons (eVar 3) aNil)))
  (sSeq (sFldF "Queue" "depth" (eVar 0) (eVar 1))
  (sSeq (sFldF "Queue" "stages" (eVar 0) (eVar 2))
  (sSeq (sFldF "Queue" "ring" (eVar 0) (eFrz (fB bList (aCons (eVar 3) aNil))))
  (sSeq (sFldF "Queue" "window" (eVar 0) (eVar 4))
  (sSeq (sFldF "Queue" "width" (eVar 0) (eVar 5))
  (sSeq (sFldF "Queue" "sent" (eVar 0) (eCell (fLst aNil)))
  (sSeq (sFldF "Queue" "got" (eVar 0) (eCell (fLst aNil)))
  (sSeq (sFldF "Queue" "writer_view" (eVar 0) (eBin oMul (eFrz (fLst (aCons (eBin oIx (eVar 3) (eC (.int 0))) aNil))) (eVar 2)))
  (sSeq (sFldF "Queue" "reader_view" (eVar 0) (eBin oMul (eFrz (fLst (aCons (eBin oIx (eVar 3) (eC (.int 0))) aNil))) (eVar 2)))
  (sSeq (sFldF "Queue" "_sent_before" (eVar 0) (eFrz (fLst aNil)))
  (sSeq (sFldF "Queue" "_got_before" (eVar 0) (eFrz (fLst aNil)))
  (sFldF "Queue" "_places" (eVar 0) eDnew)))))))))))))
def d_Queue_init : Den := den 6 6 .keep b_Queue_init
/-- Queue.stored: 0 self -/
def b_Queue_stored : S := (sRet (eBin oSub (eB bLen (aCons (eFld "Queue" "sent" (eVar 0)) aNil)) (eB bLen (aCons (eFld "Queue" "got" (eVar 0)) aNil))))
def d_Queue_stored : Den := den 1 1 .frz b_Queue_stored
/-- is_held: 0 cube, 1 word, 2 sign, 3 bit -/
def b_is_held : S := (sRet (eB bAll (aCons (eFrz (fComp [2, 3] (iZip (aCons (eVar 0) (aCons (eVar 1) aNil))) (gT 2 [(gN 2), (gN 3)]) tTrue (eOrF (eCmp cEq (eVar 2) (eC (.str "x"))) (eCmp cEq (eVar 2) (eVar 3))))) aNil)))
def d_is_held : Den := den 2 4 .frz b_is_held
/-- _may_be_read: 0 cube, 1 word -/
def b_may_be_read : S := (sRet (eAndF (eCmp cEq (eB bLen (aCons (eVar 1) aNil)) (eB bLen (aCons (eVar 0) aNil))) (eCall d_is_held [] (aCons (eVar 0) (aCons (eVar 1) aNil)))))
def d_may_be_read : Den := den 2 2 .frz b_may_be_read
/-- hull: 0 words, 1 cube, 2 word, 3 sign, 4 other -/
def b_hull : S := (sSeq (sSet 1 (eBin oIx (eVar 0) (eC (.int 0))))
  (sSeq (sFor (iVal (eSl (eVar 0) (oPt (eC (.int 1))) oNo)) (gN 2) (sSet 1 (eM "str" mJoin (eC (.str "")) (aCons (eFrz (fComp [3, 4] (iZip (aCons (eVar 1) (aCons (eVar 2) aNil))) (gT 2 [(gN 3), (gN 4)]) tTrue (eIf (tCmp cEq (eVar 3) (eVar 4)) (eVar 3) (eC (.str "x"))))) aNil))))
  (sRet (eVar 1))))
def d_hull : Den := den 1 5 .frz b_hull
/-- Queue._count_cube: 0 self, 1 counts, 2 count -/
def b_Queue__count_cube : S := (sRet (eCall d_hull [] (aCons (eFrz (fComp [2] (iVal (eVar 1)) (gN 2) tTrue (eBin oIx (eFld "Queue" "ring" (eVar 0)) (eBin oMod (eVar 2) (eB bLen (aCons (eFld "Queue" "ring" (eVar 0)) aNil)))))) aNil)))
def d_Queue__count_cube : Den := den 2 3 .frz b_Queue__count_cube
/-- Queue._write_cube: 0 self -/
def b_Queue__write_cube : S := (sRet (eMeth "Queue" "_count_cube" d_Queue__count_cube [] (eVar 0) (aCons (eBin oAdd (eFrz (fLst (aCons (eB bLen (aCons (eFld "Queue" "got" (eVar 0)) aNil)) aNil))) (eFld "Queue" "_got_before" (eVar 0))) aNil)))
def d_Queue__write_cube : Den := den 1 1 .frz b_Queue__write_cube
/-- Queue._is_full: 0 self, 1 decider -/
def b_Queue__is_full : S := (sSeq (sIf (tCmp cNotIn (eVar 1) (eFld "Queue" "ring" (eVar 0))) (sRet (eC (.bool false))) sNil)
  (sRet (eCmp cEq (eBin oMod (eBin oSub (eB bLen (aCons (eFld "Queue" "sent" (eVar 0)) aNil)) (eM "list" mIndex (eFld "Queue" "ring" (eVar 0)) (aCons (eVar 1) aNil))) (eB bLen (aCons (eFld "Queue" "ring" (eVar 0)) aNil))) (eFld "Queue" "depth" (eVar 0)))))
def d_Queue__is_full : Den := den 2 2 .frz b_Queue__is_full
/-- Queue.write_edge: 0 self, 1 count, 2 word, 3 view, 4 writes -/
def b_Queue_write_edge : S := (sSeq (sIf (tNotF (tTru (eCall d_may_be_read [] (aCons (eMeth "Queue" "_write_cube" d_Queue__write_cube [] (eVar 0) aNil) (aCons (eVar 1) aNil))))) sNev sNil)
  (sSeq (sSet 3 (eBin oAdd (eFrz (fLst (aCons (eVar 1) aNil))) (eFld "Queue" "writer_view" (eVar 0))))
  (sSeq (sSet 4 (eAndF (eCmp cNotN (eVar 2) (eC .none)) (eNotF (eMeth "Queue" "_is_full" d_Queue__is_full [] (eVar 0) (aCons (eBin oIx (eVar 3) (eNeg (eC (.int 1)))) aNil)))))
  (sSeq (sFldF "Queue" "_sent_before" (eVar 0) (eSl (eBin oAdd (eFrz (fLst (aCons (eB bLen (aCons (eFld "Queue" "sent" (eVar 0)) aNil)) aNil))) (eFld "Queue" "_sent_before" (eVar 0))) oNo (oPt (eFld "Queue" "window" (eVar 0)))))
  (sSeq (sFldF "Queue" "_got_before" (eVar 0) (eFrz (fLst aNil)))
  (sSeq (sFldF "Queue" "writer_view" (eVar 0) (eSl (eVar 3) oNo (oPt (eNeg (eC (.int 1))))))
  (sSeq (sIf (tTru (eVar 4)) (sExp (eM "list" mAppend (eFld "Queue" "sent" (eVar 0)) (aCons (eVar 2) aNil))) sNil)
  (sRet (eVar 4)))))))))
def d_Queue_write_edge : Den := den 3 5 .frz b_Queue_write_edge
/-- Queue._read_cube: 0 self -/
def b_Queue__read_cube : S := (sRet (eMeth "Queue" "_count_cube" d_Queue__count_cube [] (eVar 0) (aCons (eBin oAdd (eFrz (fLst (aCons (eB bLen (aCons (eFld "Queue" "sent" (eVar 0)) aNil)) aNil))) (eFld "Queue" "_sent_before" (eVar 0))) aNil)))
def d_Queue__read_cube : Den := den 1 1 .frz b_Queue__read_cube
/-- Queue._content: 0 self, 1 count, 2 number -/
def b_Queue__content : S := (sSeq (sSet 2 (eBin oSub (eBin oSub (eVar 1) (eC (.int 1))) (eBin oMod (eBin oSub (eBin oSub (eVar 1) (eC (.int 1))) (eB bLen (aCons (eFld "Queue" "got" (eVar 0)) aNil))) (eFld "Queue" "depth" (eVar 0)))))
  (sSeq (sIf (tCmp cLt (eVar 2) (eC (.int 0))) (sRet (eBin oMul (eC (.str "0")) (eFld "Queue" "width" (eVar 0)))) sNil)
  (sRet (eBin oIx (eFld "Queue" "sent" (eVar 0)) (eVar 2)))))
def d_Queue__content : Den := den 2 3 .frz b_Queue__content
/-- Queue._cell_cube: 0 self, 1 count -/
def b_Queue__cell_cube : S := (sRet (eCall d_hull [] (aCons (eFrz (fComp [1] (iVal (eBin oAdd (eFrz (fLst (aCons (eB bLen (aCons (eFld "Queue" "sent" (eVar 0)) aNil)) aNil))) (eFld "Queue" "_sent_before" (eVar 0)))) (gN 1) tTrue (eMeth "Queue" "_content" d_Queue__content [] (eVar 0) (aCons (eVar 1) aNil)))) aNil)))
def d_Queue__cell_cube : Den := den 1 2 .frz b_Queue__cell_cube
/-- Queue.read_edge: 0 self, 1 count, 2 seen, 3 view, 4 taken -/
def b_Queue_read_edge : S := (sSeq (sIf (tNotF (tTru (eCall d_may_be_read [] (aCons (eMeth "Queue" "_read_cube" d_Queue__read_cube [] (eVar 0) aNil) (aCons (eVar 1) aNil))))) sNev sNil)
  (sSeq (sSet 3 (eBin oAdd (eFrz (fLst (aCons (eVar 1) aNil))) (eFld "Queue" "reader_view" (eVar 0))))
  (sSeq (sSet 4 (eC .none))
  (sSeq (sIf (tCmp cNe (eBin oIx (eVar 3) (eNeg (eC (.int 1)))) (eBin oIx (eFld "Queue" "ring" (eVar 0)) (eBin oMod (eB bLen (aCons (eFld "Queue" "got" (eVar 0)) aNil)) (eB bLen (aCons (eFld "Queue" "ring" (eVar 0)) aNil))))) (sSet 4 (eVar 2)) sNil)
  (sSeq (sIf (tAndF (tCmp cNotN (eVar 4) (eC .none)) (tNotF (tTru (eCall d_may_be_read [] (aCons (eMeth "Queue" "_cell_cube" d_Queue__cell_cube [] (eVar 0) aNil) (aCons (eVar 4) aNil)))))) sNev sNil)
  (sSeq (sFldF "Queue" "_got_before" (eVar 0) (eSl (eBin oAdd (eFrz (fLst (aCons (eB bLen (aCons (eFld "Queue" "got" (eVar 0)) aNil)) aNil))) (eFld "Queue" "_got_before" (eVar 0))) oNo (oPt (eFld "Queue" "window" (eVar 0)))))
  (sSeq (sFldF "Queue" "_sent_before" (eVar 0) (eFrz (fLst aNil)))
  (sSeq (sFldF "Queue" "reader_view" (eVar 0) (eSl (eVar 3) oNo (oPt (eNeg (eC (.int 1))))))
  (sSeq (sIf (tCmp cNotN (eVar 4) (eC .none)) (sExp (eM "list" mAppend (eFld "Queue" "got" (eVar 0)) (aCons (eVar 4) aNil))) sNil)
  (sRet (eVar 4)))))))))))
def d_Queue_read_edge : Den := den 3 5 .frz b_Queue_read_edge
/-- _law_queue_right: 0 edges, 1 stages, 2 window, 3 ring, 4 queue, 5 views, 6 side, 7 read, 8 known, 9 now, 10 word, 11 told, 12 count -/
def b_law_queue_right : S := (sSeq (sSet 3 (eCall d_law_stretch [] (aCons (eC (.int 16)) aNil)))
  (sSeq (sSet 4 (eMake "Queue" d_Queue_init [] (aCons (eC (.int 60)) (aCons (eVar 1) (aCons (eFrz (fB bList (aCons (eVar 3) aNil))) (aCons (eVar 2) (aCons (eC (.int 1)) aNil)))))))
  (sSeq (sSet 5 (eDict (pCons (eC (.str "w")) (eBin oMul (eFrz (fLst (aCons (eC (.int 0)) aNil))) (eVar 1)) (pCons (eC (.str "r")) (eBin oMul (eFrz (fLst (aCons (eC (.int 0)) aNil))) (eVar 1)) pNil))))
  (sSeq (sFor (iVal (eVar 0)) (gT 4 [(gN 6), (gN 7), (gN 8), (gN 9)]) (sSeq (sIf (tCmp cGt (eProp "Queue" d_Queue_stored (eVar 4)) (eC (.int 14))) (sRet (eC (.bool true))) sNil)
  (sSeq (sSet 10 (eBin oIx (eVar 3) (eBin oMod (eB bInt (aCons (eVar 7) aNil)) (eC (.int 16)))))
  (sSeq (sDput (eVar 5) (eVar 6) (eSl (eBin oAdd (eFrz (fLst (aCons (eVar 7) aNil))) (eDget (eVar 5) (eVar 6))) oNo (oPt (eVar 1))))
  (sIf (tCmp cEq (eVar 6) (eC (.str "w"))) (sSeq (sIf (tOrF (tCmp cNe (eB bLen (aCons (eFld "Queue" "sent" (eVar 4)) aNil)) (eVar 9)) (tCmp (cIsB true) (eMeth "Queue" "write_edge" d_Queue_write_edge [] (eVar 4) (aCons (eVar 10) (aCons (eC (.str "0")) aNil))) (eC (.bool true)))) (sRet (eC (.bool false))) sNil)
  (sIf (tCmp cNe (eFld "Queue" "writer_view" (eVar 4)) (eFrz (fComp [12] (iVal (eDget (eVar 5) (eC (.str "w")))) (gN 12) tTrue (eBin oIx (eVar 3) (eBin oMod (eB bInt (aCons (eVar 12) aNil)) (eC (.int 16))))))) (sRet (eC (.bool false))) sNil)) (sSeq (sIf (tCmp cNe (eB bLen (aCons (eFld "Queue" "got" (eVar 4)) aNil)) (eVar 9)) (sRet (eC (.bool false))) sNil)
  (sSeq (sSet 11 (eMeth "Queue" "read_edge" d_Queue_read_edge [] (eVar 4) (aCons (eVar 10) (aCons (eC (.str "0")) aNil))))
  (sSeq (sIf (tOrF (tCmp cNe (eCmp cIsN (eVar 11) (eC .none)) (eCmp cLe (eVar 8) (eVar 9))) (tAndF (tCmp cNotN (eVar 11) (eC .none)) (tCmp cNe (eVar 11) (eC (.str "0"))))) (sRet (eC (.bool false))) sNil)
  (sIf (tCmp cNe (eFld "Queue" "reader_view" (eVar 4)) (eFrz (fComp [12] (iVal (eDget (eVar 5) (eC (.str "r")))) (gN 12) tTrue (eBin oIx (eVar 3) (eBin oMod (eB bInt (aCons (eVar 12) aNil)) (eC (.int 16))))))) (sRet (eC (.bool false))) sNil)))))))))
  (sRet (eC (.bool true)))))))
def d_law_queue_right : Den := den 3 13 .frz b_law_queue_right
/-- law: 0 script, 1 numbers, 2 schedule, 3 drawn, 4 stages, 5 window, 6 edges, 7 gaps, 8 writes, 9 many, 10 told -/
def b_law : S := (sSeq (sSet 1 (eCall d_law_numbers [] (aCons (eCall d_law_cell [] (aCons (eVar 0) (aCons (eC (.int 0)) aNil))) (aCons (eC (.int 5040)) (aCons (eC (.int 14)) aNil)))))
  (sSeq (sSet 2 (eCall d_law_schedule [] (aCons (eVar 1) aNil)))
  (sSeq (sSet 3 (eCall d_law_numbers [] (aCons (eCall d_law_cell [] (aCons (eVar 0) (aCons (eC (.int 1)) aNil))) (aCons (eC (.int 5040)) (aCons (eC (.int 4)) aNil)))))
  (sSeq (sSet 4 (eBin oMod (eB bInt (aCons (eBin oIx (eVar 3) (eC (.int 0))) aNil)) (eC (.int 4))))
  (sSeq (sSet 5 (eBin oMod (eB bInt (aCons (eBin oIx (eVar 3) (eC (.int 1))) aNil)) (eC (.int 4))))
  (sSeq (sSet 6 (eCall d_law_edges [] (aCons (eVar 2) (aCons (eVar 4) (aCons (eVar 5) (aCons (eC (.int 40)) aNil))))))
  (sSeq (sSet 7 (eCall d_law_gaps [] (aCons (eVar 6) aNil)))
  (sSeq (sSet 8 (eM "str" mCount (eVar 2) (aCons (eC (.str "w")) aNil)))
  (sSeq (sFor (iVal (eFrz (fLst (aCons (eBin oMod (eB bInt (aCons (eBin oIx (eVar 3) (eC (.int 2))) aNil)) (eC (.int 41))) (aCons (eBin oMod (eB bInt (aCons (eBin oIx (eVar 3) (eC (.int 3))) aNil)) (eC (.int 5))) aNil))))) (gN 9) (sIf (tNotF (tTru (eCall d_law_gaps_right [] (aCons (eVar 2) (aCons (eVar 4) (aCons (eVar 5) (aCons (eVar 9) (aCons (eSl (eVar 7) oNo (oPt (eBin oMul (eVar 9) (eVar 8)))) aNil)))))))) (sRet (eC (.bool false))) sNil))
  (sSeq (sSet 10 (eCall d_latest_gaps [.int 40] (aCons (eVar 2) (aCons (eVar 4) (aCons (eVar 5) aNil)))))
  (sSeq (sIf (tOrF (tNotF (tTru (eCall d_law_whole_numbers [] (aCons (eVar 10) aNil)))) (tCmp cNe (eVar 10) (eVar 7))) (sRet (eC (.bool false))) sNil)
  (sRet (eCall d_law_queue_right [] (aCons (eSl (eVar 6) oNo (oPt (eC (.int 70)))) (aCons (eVar 4) (aCons (eVar 5) aNil))))))))))))))))
def d_law : Den := den 1 11 .frz b_law
end K62
end
section
namespace K62
open PySem L2 Fn
def top (i : Nat) : Stmt := PySem.Challenge.pw_betweentwoclocks_k62_gaps_of_the_latest.main.body.getD i (.Pass ⟨0, 0, 0, 0⟩)
abbrev s_law_numbers : Stmt := top 20
abbrev N_law_numbers : List Str := ["cell", "base", "count", "numbers", "rest", "mixed", "k"]
abbrev dA_law_numbers : DefA := ⟨(.glo "_law_numbers"), "_law_numbers", "_law_numbers", defArgs s_law_numbers, defBody s_law_numbers, defScope s_law_numbers, [], []⟩
abbrev s_law_cell : Stmt := top 19
abbrev N_law_cell : List Str := ["script", "k"]
abbrev dA_law_cell : DefA := ⟨(.glo "_law_cell"), "_law_cell", "_law_cell", defArgs s_law_cell, defBody s_law_cell, defScope s_law_cell, [], []⟩
abbrev s_law_schedule : Stmt := top 21
abbrev N_law_schedule : List Str := ["numbers", "schedule", "number", "kind"]
abbrev dA_law_schedule : DefA := ⟨(.glo "_law_schedule"), "_law_schedule", "_law_schedule", defArgs s_law_schedule, defBody s_law_schedule, defScope s_law_schedule, [], []⟩
abbrev s_law_edges : Stmt := top 22
abbrev N_law_edges : List Str := ["schedule", "stages", "window", "many", "counts", "marks", "reads", "edges", "side", "other", "since", "read", "known", "now"]
abbrev dA_law_edges : DefA := ⟨(.glo "_law_edges"), "_law_edges", "_law_edges", defArgs s_law_edges, defBody s_law_edges, defScope s_law_edges, [], []⟩
abbrev s_law_gaps : Stmt := top 23
abbrev N_law_gaps : List Str := ["edges", "side", "read", "known", "now"]
abbrev dA_law_gaps : DefA := ⟨(.glo "_law_gaps"), "_law_gaps", "_law_gaps", defArgs s_law_gaps, defBody s_law_gaps, defScope s_law_gaps, [], []⟩
abbrev s_latest_gaps : Stmt := top 3
abbrev N_latest_gaps : List Str := ["schedule", "stages", "window", "rounds", "gaps", "written", "taken", "writer_view", "reader_view", "written_before", "taken_before", "side", "view"]
abbrev dA_latest_gaps : DefA := ⟨(.glo "latest_gaps"), "latest_gaps", "latest_gaps", defArgs s_latest_gaps, defBody s_latest_gaps, defScope s_latest_gaps, [], [("rounds", .int 40)]⟩
abbrev s_law_whole_numbers : Stmt := top 25
abbrev N_law_whole_numbers : List Str := ["row", "number"]
abbrev dA_law_whole_numbers : DefA := ⟨(.glo "_law_whole_numbers"), "_law_whole_numbers", "_law_whole_numbers", defArgs s_law_whole_numbers, defBody s_law_whole_numbers, defScope s_law_whole_numbers, [], []⟩
abbrev s_law_gaps_right : Stmt := top 26
abbrev N_law_gaps_right : List Str := ["schedule", "stages", "window", "many", "due", "told"]
abbrev dA_law_gaps_right : DefA := ⟨(.glo "_law_gaps_right"), "_law_gaps_right", "_law_gaps_right", defArgs s_law_gaps_right, defBody s_law_gaps_right, defScope s_law_gaps_right, [], []⟩
abbrev s_law_stretch : Stmt := top 24
abbrev N_law_stretch : List Str := ["size", "wires", "ring", "k"]
abbrev dA_law_stretch : DefA := ⟨(.glo "_law_stretch"), "_law_stretch", "_law_stretch", defArgs s_law_stretch, defBody s_law_stretch, defScope s_law_stretch, [], []⟩
abbrev s_check_ring : Stmt := top 11
abbrev N_check_ring : List Str := ["ring", "at", "word"]
abbrev dA_check_ring : DefA := ⟨(.glo "check_ring"), "check_ring", "check_ring", defArgs s_check_ring, defBody s_check_ring, defScope s_check_ring, [], []⟩
abbrev s_check_words : Stmt := top 15
abbrev N_check_words : List Str := ["ring", "at", "word"]
abbrev dA_check_words : DefA := ⟨(.glo "check_words"), "check_words", "check_words", defArgs s_check_words, defBody s_check_words, defScope s_check_words, [], []⟩
abbrev s_Queue_init : Stmt := inClass (top 17) 0
abbrev N_Queue_init : List Str := ["self", "depth", "stages", "ring", "window", "width"]
abbrev dA_Queue_init : DefA := ⟨(.meth "Queue" "__init__"), "__init__", "Queue.__init__", defArgs s_Queue_init, defBody s_Queue_init, defScope s_Queue_init, [], []⟩
abbrev s_Queue_stored : Stmt := inClass (top 17) 1
abbrev N_Queue_stored : List Str := ["self"]
abbrev dA_Queue_stored : DefA := ⟨(.prop "Queue" "stored"), "stored", "Queue.stored", defArgs s_Queue_stored, defBody s_Queue_stored, defScope s_Queue_stored, [], []⟩
abbrev s_is_held : Stmt := top 8
abbrev N_is_held : List Str := ["cube", "word", "sign", "bit"]
abbrev dA_is_held : DefA := ⟨(.glo "is_held"), "is_held", "is_held", defArgs s_is_held, defBody s_is_held, defScope s_is_held, [], []⟩
abbrev s_may_be_read : Stmt := top 16
abbrev N_may_be_read : List Str := ["cube", "word"]
abbrev dA_may_be_read : DefA := ⟨(.glo "_may_be_read"), "_may_be_read", "_may_be_read", defArgs s_may_be_read, defBody s_may_be_read, defScope s_may_be_read, [], []⟩
abbrev s_hull : Stmt := top 7
abbrev N_hull : List Str := ["words", "cube", "word", "sign", "other"]
abbrev dA_hull : DefA := ⟨(.glo "hull"), "hull", "hull", defArgs s_hull, defBody s_hull, defScope s_hull, [], []⟩
abbrev s_Queue__count_cube : Stmt := inClass (top 17) 2
abbrev N_Queue__count_cube : List Str := ["self", "counts", "count"]
abbrev dA_Queue__count_cube : DefA := ⟨(.meth "Queue" "_count_cube"), "_count_cube", "Queue._count_cube", defArgs s_Queue__count_cube, defBody s_Queue__count_cube, defScope s_Queue__count_cube, [], []⟩
abbrev s_Queue__write_cube : Stmt := inClass (top 17) 4
abbrev N_Queue__write_cube : List Str := ["self"]
abbrev dA_Queue__write_cube : DefA := ⟨(.meth "Queue" "_write_cube"), "_write_cube", "Queue._write_cube", defArgs s_Queue__write_cube, defBody s_Queue__write_cube, defScope s_Queue__write_cube, [], []⟩
abbrev s_Queue__is_full : Stmt := inClass (top 17) 10
abbrev N_Queue__is_full : List Str := ["self", "decider"]
abbrev dA_Queue__is_full : DefA := ⟨(.meth "Queue" "_is_full"), "_is_full", "Queue._is_full", defArgs s_Queue__is_full, defBody s_Queue__is_full, defScope s_Queue__is_full, [], []⟩
abbrev s_Queue_write_edge : Stmt := inClass (top 17) 11
abbrev N_Queue_write_edge : List Str := ["self", "count", "word", "view", "writes"]
abbrev dA_Queue_write_edge : DefA := ⟨(.meth "Queue" "write_edge"), "write_edge", "Queue.write_edge", defArgs s_Queue_write_edge, defBody s_Queue_write_edge, defScope s_Queue_write_edge, [], []⟩
abbrev s_Queue__read_cube : Stmt := inClass (top 17) 3
abbrev N_Queue__read_cube : List Str := ["self"]
abbrev dA_Queue__read_cube : DefA := ⟨(.meth "Queue" "_read_cube"), "_read_cube", "Queue._read_cube", defArgs s_Queue__read_cube, defBody s_Queue__read_cube, defScope s_Queue__read_cube, [], []⟩
abbrev s_Queue__content : Stmt := inClass (top 17) 5
abbrev N_Queue__content : List Str := ["self", "count", "number"]
abbrev dA_Queue__content : DefA := ⟨(.meth "Queue" "_content"), "_content", "Queue._content", defArgs s_Queue__content, defBody s_Queue__content, defScope s_Queue__content, [], []⟩
abbrev s_Queue__cell_cube : Stmt := inClass (top 17) 6
abbrev N_Queue__cell_cube : List Str := ["self", "count"]
abbrev dA_Queue__cell_cube : DefA := ⟨(.meth "Queue" "_cell_cube"), "_cell_cube", "Queue._cell_cube", defArgs s_Queue__cell_cube, defBody s_Queue__cell_cube, defScope s_Queue__cell_cube, [], []⟩
abbrev s_Queue_read_edge : Stmt := inClass (top 17) 12
abbrev N_Queue_read_edge : List Str := ["self", "count", "seen", "view", "taken"]
abbrev dA_Queue_read_edge : DefA := ⟨(.meth "Queue" "read_edge"), "read_edge", "Queue.read_edge", defArgs s_Queue_read_edge, defBody s_Queue_read_edge, defScope s_Queue_read_edge, [], []⟩
abbrev s_law_queue_right : Stmt := top 27
abbrev N_law_queue_right : List Str := ["edges", "stages", "window", "ring", "queue", "views", "side", "read", "known", "now", "word", "told", "count"]
abbrev dA_law_queue_right : DefA := ⟨(.glo "_law_queue_right"), "_law_queue_right", "_law_queue_right", defArgs s_law_queue_right, defBody s_law_queue_right, defScope s_law_queue_right, [], []⟩
abbrev s_law : Stmt := top 28
abbrev N_law : List Str := ["script", "numbers", "schedule", "drawn", "stages", "window", "edges", "gaps", "writes", "many", "told"]
abbrev dA_law : DefA := ⟨(.glo "law"), "law", "law", defArgs s_law, defBody s_law, defScope s_law, [], []⟩
/-- what the top has left -/
structure Tx (K : PySem.W.Frag) (mg : Str → Option Value) : Type where
  z_all : mg "all" = none
  z_bool : mg "bool" = none
  z_enumerate : mg "enumerate" = none
  z_int : mg "int" = none
  z_isinstance : mg "isinstance" = none
  z_len : mg "len" = none
  z_list : mg "list" = none
  z_max : mg "max" = none
  z_range : mg "range" = none
  z_zip : mg "zip" = none
  g_Queue : mg "Queue" = some (.ref (He.ga K "Queue"))
  g__law_cell : mg "_law_cell" = some (.ref (He.ga K "_law_cell"))
  g__law_edges : mg "_law_edges" = some (.ref (He.ga K "_law_edges"))
  g__law_gaps : mg "_law_gaps" = some (.ref (He.ga K "_law_gaps"))
  g__law_gaps_right : mg "_law_gaps_right" = some (.ref (He.ga K "_law_gaps_right"))
  g__law_numbers : mg "_law_numbers" = some (.ref (He.ga K "_law_numbers"))
  g__law_queue_right : mg "_law_queue_right" = some (.ref (He.ga K "_law_queue_right"))
  g__law_schedule : mg "_law_schedule" = some (.ref (He.ga K "_law_schedule"))
  g__law_stretch : mg "_law_stretch" = some (.ref (He.ga K "_law_stretch"))
  g__law_whole_numbers : mg "_law_whole_numbers" = some (.ref (He.ga K "_law_whole_numbers"))
  g__may_be_read : mg "_may_be_read" = some (.ref (He.ga K "_may_be_read"))
  g_check_ring : mg "check_ring" = some (.ref (He.ga K "check_ring"))
  g_check_words : mg "check_words" = some (.ref (He.ga K "check_words"))
  g_hull : mg "hull" = some (.ref (He.ga K "hull"))
  g_is_held : mg "is_held" = some (.ref (He.ga K "is_held"))
  g_latest_gaps : mg "latest_gaps" = some (.ref (He.ga K "latest_gaps"))
  c_Queue : Cls K (He.ga K "Queue")
  n_Queue_got_before : NoAttr K (He.ga K "Queue") "_got_before"
  n_Queue_places : NoAttr K (He.ga K "Queue") "_places"
  n_Queue_sent_before : NoAttr K (He.ga K "Queue") "_sent_before"
  n_Queue_depth : NoAttr K (He.ga K "Queue") "depth"
  n_Queue_got : NoAttr K (He.ga K "Queue") "got"
  n_Queue_reader_view : NoAttr K (He.ga K "Queue") "reader_view"
  n_Queue_ring : NoAttr K (He.ga K "Queue") "ring"
  n_Queue_sent : NoAttr K (He.ga K "Queue") "sent"
  n_Queue_stages : NoAttr K (He.ga K "Queue") "stages"
  n_Queue_width : NoAttr K (He.ga K "Queue") "width"
  n_Queue_window : NoAttr K (He.ga K "Queue") "window"
  n_Queue_writer_view : NoAttr K (He.ga K "Queue") "writer_view"
  m_Queue_cell_cube : Meth K (He.ga K "Queue") "_cell_cube" (He.ma K (He.ga K "Queue") "_cell_cube")
  m_Queue_content : Meth K (He.ga K "Queue") "_content" (He.ma K (He.ga K "Queue") "_content")
  m_Queue_count_cube : Meth K (He.ga K "Queue") "_count_cube" (He.ma K (He.ga K "Queue") "_count_cube")
  m_Queue_is_full : Meth K (He.ga K "Queue") "_is_full" (He.ma K (He.ga K "Queue") "_is_full")
  m_Queue_read_cube : Meth K (He.ga K "Queue") "_read_cube" (He.ma K (He.ga K "Queue") "_read_cube")
  m_Queue_write_cube : Meth K (He.ga K "Queue") "_write_cube" (He.ma K (He.ga K "Queue") "_write_cube")
  m_Queue_read_edge : Meth K (He.ga K "Queue") "read_edge" (He.ma K (He.ga K "Queue") "read_edge")
  m_Queue_write_edge : Meth K (He.ga K "Queue") "write_edge" (He.ma K (He.ga K "Queue") "write_edge")
  k_Queue : Mk K (He.ga K "Queue") (He.ma K (He.ga K "Queue") "__init__")
  p_Queue_stored : PropOf K (He.ga K "Queue") "stored" (He.ma K (He.ga K "Queue") "stored") (gp K "Queue" "stored")
  g_law : mg "law" = some (.ref (He.ga K "law"))
  fd_law_numbers : FuncData
  F_law_numbers : dA_law_numbers.Is K fd_law_numbers
  fd_law_cell : FuncData
  F_law_cell : dA_law_cell.Is K fd_law_cell
  fd_law_schedule : FuncData
  F_law_schedule : dA_law_schedule.Is K fd_law_schedule
  fd_law_edges : FuncData
  F_law_edges : dA_law_edges.Is K fd_law_edges
  fd_law_gaps : FuncData
  F_law_gaps : dA_law_gaps.Is K fd_law_gaps
  fd_latest_gaps : FuncData
  F_latest_gaps : dA_latest_gaps.Is K fd_latest_gaps
  fd_law_whole_numbers : FuncData
  F_law_whole_numbers : dA_law_whole_numbers.Is K fd_law_whole_numbers
  fd_law_gaps_right : FuncData
  F_law_gaps_right : dA_law_gaps_right.Is K fd_law_gaps_right
  fd_law_stretch : FuncData
  F_law_stretch : dA_law_stretch.Is K fd_law_stretch
  fd_check_ring : FuncData
  F_check_ring : dA_check_ring.Is K fd_check_ring
  fd_check_words : FuncData
  F_check_words : dA_check_words.Is K fd_check_words
  fd_Queue_init : FuncData
  F_Queue_init : dA_Queue_init.Is K fd_Queue_init
  fd_Queue_stored : FuncData
  F_Queue_stored : dA_Queue_stored.Is K fd_Queue_stored
  fd_is_held : FuncData
  F_is_held : dA_is_held.Is K fd_is_held
  fd_may_be_read : FuncData
  F_may_be_read : dA_may_be_read.Is K fd_may_be_read
  fd_hull : FuncData
  F_hull : dA_hull.Is K fd_hull
  fd_Queue__count_cube : FuncData
  F_Queue__count_cube : dA_Queue__count_cube.Is K fd_Queue__count_cube
  fd_Queue__write_cube : FuncData
  F_Queue__write_cube : dA_Queue__write_cube.Is K fd_Queue__write_cube
  fd_Queue__is_full : FuncData
  F_Queue__is_full : dA_Queue__is_full.Is K fd_Queue__is_full
  fd_Queue_write_edge : FuncData
  F_Queue_write_edge : dA_Queue_write_edge.Is K fd_Queue_write_edge
  fd_Queue__read_cube : FuncData
  F_Queue__read_cube : dA_Queue__read_cube.Is K fd_Queue__read_cube
  fd_Queue__content : FuncData
  F_Queue__content : dA_Queue__content.Is K fd_Queue__content
  fd_Queue__cell_cube : FuncData
  F_Queue__cell_cube : dA_Queue__cell_cube.Is K fd_Queue__cell_cube
  fd_Queue_read_edge : FuncData
  F_Queue_read_edge : dA_Queue_read_edge.Is K fd_Queue_read_edge
  fd_law_queue_right : FuncData
  F_law_queue_right : dA_law_queue_right.Is K fd_law_queue_right
  fd_law : FuncData
  F_law : dA_law.Is K fd_law
section
variable {P : Program} {w : World} {K : PySem.W.Frag} {mg : Str → Option Value} {base : Heap}
theorem sc_law_numbers : FnScope N_law_numbers ["cell", "base", "count"] (defScope s_law_numbers) := ⟨rfl, rfl, rfl, by decide +kernel, rfl, by decide +kernel, by decide +kernel⟩
theorem ok_law_numbers (T : Tx K mg) : FnOk P w K mg base CX0 1 (dA_law_numbers.adr.at_ K) T.fd_law_numbers ["cell", "base", "count"] (spD K d_law_numbers) := by
  refine def_ok (N := N_law_numbers) (ps := ["cell", "base", "count"]) (fb := b_law_numbers) (pol := .frz) T.F_law_numbers sc_law_numbers fun cdv A outer s H E hr => ?_
  have hu := hr.units
  have hu1 := hu_of hr
  have sc := sc_law_numbers
  exact (xs_cons (s_set (ps_set (i := 3) sc.nd rfl (by first | exact Or.inl rfl | exact Or.inr rfl) (x_cell (xf_lst xa_nil))))
    (xs_cons (s_set (ps_set (i := 4) sc.nd rfl (by first | exact Or.inl rfl | exact Or.inr rfl) (x_var (pv 0))))
    (xs_cons (s_set (ps_set (i := 5) sc.nd rfl (by first | exact Or.inl rfl | exact Or.inr rfl) (x_bin op_modN f_mod (x_b b_int (pe_callTy call_int1 rfl T.z_int PyProof.Rows.boot_int (xa_cons (x_bin op_addAny f_add (x_bin op_mulAny f_mul (x_var (pv 0)) x_int) x_int) xa_nil))) x_int)))
    (xs_cons (s_for rfl PassesOwn.never (xi_range1 (pi_range1 rfl T.z_range (xa_cons (x_var (pv 2)) xa_nil))) (pg_name (i := 6) sc.nd rfl (by first | exact Or.inl rfl | exact Or.inr rfl)) g_name (xs_cons (s_set (ps_set (i := 5) sc.nd rfl (by first | exact Or.inl rfl | exact Or.inr rfl) (x_bin op_modN f_mod (x_b b_int (pe_callTy call_int1 rfl T.z_int PyProof.Rows.boot_int (xa_cons (x_bin op_addAny f_add (x_bin op_addAny f_add (x_bin op_mulAny f_mul (x_var (pv 5)) x_int) (x_var (pv 6))) x_int) xa_nil))) x_int)))
    (xs_one (s_if (xt_w (xw_and (xt_cmp op_ge m_int (x_var (pv 0)) (x_bin op_pow f_pow x_int x_int) (nomark _)) (xw_and1 (xt_cmp op_gt m_int (x_var (pv 4)) x_int (nomark _))))) (xs_cons (s_expr (x_m m_append (pe_bm PySem.F.plainAttrs_list PySem.F.slot_list_append PySem.F.type_list_append mt_append (x_var (pv 3)) (xa_cons (x_bin op_modN f_mod (x_b b_int (pe_callTy call_int1 rfl T.z_int PyProof.Rows.boot_int (xa_cons (x_var (pv 4)) xa_nil))) (x_var (pv 1))) xa_nil))))
    (xs_one (s_set (ps_set (i := 4) sc.nd rfl (by first | exact Or.inl rfl | exact Or.inr rfl) (x_bin op_fdivN f_div (x_var (pv 4)) (x_var (pv 1))))))) (xs_one (s_expr (x_m m_append (pe_bm PySem.F.plainAttrs_list PySem.F.slot_list_append PySem.F.type_list_append mt_append (x_var (pv 3)) (xa_cons (x_bin op_modN f_mod (x_bin op_fdivN f_div (x_var (pv 5)) x_int) (x_var (pv 1))) xa_nil)))))))))
    (xs_one (s_ret (x_var (pv 3))))))))
theorem sc_law_cell : FnScope N_law_cell ["script", "k"] (defScope s_law_cell) := ⟨rfl, rfl, rfl, by decide +kernel, rfl, by decide +kernel, by decide +kernel⟩
theorem ok_law_cell (T : Tx K mg) : FnOk P w K mg base CX0 1 (dA_law_cell.adr.at_ K) T.fd_law_cell ["script", "k"] (spD K d_law_cell) := by
  refine def_ok (N := N_law_cell) (ps := ["script", "k"]) (fb := b_law_cell) (pol := .frz) T.F_law_cell sc_law_cell fun cdv A outer s H E hr => ?_
  have hu := hr.units
  have hu1 := hu_of hr
  have sc := sc_law_cell
  exact (xs_cons (s_if (xt_cmp op_lt m_int (x_var (pv 1)) (x_b b_len (pe_callB call_lenA rfl T.z_len PySem.boot_len (xa_cons (x_var (pv 0)) xa_nil))) (nomark _)) (xs_one (s_ret (x_ix (x_var (pv 0)) (x_var (pv 1)) (fun _ _ => rfl)))) xs_nil)
    (xs_one (s_ret x_int)))
theorem sc_law_schedule : FnScope N_law_schedule ["numbers"] (defScope s_law_schedule) := ⟨rfl, rfl, rfl, by decide +kernel, rfl, by decide +kernel, by decide +kernel⟩
theorem ok_law_schedule (T : Tx K mg) : FnOk P w K mg base CX0 1 (dA_law_schedule.adr.at_ K) T.fd_law_schedule ["numbers"] (spD K d_law_schedule) := by
  refine def_ok (N := N_law_schedule) (ps := ["numbers"]) (fb := b_law_schedule) (pol := .frz) T.F_law_schedule sc_law_schedule fun cdv A outer s H E hr => ?_
  have hu := hr.units
  have hu1 := hu_of hr
  have sc := sc_law_schedule
  exact (xs_cons (s_set (ps_set (i := 1) sc.nd rfl (by first | exact Or.inl rfl | exact Or.inr rfl) x_str))
    (xs_cons (s_for rfl PassesOwn.never (xi_val (x_sl (x_var (pv 0)) (xo_some x_int) (xo_some (x_bin op_addAny f_add x_int (x_bin op_modN f_mod (x_b b_int (pe_callTy call_int1 rfl T.z_int PyProof.Rows.boot_int (xa_cons (x_ix (x_var (pv 0)) x_int (fun _ _ => rfl)) xa_nil))) x_int))))) (pg_name (i := 2) sc.nd rfl (by first | exact Or.inl rfl | exact Or.inr rfl)) g_name (xs_one (s_set (ps_set (i := 1) sc.nd rfl (by first | exact Or.inl rfl | exact Or.inr rfl) (x_bin op_addAny f_add (x_var (pv 1)) (x_ix x_str (x_bin op_modN f_mod (x_b b_int (pe_callTy call_int1 rfl T.z_int PyProof.Rows.boot_int (xa_cons (x_var (pv 2)) xa_nil))) x_int) (fun _ _ => rfl)))))))
    (xs_cons (s_set (ps_set (i := 3) sc.nd rfl (by first | exact Or.inl rfl | exact Or.inr rfl) (x_bin op_modN f_mod (x_b b_int (pe_callTy call_int1 rfl T.z_int PyProof.Rows.boot_int (xa_cons (x_bin op_fdivN f_div (x_ix (x_var (pv 0)) x_int (fun _ _ => rfl)) x_int) xa_nil))) x_int)))
    (xs_cons (s_if (xt_cmp (op_eqP hu) m_eq (x_var (pv 3)) x_int (nomark _)) (xs_one (s_set (ps_set (i := 1) sc.nd rfl (by first | exact Or.inl rfl | exact Or.inr rfl) (x_bin op_addAny f_add (x_bin op_mulAny f_mul x_str (x_bin op_addAny f_add x_int (x_bin op_modN f_mod (x_b b_int (pe_callTy call_int1 rfl T.z_int PyProof.Rows.boot_int (xa_cons (x_ix (x_var (pv 0)) x_int (fun _ _ => rfl)) xa_nil))) x_int))) (x_bin op_mulAny f_mul x_str (x_bin op_addAny f_add x_int (x_bin op_modN f_mod (x_b b_int (pe_callTy call_int1 rfl T.z_int PyProof.Rows.boot_int (xa_cons (x_ix (x_var (pv 0)) x_int (fun _ _ => rfl)) xa_nil))) x_int))))))) xs_nil)
    (xs_cons (s_if (xt_cmp (op_eqP hu) m_eq (x_var (pv 3)) x_int (nomark _)) (xs_one (s_set (ps_set (i := 1) sc.nd rfl (by first | exact Or.inl rfl | exact Or.inr rfl) (x_bin op_mulAny f_mul (x_ix (x_frz (xf_lst (xa_cons x_str (xa_cons x_str xa_nil)))) (x_bin op_modN f_mod (x_b b_int (pe_callTy call_int1 rfl T.z_int PyProof.Rows.boot_int (xa_cons (x_ix (x_var (pv 0)) x_int (fun _ _ => rfl)) xa_nil))) x_int) (fun _ _ => rfl)) (x_bin op_addAny f_add x_int (x_bin op_modN f_mod (x_b b_int (pe_callTy call_int1 rfl T.z_int PyProof.Rows.boot_int (xa_cons (x_ix (x_var (pv 0)) x_int (fun _ _ => rfl)) xa_nil))) x_int)))))) xs_nil)
    (xs_cons (s_if (xt_cmp (op_eqP hu) m_eq (x_var (pv 3)) x_int (nomark _)) (xs_one (s_set (ps_set (i := 1) sc.nd rfl (by first | exact Or.inl rfl | exact Or.inr rfl) (x_m m_join (pe_bm PySem.F.plainAttrs_str PySem.F.slot_str_join PySem.F.type_str_join mt_join x_str (xa_cons (x_frz (xf_comp (own := [("number", 2)]) rfl sc.nd (xi_val (x_sl (x_var (pv 0)) (xo_some x_int) (xo_some (x_bin op_addAny f_add x_int (x_bin op_modN f_mod (x_b b_int (pe_callTy call_int1 rfl T.z_int PyProof.Rows.boot_int (xa_cons (x_ix (x_var (pv 0)) x_int (fun _ _ => rfl)) xa_nil))) x_int))))) (blkOk_by (own := [("number", 2)]) (N := N_law_schedule) (sc := defScope s_law_schedule) (by decide +kernel)) g_name (by decide) (fun _ _ _ _ _ => (pg_name (i := 2) sc.nd rfl (by first | exact Or.inl rfl | exact Or.inr rfl))) (fun _ _ _ _ _ => xts_nil) (fun _ _ _ _ _ => (x_ix (x_frz (xf_lst (xa_cons x_str (xa_cons x_str xa_nil)))) (x_bin op_modN f_mod (x_b b_int (pe_callTy call_int1 rfl T.z_int PyProof.Rows.boot_int (xa_cons (x_bin op_fdivN f_div (x_var (pv 2)) x_int) xa_nil))) x_int) (fun _ _ => rfl))))) xa_nil)))))) xs_nil)
    (xs_one (s_ret (x_var (pv 1))))))))))
theorem sc_law_edges : FnScope N_law_edges ["schedule", "stages", "window", "many"] (defScope s_law_edges) := ⟨rfl, rfl, rfl, by decide +kernel, rfl, by decide +kernel, by decide +kernel⟩
theorem ok_law_edges (T : Tx K mg) : FnOk P w K mg base CX0 1 (dA_law_edges.adr.at_ K) T.fd_law_edges ["schedule", "stages", "window", "many"] (spD K d_law_edges) := by
  refine def_ok (N := N_law_edges) (ps := ["schedule", "stages", "window", "many"]) (fb := b_law_edges) (pol := .frz) T.F_law_edges sc_law_edges fun cdv A outer s H E hr => ?_
  have hu := hr.units
  have hu1 := hu_of hr
  have sc := sc_law_edges
  exact (xs_cons (s_set (ps_set (i := 4) sc.nd rfl (by first | exact Or.inl rfl | exact Or.inr rfl) (x_dict (keys := []) (values := []) (ps_consF (ps_consF ps_nilF)) (pe_disp (pps_cons x_str (x_cell (xf_lst (xa_cons x_int xa_nil))) (pps_cons x_str (x_cell (xf_lst (xa_cons x_int xa_nil))) pps_nil)) rfl rfl (fun z => by cases z) (by decide)))))
    (xs_cons (s_set (ps_set (i := 5) sc.nd rfl (by first | exact Or.inl rfl | exact Or.inr rfl) (x_dict (keys := []) (values := []) (ps_consF (ps_consF ps_nilF)) (pe_disp (pps_cons x_str x_int (pps_cons x_str x_int pps_nil)) rfl rfl (fun z => by cases z) (by decide)))))
    (xs_cons (s_set (ps_set (i := 6) sc.nd rfl (by first | exact Or.inl rfl | exact Or.inr rfl) (x_dict (keys := []) (values := []) (ps_consF (ps_consF ps_nilF)) (pe_disp (pps_cons x_str (x_cell (xf_lst xa_nil)) (pps_cons x_str (x_cell (xf_lst xa_nil)) pps_nil)) rfl rfl (fun z => by cases z) (by decide)))))
    (xs_cons (s_set (ps_set (i := 7) sc.nd rfl (by first | exact Or.inl rfl | exact Or.inr rfl) (x_cell (xf_lst xa_nil))))
    (xs_cons (s_for rfl PassesOwn.never (xi_val (x_bin op_mulAny f_mul (x_var (pv 0)) (x_var (pv 3)))) (pg_name (i := 8) sc.nd rfl (by first | exact Or.inl rfl | exact Or.inr rfl)) g_name (xs_cons (s_set (ps_set (i := 9) sc.nd rfl (by first | exact Or.inl rfl | exact Or.inr rfl) x_str))
    (xs_cons (s_if (xt_cmp (op_eqP hu) m_eq (x_var (pv 8)) x_str (nomark _)) (xs_one (s_set (ps_set (i := 9) sc.nd rfl (by first | exact Or.inl rfl | exact Or.inr rfl) x_str))) xs_nil)
    (xs_cons (s_set (ps_set (i := 10) sc.nd rfl (by first | exact Or.inl rfl | exact Or.inr rfl) (x_sl (x_dget hu1 (x_var (pv 4)) (x_var (pv 9)) (fun _ _ => rfl)) (xo_some (x_dget hu1 (x_var (pv 5)) (x_var (pv 8)) (fun _ _ => rfl))) xo_none)))
    (xs_cons (s_set (ps_set (i := 11) sc.nd rfl (by first | exact Or.inl rfl | exact Or.inr rfl) (x_ix (x_var (pv 10)) (x_b b_max (pe_callB (call_max2 rfl) rfl T.z_max PyProof.Rows.boot_max (xa_cons x_int (xa_cons (x_bin op_sub f_sub (x_bin op_sub f_sub (x_b b_len (pe_callB call_lenA rfl T.z_len PySem.boot_len (xa_cons (x_var (pv 10)) xa_nil))) x_int) (x_var (pv 2))) xa_nil)))) (fun _ _ => rfl))))
    (xs_cons (s_expr (x_m m_append (pe_bm PySem.F.plainAttrs_list PySem.F.slot_list_append PySem.F.type_list_append mt_append (x_dget hu1 (x_var (pv 6)) (x_var (pv 8)) (fun _ _ => rfl)) (xa_cons (x_var (pv 11)) xa_nil))))
    (xs_cons (s_set (ps_set (i := 12) sc.nd rfl (by first | exact Or.inl rfl | exact Or.inr rfl) x_int))
    (xs_cons (s_if (xt_cmp op_gt m_int (x_b b_len (pe_callB call_lenA rfl T.z_len PySem.boot_len (xa_cons (x_dget hu1 (x_var (pv 6)) (x_var (pv 8)) (fun _ _ => rfl)) xa_nil))) (x_var (pv 1)) (nomark _)) (xs_one (s_set (ps_set (i := 12) sc.nd rfl (by first | exact Or.inl rfl | exact Or.inr rfl) (x_ix (x_dget hu1 (x_var (pv 6)) (x_var (pv 8)) (fun _ _ => rfl)) (x_bin op_sub f_sub (x_bin op_sub f_sub (x_b b_len (pe_callB call_lenA rfl T.z_len PySem.boot_len (xa_cons (x_dget hu1 (x_var (pv 6)) (x_var (pv 8)) (fun _ _ => rfl)) xa_nil))) x_int) (x_var (pv 1))) (fun _ _ => rfl))))) xs_nil)
    (xs_cons (s_set (ps_set (i := 13) sc.nd rfl (by first | exact Or.inl rfl | exact Or.inr rfl) (x_ix (x_dget hu1 (x_var (pv 4)) (x_var (pv 8)) (fun _ _ => rfl)) (x_neg x_int) (fun _ _ => rfl))))
    (xs_cons (s_expr (x_m m_append (pe_bm PySem.F.plainAttrs_list PySem.F.slot_list_append PySem.F.type_list_append mt_append (x_var (pv 7)) (xa_cons (x_tup (xa_cons (x_var (pv 8)) (xa_cons (x_var (pv 11)) (xa_cons (x_var (pv 12)) (xa_cons (x_var (pv 13)) xa_nil))))) xa_nil))))
    (xs_cons (s_expr (x_m m_append (pe_bm PySem.F.plainAttrs_list PySem.F.slot_list_append PySem.F.type_list_append mt_append (x_dget hu1 (x_var (pv 4)) (x_var (pv 8)) (fun _ _ => rfl)) (xa_cons (x_bin op_addAny f_add (x_var (pv 13)) (x_b b_int (pe_callTy call_int1 rfl T.z_int PyProof.Rows.boot_int (xa_cons (x_or (x_cmp (op_eqP hu) m_eq (x_var (pv 8)) x_str (nomark _)) (x_one (x_cmp op_gt m_int (x_var (pv 12)) (x_var (pv 13)) (nomark _)))) xa_nil)))) xa_nil))))
    (xs_one (s_dput hu1 (x_var (pv 5)) (x_var (pv 8)) (x_bin op_sub f_sub (x_b b_len (pe_callB call_lenA rfl T.z_len PySem.boot_len (xa_cons (x_dget hu1 (x_var (pv 4)) (x_var (pv 9)) (fun _ _ => rfl)) xa_nil))) x_int))))))))))))))
    (xs_one (s_ret (x_var (pv 7)))))))))
theorem sc_law_gaps : FnScope N_law_gaps ["edges"] (defScope s_law_gaps) := ⟨rfl, rfl, rfl, by decide +kernel, rfl, by decide +kernel, by decide +kernel⟩
theorem ok_law_gaps (T : Tx K mg) : FnOk P w K mg base CX0 1 (dA_law_gaps.adr.at_ K) T.fd_law_gaps ["edges"] (spD K d_law_gaps) := by
  refine def_ok (N := N_law_gaps) (ps := ["edges"]) (fb := b_law_gaps) (pol := .frz) T.F_law_gaps sc_law_gaps fun cdv A outer s H E hr => ?_
  have hu := hr.units
  have hu1 := hu_of hr
  have sc := sc_law_gaps
  exact (xs_one (s_ret (x_frz (xf_comp (own := [("side", 1), ("read", 2), ("known", 3), ("now", 4)]) rfl sc.nd (xi_val (x_var (pv 0))) (blkOk_by (own := [("side", 1), ("read", 2), ("known", 3), ("now", 4)]) (N := N_law_gaps) (sc := defScope s_law_gaps) (by decide +kernel)) (g_tup (gs_cons g_name (gs_cons g_name (gs_cons g_name (gs_cons g_name gs_nil))))) (by decide) (fun _ _ _ _ _ => (pg_tup rfl (pgs_cons (pg_name (i := 1) sc.nd rfl (by first | exact Or.inl rfl | exact Or.inr rfl)) (pgs_cons (pg_name (i := 2) sc.nd rfl (by first | exact Or.inl rfl | exact Or.inr rfl)) (pgs_cons (pg_name (i := 3) sc.nd rfl (by first | exact Or.inl rfl | exact Or.inr rfl)) (pgs_cons (pg_name (i := 4) sc.nd rfl (by first | exact Or.inl rfl | exact Or.inr rfl)) pgs_nil)))))) (fun _ _ _ _ _ => (xts_one (xt_cmp (op_eqP hu) m_eq (x_var (pv 1)) x_str (nomark _)))) (fun _ _ _ _ _ => (x_bin op_sub f_sub (x_var (pv 4)) (x_var (pv 3))))))))
theorem sc_latest_gaps : FnScope N_latest_gaps ["schedule", "stages", "window", "rounds"] (defScope s_latest_gaps) := ⟨rfl, rfl, rfl, by decide +kernel, rfl, by decide +kernel, by decide +kernel⟩
theorem kb_latest_gaps (T : Tx K mg) : ∃ mv : List Value, KBn K T.fd_latest_gaps ["schedule", "stages", "window", "rounds"] 3 ["rounds"] (fun us ws => us ++ ws) (fun vs zs => vs ++ zs) := FunD.kbinds0 T.F_latest_gaps 3 ["rounds"] [] (fun us _ ws => us ++ ws) (by intro z; cases z) (by intro q hq; cases hq) (fun h1 _ h3 => h1.append h3) fun _ _ _ _ _ _ us mv ws h1 h2 h3 => match us, mv, ws, h1, h2, h3 with | [_, _, _], [], [_], _, _, _ => rfl
theorem db_latest_gaps (T : Tx K mg) : ∃ ds : List Value, Vals [V.int 40] ds ∧ Binds K T.fd_latest_gaps ["schedule", "stages", "window", "rounds"] ds := FunD.binds0 T.F_latest_gaps 3 (by intro z; cases z) rfl fun _ _ _ _ _ _ us ks h1 h2 => match us, ks, h1, h2 with | [_, _, _], [_], _, _ => ⟨_, _, _, _, _, _, rfl, rfl, rfl⟩
theorem ok_latest_gaps (T : Tx K mg) : FnOk P w K mg base CX0 1 (dA_latest_gaps.adr.at_ K) T.fd_latest_gaps ["schedule", "stages", "window", "rounds"] (spD K d_latest_gaps) := by
  refine def_ok (N := N_latest_gaps) (ps := ["schedule", "stages", "window", "rounds"]) (fb := b_latest_gaps) (pol := .exp) T.F_latest_gaps sc_latest_gaps fun cdv A outer s H E hr => ?_
  have hu := hr.units
  have hu1 := hu_of hr
  have sc := sc_latest_gaps
  exact (xs_cons (s_set (ps_set (i := 4) sc.nd rfl (by first | exact Or.inl rfl | exact Or.inr rfl) (x_cell (xf_lst xa_nil))))
    (xs_cons (s_set2 (ps_asg2 x_int (pg_name (i := 5) sc.nd rfl (by first | exact Or.inl rfl | exact Or.inr rfl)) (pg_name (i := 6) sc.nd rfl (by first | exact Or.inl rfl | exact Or.inr rfl))))
    (xs_cons (s_set (ps_set (i := 7) sc.nd rfl (by first | exact Or.inl rfl | exact Or.inr rfl) (x_bin op_mulAny f_mul (x_frz (xf_lst (xa_cons x_int xa_nil))) (x_var (pv 1)))))
    (xs_cons (s_set (ps_set (i := 8) sc.nd rfl (by first | exact Or.inl rfl | exact Or.inr rfl) (x_bin op_mulAny f_mul (x_frz (xf_lst (xa_cons x_int xa_nil))) (x_var (pv 1)))))
    (xs_cons (s_set (ps_set (i := 9) sc.nd rfl (by first | exact Or.inl rfl | exact Or.inr rfl) (x_frz (xf_lst xa_nil))))
    (xs_cons (s_set (ps_set (i := 10) sc.nd rfl (by first | exact Or.inl rfl | exact Or.inr rfl) (x_frz (xf_lst xa_nil))))
    (xs_cons (s_for rfl PassesOwn.never (xi_val (x_bin op_mulAny f_mul (x_var (pv 0)) (x_var (pv 3)))) (pg_name (i := 11) sc.nd rfl (by first | exact Or.inl rfl | exact Or.inr rfl)) g_name (xs_one (s_if (xt_cmp (op_eqP hu) m_eq (x_var (pv 11)) x_str (nomark _)) (xs_cons (s_set (ps_set (i := 12) sc.nd rfl (by first | exact Or.inl rfl | exact Or.inr rfl) (x_bin op_addAny f_add (x_frz (xf_lst (xa_cons (x_ix (x_bin op_addAny f_add (x_frz (xf_lst (xa_cons (x_var (pv 6)) xa_nil))) (x_var (pv 10))) (x_neg x_int) (fun _ _ => rfl)) xa_nil))) (x_var (pv 7)))))
    (xs_cons (s_expr (x_m m_append (pe_bm PySem.F.plainAttrs_list PySem.F.slot_list_append PySem.F.type_list_append mt_append (x_var (pv 4)) (xa_cons (x_bin op_sub f_sub (x_var (pv 5)) (x_ix (x_var (pv 12)) (x_neg x_int) (fun _ _ => rfl))) xa_nil))))
    (xs_cons (s_set (ps_set (i := 7) sc.nd rfl (by first | exact Or.inl rfl | exact Or.inr rfl) (x_sl (x_var (pv 12)) xo_none (xo_some (x_neg x_int)))))
    (xs_cons (s_set (ps_set (i := 10) sc.nd rfl (by first | exact Or.inl rfl | exact Or.inr rfl) (x_frz (xf_lst xa_nil))))
    (xs_cons (s_set (ps_set (i := 9) sc.nd rfl (by first | exact Or.inl rfl | exact Or.inr rfl) (x_sl (x_bin op_addAny f_add (x_frz (xf_lst (xa_cons (x_var (pv 5)) xa_nil))) (x_var (pv 9))) xo_none (xo_some (x_var (pv 2))))))
    (xs_one (s_aug fi_add (ps_aug (i := 5) sc.nd rfl (by first | exact Or.inl rfl | exact Or.inr rfl) x_int ip_add)))))))) (xs_cons (s_set (ps_set (i := 12) sc.nd rfl (by first | exact Or.inl rfl | exact Or.inr rfl) (x_bin op_addAny f_add (x_frz (xf_lst (xa_cons (x_ix (x_bin op_addAny f_add (x_frz (xf_lst (xa_cons (x_var (pv 5)) xa_nil))) (x_var (pv 9))) (x_neg x_int) (fun _ _ => rfl)) xa_nil))) (x_var (pv 8)))))
    (xs_cons (s_set (ps_set (i := 8) sc.nd rfl (by first | exact Or.inl rfl | exact Or.inr rfl) (x_sl (x_var (pv 12)) xo_none (xo_some (x_neg x_int)))))
    (xs_cons (s_set (ps_set (i := 9) sc.nd rfl (by first | exact Or.inl rfl | exact Or.inr rfl) (x_frz (xf_lst xa_nil))))
    (xs_cons (s_set (ps_set (i := 10) sc.nd rfl (by first | exact Or.inl rfl | exact Or.inr rfl) (x_sl (x_bin op_addAny f_add (x_frz (xf_lst (xa_cons (x_var (pv 6)) xa_nil))) (x_var (pv 10))) xo_none (xo_some (x_var (pv 2))))))
    (xs_one (s_if (xt_cmp op_gt m_int (x_ix (x_var (pv 12)) (x_neg x_int) (fun _ _ => rfl)) (x_var (pv 6)) (nomark _)) (xs_one (s_aug fi_add (ps_aug (i := 6) sc.nd rfl (by first | exact Or.inl rfl | exact Or.inr rfl) x_int ip_add))) xs_nil)))))))))
    (xs_one (s_ret (x_var (pv 4)))))))))))
theorem sc_law_whole_numbers : FnScope N_law_whole_numbers ["row"] (defScope s_law_whole_numbers) := ⟨rfl, rfl, rfl, by decide +kernel, rfl, by decide +kernel, by decide +kernel⟩
theorem ok_law_whole_numbers (T : Tx K mg) : FnOk P w K mg base CX0 1 (dA_law_whole_numbers.adr.at_ K) T.fd_law_whole_numbers ["row"] (spD K d_law_whole_numbers) := by
  refine def_ok (N := N_law_whole_numbers) (ps := ["row"]) (fb := b_law_whole_numbers) (pol := .frz) T.F_law_whole_numbers sc_law_whole_numbers fun cdv A outer s H E hr => ?_
  have hu := hr.units
  have hu1 := hu_of hr
  have sc := sc_law_whole_numbers
  exact (xs_cons (s_if (xt_not (xt_tru (x_isi (pe_callB call_isi rfl T.z_isinstance (by decide +kernel) (pa_cons (x_var (pv 0)) (pa_cons (pe_bltn rfl T.z_list (by decide +kernel) rfl) pa_nil)))))) (xs_one (s_ret x_bl)) xs_nil)
    (xs_one (s_ret (x_not (x_frz (xf_comp (own := [("number", 1)]) rfl sc.nd (xi_val (x_var (pv 0))) (blkOk_by (own := [("number", 1)]) (N := N_law_whole_numbers) (sc := defScope s_law_whole_numbers) (by decide +kernel)) g_name (by decide) (fun _ _ _ _ _ => (pg_name (i := 1) sc.nd rfl (by first | exact Or.inl rfl | exact Or.inr rfl))) (fun _ _ _ _ _ => (xts_one (xt_w (xw_or (xt_tru (x_isi (pe_callB call_isi rfl T.z_isinstance (by decide +kernel) (pa_cons (x_var (pv 1)) (pa_cons (pe_bltn rfl T.z_bool (by decide +kernel) rfl) pa_nil))))) (xw_or1 (xt_not (xt_tru (x_isi (pe_callB call_isi rfl T.z_isinstance (by decide +kernel) (pa_cons (x_var (pv 1)) (pa_cons (pe_bltn rfl T.z_int (by decide +kernel) rfl) pa_nil))))))))))) (fun _ _ _ _ _ => (x_var (pv 1)))))))))
theorem sc_law_gaps_right : FnScope N_law_gaps_right ["schedule", "stages", "window", "many", "due"] (defScope s_law_gaps_right) := ⟨rfl, rfl, rfl, by decide +kernel, rfl, by decide +kernel, by decide +kernel⟩
theorem ok_law_gaps_right (T : Tx K mg) : FnOk P w K mg base CX0 2 (dA_law_gaps_right.adr.at_ K) T.fd_law_gaps_right ["schedule", "stages", "window", "many", "due"] (spD K d_law_gaps_right) := by
  refine def_ok (N := N_law_gaps_right) (ps := ["schedule", "stages", "window", "many", "due"]) (fb := b_law_gaps_right) (pol := .frz) T.F_law_gaps_right sc_law_gaps_right fun cdv A outer s H E hr => ?_
  have hu := hr.units
  have hu1 := hu_of hr
  have sc := sc_law_gaps_right
  exact (xs_cons (s_set (ps_set (i := 5) sc.nd rfl (by first | exact Or.inl rfl | exact Or.inr rfl) (x_callN (gV := fun vs zs => vs ++ zs) (g := fun a b => a ++ b) ras_cat (pe_callN (ks := ["rounds"]) (ok_latest_gaps T) (hr.mono (by decide)) rfl T.g_latest_gaps T.F_latest_gaps.kp (kb_latest_gaps T).choose_spec pass0 (xa_cons (x_var (pv 0)) (xa_cons (x_var (pv 1)) (xa_cons (x_var (pv 2)) xa_nil))) (xk_cons (x_var (pv 3)) xk_nil)))))
    (xs_cons (s_if (xt_w (xw_or (xt_not (xt_tru (x_call dc_nil (pe_call (ok_law_whole_numbers T) (hr.mono (by decide)) rfl T.g__law_whole_numbers T.F_law_whole_numbers.kp (FunD.bindsN T.F_law_whole_numbers fun _ _ _ _ _ _ us hl => match us, hl with | [_], _ => rfl) .nil pass0 (xa_cons (x_var (pv 5)) xa_nil))))) (xw_or1 (xt_cmp (op_neP hu) m_ne (x_var (pv 5)) (x_var (pv 4)) (nomark _))))) (xs_one (s_ret x_bl)) xs_nil)
    (xs_cons (s_expr (x_m m_append (pe_bm PySem.F.plainAttrs_list PySem.F.slot_list_append PySem.F.type_list_append mt_append (x_var (pv 5)) (xa_cons x_int xa_nil))))
    (xs_one (s_ret (x_cmp (op_eqP hu) m_eq (x_callN (gV := fun vs zs => vs ++ zs) (g := fun a b => a ++ b) ras_cat (pe_callN (ks := ["rounds"]) (ok_latest_gaps T) (hr.mono (by decide)) rfl T.g_latest_gaps T.F_latest_gaps.kp (kb_latest_gaps T).choose_spec pass0 (xa_cons (x_var (pv 0)) (xa_cons (x_var (pv 1)) (xa_cons (x_var (pv 2)) xa_nil))) (xk_cons (x_var (pv 3)) xk_nil))) (x_var (pv 4)) (nomark _)))))))
theorem sc_law_stretch : FnScope N_law_stretch ["size"] (defScope s_law_stretch) := ⟨rfl, rfl, rfl, by decide +kernel, rfl, by decide +kernel, by decide +kernel⟩
theorem ok_law_stretch (T : Tx K mg) : FnOk P w K mg base CX0 1 (dA_law_stretch.adr.at_ K) T.fd_law_stretch ["size"] (spD K d_law_stretch) := by
  refine def_ok (N := N_law_stretch) (ps := ["size"]) (fb := b_law_stretch) (pol := .frz) T.F_law_stretch sc_law_stretch fun cdv A outer s H E hr => ?_
  have hu := hr.units
  have hu1 := hu_of hr
  have sc := sc_law_stretch
  exact (xs_cons (s_set (ps_set (i := 1) sc.nd rfl (by first | exact Or.inl rfl | exact Or.inr rfl) (x_bin op_fdivN f_div (x_bin op_addAny f_add (x_var (pv 0)) x_int) x_int)))
    (xs_cons (s_set (ps_set (i := 2) sc.nd rfl (by first | exact Or.inl rfl | exact Or.inr rfl) (x_cell (xf_lst xa_nil))))
    (xs_cons (s_for rfl PassesOwn.never (xi_range1 (pi_range1 rfl T.z_range (xa_cons (x_var (pv 0)) xa_nil))) (pg_name (i := 3) sc.nd rfl (by first | exact Or.inl rfl | exact Or.inr rfl)) g_name (xs_one (s_if (xt_cmp op_le m_int (x_var (pv 3)) (x_var (pv 1)) (nomark _)) (xs_one (s_expr (x_m m_append (pe_bm PySem.F.plainAttrs_list PySem.F.slot_list_append PySem.F.type_list_append mt_append (x_var (pv 2)) (xa_cons (x_bin op_addAny f_add (x_bin op_mulAny f_mul x_str (x_var (pv 3))) (x_bin op_mulAny f_mul x_str (x_bin op_sub f_sub (x_var (pv 1)) (x_var (pv 3))))) xa_nil))))) (xs_one (s_expr (x_m m_append (pe_bm PySem.F.plainAttrs_list PySem.F.slot_list_append PySem.F.type_list_append mt_append (x_var (pv 2)) (xa_cons (x_bin op_addAny f_add (x_bin op_mulAny f_mul x_str (x_bin op_sub f_sub (x_var (pv 3)) (x_var (pv 1)))) (x_bin op_mulAny f_mul x_str (x_bin op_sub f_sub (x_bin op_mulAny f_mul x_int (x_var (pv 1))) (x_var (pv 3))))) xa_nil))))))))
    (xs_one (s_ret (x_var (pv 2)))))))
theorem sc_check_ring : FnScope N_check_ring ["ring"] (defScope s_check_ring) := ⟨rfl, rfl, rfl, by decide +kernel, rfl, by decide +kernel, by decide +kernel⟩
theorem ok_check_ring (T : Tx K mg) : FnOk P w K mg base CX0 1 (dA_check_ring.adr.at_ K) T.fd_check_ring ["ring"] (spD K d_check_ring) := by
  refine def_ok (N := N_check_ring) (ps := ["ring"]) (fb := b_check_ring) (pol := .frz) T.F_check_ring sc_check_ring fun cdv A outer s H E hr => ?_
  have hu := hr.units
  have hu1 := hu_of hr
  have sc := sc_check_ring
  exact (xs_cons (s_if (xt_not (xt_tru (x_var (pv 0)))) (xs_one s_never) xs_nil)
    (xs_one (s_for rfl PassesOwn.never (xi_enum (pi_enum rfl T.z_enumerate (xa_cons (x_var (pv 0)) xa_nil))) (pg_tup rfl (pgs_cons (pg_name (i := 1) sc.nd rfl (by first | exact Or.inl rfl | exact Or.inr rfl)) (pgs_cons (pg_name (i := 2) sc.nd rfl (by first | exact Or.inl rfl | exact Or.inr rfl)) pgs_nil))) (g_tup (gs_cons g_name (gs_cons g_name gs_nil))) (xs_one (s_if (xt_cmp (op_neP hu) m_ne (x_b b_len (pe_callB call_lenA rfl T.z_len PySem.boot_len (xa_cons (x_var (pv 2)) xa_nil))) (x_b b_len (pe_callB call_lenA rfl T.z_len PySem.boot_len (xa_cons (x_ix (x_var (pv 0)) x_int (fun _ _ => rfl)) xa_nil))) (nomark _)) (xs_one s_never) xs_nil)))))
theorem sc_check_words : FnScope N_check_words ["ring"] (defScope s_check_words) := ⟨rfl, rfl, rfl, by decide +kernel, rfl, by decide +kernel, by decide +kernel⟩
theorem ok_check_words (T : Tx K mg) : FnOk P w K mg base CX0 2 (dA_check_words.adr.at_ K) T.fd_check_words ["ring"] (spD K d_check_words) := by
  refine def_ok (N := N_check_words) (ps := ["ring"]) (fb := b_check_words) (pol := .frz) T.F_check_words sc_check_words fun cdv A outer s H E hr => ?_
  have hu := hr.units
  have hu1 := hu_of hr
  have sc := sc_check_words
  exact (xs_cons (s_expr (x_call dc_nil (pe_call (ok_check_ring T) (hr.mono (by decide)) rfl T.g_check_ring T.F_check_ring.kp (FunD.bindsN T.F_check_ring fun _ _ _ _ _ _ us hl => match us, hl with | [_], _ => rfl) .nil pass0 (xa_cons (x_var (pv 0)) xa_nil))))
    (xs_one (s_for rfl PassesOwn.never (xi_enum (pi_enum rfl T.z_enumerate (xa_cons (x_var (pv 0)) xa_nil))) (pg_tup rfl (pgs_cons (pg_name (i := 1) sc.nd rfl (by first | exact Or.inl rfl | exact Or.inr rfl)) (pgs_cons (pg_name (i := 2) sc.nd rfl (by first | exact Or.inl rfl | exact Or.inr rfl)) pgs_nil))) (g_tup (gs_cons g_name (gs_cons g_name gs_nil))) (xs_one (s_if (xt_cmp (op_inP hu) m_in (x_var (pv 2)) (x_sl (x_var (pv 0)) xo_none (xo_some (x_var (pv 1)))) rfl) (xs_one s_never) xs_nil)))))
theorem sc_Queue_init : FnScope N_Queue_init ["self", "depth", "stages", "ring", "window", "width"] (defScope s_Queue_init) := ⟨rfl, rfl, rfl, by decide +kernel, rfl, by decide +kernel, by decide +kernel⟩
theorem ok_Queue_init (T : Tx K mg) : FnOk P w K mg base CX0 3 (dA_Queue_init.adr.at_ K) T.fd_Queue_init ["self", "depth", "stages", "ring", "window", "width"] (spD K d_Queue_init) := by
  refine def_ok (N := N_Queue_init) (ps := ["self", "depth", "stages", "ring", "window", "width"]) (fb := b_Queue_init) (pol := .keep) T.F_Queue_init sc_Queue_init fun cdv A outer s H E hr => ?_
  have hu := hr.units
  have hu1 := hu_of hr
  have sc := sc_Queue_init
  exact (xs_cons (s_expr (x_call dc_nil (pe_call (ok_check_words T) (hr.mono (by decide)) rfl T.g_check_words T.F_check_words.kp (FunD.bindsN T.F_check_words fun _ _ _ _ _ _ us hl => match us, hl with | [_], _ => rfl) .nil pass0 (xa_cons (x_var (pv 3)) xa_nil))))
    (xs_cons (s_fld T.c_Queue T.n_Queue_depth (x_var (pv 0)) (x_var (pv 1)))
    (xs_cons (s_fld T.c_Queue T.n_Queue_stages (x_var (pv 0)) (x_var (pv 2)))
    (xs_cons (s_fld T.c_Queue T.n_Queue_ring (x_var (pv 0)) (x_frz (xf_b b_list (pe_callTy call_list_of rfl T.z_list PyProof.Rows.boot_list (xa_cons (x_var (pv 3)) xa_nil)))))
    (xs_cons (s_fld T.c_Queue T.n_Queue_window (x_var (pv 0)) (x_var (pv 4)))
    (xs_cons (s_fld T.c_Queue T.n_Queue_width (x_var (pv 0)) (x_var (pv 5)))
    (xs_cons (s_fld T.c_Queue T.n_Queue_sent (x_var (pv 0)) (x_cell (xf_lst xa_nil)))
    (xs_cons (s_fld T.c_Queue T.n_Queue_got (x_var (pv 0)) (x_cell (xf_lst xa_nil)))
    (xs_cons (s_fld T.c_Queue T.n_Queue_writer_view (x_var (pv 0)) (x_bin op_mulAny f_mul (x_frz (xf_lst (xa_cons (x_ix (x_var (pv 3)) x_int (fun _ _ => rfl)) xa_nil))) (x_var (pv 2))))
    (xs_cons (s_fld T.c_Queue T.n_Queue_reader_view (x_var (pv 0)) (x_bin op_mulAny f_mul (x_frz (xf_lst (xa_cons (x_ix (x_var (pv 3)) x_int (fun _ _ => rfl)) xa_nil))) (x_var (pv 2))))
    (xs_cons (s_fld T.c_Queue T.n_Queue_sent_before (x_var (pv 0)) (x_frz (xf_lst xa_nil)))
    (xs_cons (s_fld T.c_Queue T.n_Queue_got_before (x_var (pv 0)) (x_frz (xf_lst xa_nil)))
    (xs_one (s_fld T.c_Queue T.n_Queue_places (x_var (pv 0)) x_dnew))))))))))))))
theorem sc_Queue_stored : FnScope N_Queue_stored ["self"] (defScope s_Queue_stored) := ⟨rfl, rfl, rfl, by decide +kernel, rfl, by decide +kernel, by decide +kernel⟩
theorem ok_Queue_stored (T : Tx K mg) : FnOk P w K mg base CX0 1 (dA_Queue_stored.adr.at_ K) T.fd_Queue_stored ["self"] (spD K d_Queue_stored) := by
  refine def_ok (N := N_Queue_stored) (ps := ["self"]) (fb := b_Queue_stored) (pol := .frz) T.F_Queue_stored sc_Queue_stored fun cdv A outer s H E hr => ?_
  have hu := hr.units
  have hu1 := hu_of hr
  have sc := sc_Queue_stored
  exact (xs_one (s_ret (x_bin op_sub f_sub (x_b b_len (pe_callB call_lenA rfl T.z_len PySem.boot_len (xa_cons (x_fld T.c_Queue T.n_Queue_sent (x_var (pv 0))) xa_nil))) (x_b b_len (pe_callB call_lenA rfl T.z_len PySem.boot_len (xa_cons (x_fld T.c_Queue T.n_Queue_got (x_var (pv 0))) xa_nil))))))
theorem sc_is_held : FnScope N_is_held ["cube", "word"] (defScope s_is_held) := ⟨rfl, rfl, rfl, by decide +kernel, rfl, by decide +kernel, by decide +kernel⟩
theorem ok_is_held (T : Tx K mg) : FnOk P w K mg base CX0 1 (dA_is_held.adr.at_ K) T.fd_is_held ["cube", "word"] (spD K d_is_held) := by
  refine def_ok (N := N_is_held) (ps := ["cube", "word"]) (fb := b_is_held) (pol := .frz) T.F_is_held sc_is_held fun cdv A outer s H E hr => ?_
  have hu := hr.units
  have hu1 := hu_of hr
  have sc := sc_is_held
  exact (xs_one (s_ret (x_b b_all (pe_callB (cr_all rfl) rfl T.z_all (by decide +kernel) (xa_cons (x_frz (xf_comp (own := [("sign", 2), ("bit", 3)]) rfl sc.nd (xi_zip (pi_zipS rfl T.z_zip (xa_cons (x_var (pv 0)) (xa_cons (x_var (pv 1)) xa_nil)))) (blkOk_by (own := [("sign", 2), ("bit", 3)]) (N := N_is_held) (sc := defScope s_is_held) (by decide +kernel)) (g_tup (gs_cons g_name (gs_cons g_name gs_nil))) (by decide) (fun _ _ _ _ _ => (pg_tup rfl (pgs_cons (pg_name (i := 2) sc.nd rfl (by first | exact Or.inl rfl | exact Or.inr rfl)) (pgs_cons (pg_name (i := 3) sc.nd rfl (by first | exact Or.inl rfl | exact Or.inr rfl)) pgs_nil)))) (fun _ _ _ _ _ => xts_nil) (fun _ _ _ _ _ => (x_or (x_cmp (op_eqP hu) m_eq (x_var (pv 2)) x_str (nomark _)) (x_one (x_cmp (op_eqP hu) m_eq (x_var (pv 2)) (x_var (pv 3)) (nomark _))))))) xa_nil)))))
theorem sc_may_be_read : FnScope N_may_be_read ["cube", "word"] (defScope s_may_be_read) := ⟨rfl, rfl, rfl, by decide +kernel, rfl, by decide +kernel, by decide +kernel⟩
theorem ok_may_be_read (T : Tx K mg) : FnOk P w K mg base CX0 2 (dA_may_be_read.adr.at_ K) T.fd_may_be_read ["cube", "word"] (spD K d_may_be_read) := by
  refine def_ok (N := N_may_be_read) (ps := ["cube", "word"]) (fb := b_may_be_read) (pol := .frz) T.F_may_be_read sc_may_be_read fun cdv A outer s H E hr => ?_
  have hu := hr.units
  have hu1 := hu_of hr
  have sc := sc_may_be_read
  exact (xs_one (s_ret (x_and (x_cmp (op_eqP hu) m_eq (x_b b_len (pe_callB call_lenA rfl T.z_len PySem.boot_len (xa_cons (x_var (pv 1)) xa_nil))) (x_b b_len (pe_callB call_lenA rfl T.z_len PySem.boot_len (xa_cons (x_var (pv 0)) xa_nil))) (nomark _)) (x_one (x_call dc_nil (pe_call (ok_is_held T) (hr.mono (by decide)) rfl T.g_is_held T.F_is_held.kp (FunD.bindsN T.F_is_held fun _ _ _ _ _ _ us hl => match us, hl with | [_, _], _ => rfl) .nil pass0 (xa_cons (x_var (pv 0)) (xa_cons (x_var (pv 1)) xa_nil))))))))
theorem sc_hull : FnScope N_hull ["words"] (defScope s_hull) := ⟨rfl, rfl, rfl, by decide +kernel, rfl, by decide +kernel, by decide +kernel⟩
theorem ok_hull (T : Tx K mg) : FnOk P w K mg base CX0 1 (dA_hull.adr.at_ K) T.fd_hull ["words"] (spD K d_hull) := by
  refine def_ok (N := N_hull) (ps := ["words"]) (fb := b_hull) (pol := .frz) T.F_hull sc_hull fun cdv A outer s H E hr => ?_
  have hu := hr.units
  have hu1 := hu_of hr
  have sc := sc_hull
  exact (xs_cons (s_set (ps_set (i := 1) sc.nd rfl (by first | exact Or.inl rfl | exact Or.inr rfl) (x_ix (x_var (pv 0)) x_int (fun _ _ => rfl))))
    (xs_cons (s_for rfl PassesOwn.never (xi_val (x_sl (x_var (pv 0)) (xo_some x_int) xo_none)) (pg_name (i := 2) sc.nd rfl (by first | exact Or.inl rfl | exact Or.inr rfl)) g_name (xs_one (s_set (ps_set (i := 1) sc.nd rfl (by first | exact Or.inl rfl | exact Or.inr rfl) (x_m m_join (pe_bm PySem.F.plainAttrs_str PySem.F.slot_str_join PySem.F.type_str_join mt_join x_str (xa_cons (x_frz (xf_comp (own := [("sign", 3), ("other", 4)]) rfl sc.nd (xi_zip (pi_zipS rfl T.z_zip (xa_cons (x_var (pv 1)) (xa_cons (x_var (pv 2)) xa_nil)))) (blkOk_by (own := [("sign", 3), ("other", 4)]) (N := N_hull) (sc := defScope s_hull) (by decide +kernel)) (g_tup (gs_cons g_name (gs_cons g_name gs_nil))) (by decide) (fun _ _ _ _ _ => (pg_tup rfl (pgs_cons (pg_name (i := 3) sc.nd rfl (by first | exact Or.inl rfl | exact Or.inr rfl)) (pgs_cons (pg_name (i := 4) sc.nd rfl (by first | exact Or.inl rfl | exact Or.inr rfl)) pgs_nil)))) (fun _ _ _ _ _ => xts_nil) (fun _ _ _ _ _ => (x_if (xt_cmp (op_eqP hu) m_eq (x_var (pv 3)) (x_var (pv 4)) (nomark _)) (x_var (pv 3)) x_str)))) xa_nil)))))))
    (xs_one (s_ret (x_var (pv 1))))))
theorem sc_Queue__count_cube : FnScope N_Queue__count_cube ["self", "counts"] (defScope s_Queue__count_cube) := ⟨rfl, rfl, rfl, by decide +kernel, rfl, by decide +kernel, by decide +kernel⟩
theorem ok_Queue__count_cube (T : Tx K mg) : FnOk P w K mg base CX0 2 (dA_Queue__count_cube.adr.at_ K) T.fd_Queue__count_cube ["self", "counts"] (spD K d_Queue__count_cube) := by
  refine def_ok (N := N_Queue__count_cube) (ps := ["self", "counts"]) (fb := b_Queue__count_cube) (pol := .frz) T.F_Queue__count_cube sc_Queue__count_cube fun cdv A outer s H E hr => ?_
  have hu := hr.units
  have hu1 := hu_of hr
  have sc := sc_Queue__count_cube
  exact (xs_one (s_ret (x_call dc_nil (pe_call (ok_hull T) (hr.mono (by decide)) rfl T.g_hull T.F_hull.kp (FunD.bindsN T.F_hull fun _ _ _ _ _ _ us hl => match us, hl with | [_], _ => rfl) .nil pass0 (xa_cons (x_frz (xf_comp (own := [("count", 2)]) rfl sc.nd (xi_val (x_var (pv 1))) (blkOk_by (own := [("count", 2)]) (N := N_Queue__count_cube) (sc := defScope s_Queue__count_cube) (by decide +kernel)) g_name (by decide) (fun _ _ _ _ _ => (pg_name (i := 2) sc.nd rfl (by first | exact Or.inl rfl | exact Or.inr rfl))) (fun _ _ _ _ _ => xts_nil) (fun _ _ _ _ _ => (x_ix (x_fld T.c_Queue T.n_Queue_ring (x_var (pv 0))) (x_bin op_modN f_mod (x_var (pv 2)) (x_b b_len (pe_callB call_lenA rfl T.z_len PySem.boot_len (xa_cons (x_fld T.c_Queue T.n_Queue_ring (x_var (pv 0))) xa_nil)))) (fun _ _ => rfl))))) xa_nil)))))
theorem sc_Queue__write_cube : FnScope N_Queue__write_cube ["self"] (defScope s_Queue__write_cube) := ⟨rfl, rfl, rfl, by decide +kernel, rfl, by decide +kernel, by decide +kernel⟩
theorem ok_Queue__write_cube (T : Tx K mg) : FnOk P w K mg base CX0 3 (dA_Queue__write_cube.adr.at_ K) T.fd_Queue__write_cube ["self"] (spD K d_Queue__write_cube) := by
  refine def_ok (N := N_Queue__write_cube) (ps := ["self"]) (fb := b_Queue__write_cube) (pol := .frz) T.F_Queue__write_cube sc_Queue__write_cube fun cdv A outer s H E hr => ?_
  have hu := hr.units
  have hu1 := hu_of hr
  have sc := sc_Queue__write_cube
  exact (xs_one (s_ret (x_meth dc_nil (pe_meth (x_var (pv 0)) T.c_Queue T.m_Queue_count_cube (ok_Queue__count_cube T) (hr.mono (by decide)) (FunD.bindsN T.F_Queue__count_cube fun _ _ _ _ _ _ us hl => match us, hl with | [_, _], _ => rfl) .nil pass0 (xa_cons (x_bin op_addAny f_add (x_frz (xf_lst (xa_cons (x_b b_len (pe_callB call_lenA rfl T.z_len PySem.boot_len (xa_cons (x_fld T.c_Queue T.n_Queue_got (x_var (pv 0))) xa_nil))) xa_nil))) (x_fld T.c_Queue T.n_Queue_got_before (x_var (pv 0)))) xa_nil)))))
theorem sc_Queue__is_full : FnScope N_Queue__is_full ["self", "decider"] (defScope s_Queue__is_full) := ⟨rfl, rfl, rfl, by decide +kernel, rfl, by decide +kernel, by decide +kernel⟩
theorem ok_Queue__is_full (T : Tx K mg) : FnOk P w K mg base CX0 1 (dA_Queue__is_full.adr.at_ K) T.fd_Queue__is_full ["self", "decider"] (spD K d_Queue__is_full) := by
  refine def_ok (N := N_Queue__is_full) (ps := ["self", "decider"]) (fb := b_Queue__is_full) (pol := .frz) T.F_Queue__is_full sc_Queue__is_full fun cdv A outer s H E hr => ?_
  have hu := hr.units
  have hu1 := hu_of hr
  have sc := sc_Queue__is_full
  exact (xs_cons (s_if (xt_cmp (op_notInP hu) m_notIn (x_var (pv 1)) (x_fld T.c_Queue T.n_Queue_ring (x_var (pv 0))) rfl) (xs_one (s_ret x_bl)) xs_nil)
    (xs_one (s_ret (x_cmp (op_eqP hu) m_eq (x_bin op_modN f_mod (x_bin op_sub f_sub (x_b b_len (pe_callB call_lenA rfl T.z_len PySem.boot_len (xa_cons (x_fld T.c_Queue T.n_Queue_sent (x_var (pv 0))) xa_nil))) (x_m m_index (pe_bm PySem.F.plainAttrs_list PySem.F.slot_list_index PySem.F.type_list_index mt_index (x_fld T.c_Queue T.n_Queue_ring (x_var (pv 0))) (xa_cons (x_var (pv 1)) xa_nil)))) (x_b b_len (pe_callB call_lenA rfl T.z_len PySem.boot_len (xa_cons (x_fld T.c_Queue T.n_Queue_ring (x_var (pv 0))) xa_nil)))) (x_fld T.c_Queue T.n_Queue_depth (x_var (pv 0))) (nomark _)))))
theorem sc_Queue_write_edge : FnScope N_Queue_write_edge ["self", "count", "word"] (defScope s_Queue_write_edge) := ⟨rfl, rfl, rfl, by decide +kernel, rfl, by decide +kernel, by decide +kernel⟩
theorem ok_Queue_write_edge (T : Tx K mg) : FnOk P w K mg base CX0 4 (dA_Queue_write_edge.adr.at_ K) T.fd_Queue_write_edge ["self", "count", "word"] (spD K d_Queue_write_edge) := by
  refine def_ok (N := N_Queue_write_edge) (ps := ["self", "count", "word"]) (fb := b_Queue_write_edge) (pol := .frz) T.F_Queue_write_edge sc_Queue_write_edge fun cdv A outer s H E hr => ?_
  have hu := hr.units
  have hu1 := hu_of hr
  have sc := sc_Queue_write_edge
  exact (xs_cons (s_if (xt_not (xt_tru (x_call dc_nil (pe_call (ok_may_be_read T) (hr.mono (by decide)) rfl T.g__may_be_read T.F_may_be_read.kp (FunD.bindsN T.F_may_be_read fun _ _ _ _ _ _ us hl => match us, hl with | [_, _], _ => rfl) .nil pass0 (xa_cons (x_meth0 dc_nil (pe_meth0 (x_var (pv 0)) T.c_Queue T.m_Queue_write_cube (ok_Queue__write_cube T) (hr.mono (by decide)) (FunD.bindsN T.F_Queue__write_cube fun _ _ _ _ _ _ us hl => match us, hl with | [_], _ => rfl) .nil pass0)) (xa_cons (x_var (pv 1)) xa_nil)))))) (xs_one s_never) xs_nil)
    (xs_cons (s_set (ps_set (i := 3) sc.nd rfl (by first | exact Or.inl rfl | exact Or.inr rfl) (x_bin op_addAny f_add (x_frz (xf_lst (xa_cons (x_var (pv 1)) xa_nil))) (x_fld T.c_Queue T.n_Queue_writer_view (x_var (pv 0))))))
    (xs_cons (s_set (ps_set (i := 4) sc.nd rfl (by first | exact Or.inl rfl | exact Or.inr rfl) (x_and (x_cmp op_notN m_notN (x_var (pv 2)) x_non (nomark _)) (x_one (x_not (x_meth dc_nil (pe_meth (x_var (pv 0)) T.c_Queue T.m_Queue_is_full (ok_Queue__is_full T) (hr.mono (by decide)) (FunD.bindsN T.F_Queue__is_full fun _ _ _ _ _ _ us hl => match us, hl with | [_, _], _ => rfl) .nil pass0 (xa_cons (x_ix (x_var (pv 3)) (x_neg x_int) (fun _ _ => rfl)) xa_nil))))))))
    (xs_cons (s_fld T.c_Queue T.n_Queue_sent_before (x_var (pv 0)) (x_sl (x_bin op_addAny f_add (x_frz (xf_lst (xa_cons (x_b b_len (pe_callB call_lenA rfl T.z_len PySem.boot_len (xa_cons (x_fld T.c_Queue T.n_Queue_sent (x_var (pv 0))) xa_nil))) xa_nil))) (x_fld T.c_Queue T.n_Queue_sent_before (x_var (pv 0)))) xo_none (xo_some (x_fld T.c_Queue T.n_Queue_window (x_var (pv 0))))))
    (xs_cons (s_fld T.c_Queue T.n_Queue_got_before (x_var (pv 0)) (x_frz (xf_lst xa_nil)))
    (xs_cons (s_fld T.c_Queue T.n_Queue_writer_view (x_var (pv 0)) (x_sl (x_var (pv 3)) xo_none (xo_some (x_neg x_int))))
    (xs_cons (s_if (xt_tru (x_var (pv 4))) (xs_one (s_expr (x_m m_append (pe_bm PySem.F.plainAttrs_list PySem.F.slot_list_append PySem.F.type_list_append mt_append (x_fld T.c_Queue T.n_Queue_sent (x_var (pv 0))) (xa_cons (x_var (pv 2)) xa_nil))))) xs_nil)
    (xs_one (s_ret (x_var (pv 4)))))))))))
theorem sc_Queue__read_cube : FnScope N_Queue__read_cube ["self"] (defScope s_Queue__read_cube) := ⟨rfl, rfl, rfl, by decide +kernel, rfl, by decide +kernel, by decide +kernel⟩
theorem ok_Queue__read_cube (T : Tx K mg) : FnOk P w K mg base CX0 3 (dA_Queue__read_cube.adr.at_ K) T.fd_Queue__read_cube ["self"] (spD K d_Queue__read_cube) := by
  refine def_ok (N := N_Queue__read_cube) (ps := ["self"]) (fb := b_Queue__read_cube) (pol := .frz) T.F_Queue__read_cube sc_Queue__read_cube fun cdv A outer s H E hr => ?_
  have hu := hr.units
  have hu1 := hu_of hr
  have sc := sc_Queue__read_cube
  exact (xs_one (s_ret (x_meth dc_nil (pe_meth (x_var (pv 0)) T.c_Queue T.m_Queue_count_cube (ok_Queue__count_cube T) (hr.mono (by decide)) (FunD.bindsN T.F_Queue__count_cube fun _ _ _ _ _ _ us hl => match us, hl with | [_, _], _ => rfl) .nil pass0 (xa_cons (x_bin op_addAny f_add (x_frz (xf_lst (xa_cons (x_b b_len (pe_callB call_lenA rfl T.z_len PySem.boot_len (xa_cons (x_fld T.c_Queue T.n_Queue_sent (x_var (pv 0))) xa_nil))) xa_nil))) (x_fld T.c_Queue T.n_Queue_sent_before (x_var (pv 0)))) xa_nil)))))
theorem sc_Queue__content : FnScope N_Queue__content ["self", "count"] (defScope s_Queue__content) := ⟨rfl, rfl, rfl, by decide +kernel, rfl, by decide +kernel, by decide +kernel⟩
theorem ok_Queue__content (T : Tx K mg) : FnOk P w K mg base CX0 1 (dA_Queue__content.adr.at_ K) T.fd_Queue__content ["self", "count"] (spD K d_Queue__content) := by
  refine def_ok (N := N_Queue__content) (ps := ["self", "count"]) (fb := b_Queue__content) (pol := .frz) T.F_Queue__content sc_Queue__content fun cdv A outer s H E hr => ?_
  have hu := hr.units
  have hu1 := hu_of hr
  have sc := sc_Queue__content
  exact (xs_cons (s_set (ps_set (i := 2) sc.nd rfl (by first | exact Or.inl rfl | exact Or.inr rfl) (x_bin op_sub f_sub (x_bin op_sub f_sub (x_var (pv 1)) x_int) (x_bin op_modN f_mod (x_bin op_sub f_sub (x_bin op_sub f_sub (x_var (pv 1)) x_int) (x_b b_len (pe_callB call_lenA rfl T.z_len PySem.boot_len (xa_cons (x_fld T.c_Queue T.n_Queue_got (x_var (pv 0))) xa_nil)))) (x_fld T.c_Queue T.n_Queue_depth (x_var (pv 0)))))))
    (xs_cons (s_if (xt_cmp op_lt m_int (x_var (pv 2)) x_int (nomark _)) (xs_one (s_ret (x_bin op_mulAny f_mul x_str (x_fld T.c_Queue T.n_Queue_width (x_var (pv 0)))))) xs_nil)
    (xs_one (s_ret (x_ix (x_fld T.c_Queue T.n_Queue_sent (x_var (pv 0))) (x_var (pv 2)) (fun _ _ => rfl))))))
theorem sc_Queue__cell_cube : FnScope N_Queue__cell_cube ["self"] (defScope s_Queue__cell_cube) := ⟨rfl, rfl, rfl, by decide +kernel, rfl, by decide +kernel, by decide +kernel⟩
theorem ok_Queue__cell_cube (T : Tx K mg) : FnOk P w K mg base CX0 2 (dA_Queue__cell_cube.adr.at_ K) T.fd_Queue__cell_cube ["self"] (spD K d_Queue__cell_cube) := by
  refine def_ok (N := N_Queue__cell_cube) (ps := ["self"]) (fb := b_Queue__cell_cube) (pol := .frz) T.F_Queue__cell_cube sc_Queue__cell_cube fun cdv A outer s H E hr => ?_
  have hu := hr.units
  have hu1 := hu_of hr
  have sc := sc_Queue__cell_cube
  exact (xs_one (s_ret (x_call dc_nil (pe_call (ok_hull T) (hr.mono (by decide)) rfl T.g_hull T.F_hull.kp (FunD.bindsN T.F_hull fun _ _ _ _ _ _ us hl => match us, hl with | [_], _ => rfl) .nil pass0 (xa_cons (x_frz (xf_comp (own := [("count", 1)]) rfl sc.nd (xi_val (x_bin op_addAny f_add (x_frz (xf_lst (xa_cons (x_b b_len (pe_callB call_lenA rfl T.z_len PySem.boot_len (xa_cons (x_fld T.c_Queue T.n_Queue_sent (x_var (pv 0))) xa_nil))) xa_nil))) (x_fld T.c_Queue T.n_Queue_sent_before (x_var (pv 0))))) (blkOk_by (own := [("count", 1)]) (N := N_Queue__cell_cube) (sc := defScope s_Queue__cell_cube) (by decide +kernel)) g_name (by decide) (fun _ _ _ _ _ => (pg_name (i := 1) sc.nd rfl (by first | exact Or.inl rfl | exact Or.inr rfl))) (fun _ _ _ _ _ => xts_nil) (fun _ _ _ _ _ => (x_meth dc_nil (pe_meth (x_var (pv 0)) T.c_Queue T.m_Queue_content (ok_Queue__content T) (hr.mono (by decide)) (FunD.bindsN T.F_Queue__content fun _ _ _ _ _ _ us hl => match us, hl with | [_, _], _ => rfl) .nil pass0 (xa_cons (x_var (pv 1)) xa_nil)))))) xa_nil)))))
theorem sc_Queue_read_edge : FnScope N_Queue_read_edge ["self", "count", "seen"] (defScope s_Queue_read_edge) := ⟨rfl, rfl, rfl, by decide +kernel, rfl, by decide +kernel, by decide +kernel⟩
theorem ok_Queue_read_edge (T : Tx K mg) : FnOk P w K mg base CX0 4 (dA_Queue_read_edge.adr.at_ K) T.fd_Queue_read_edge ["self", "count", "seen"] (spD K d_Queue_read_edge) := by
  refine def_ok (N := N_Queue_read_edge) (ps := ["self", "count", "seen"]) (fb := b_Queue_read_edge) (pol := .frz) T.F_Queue_read_edge sc_Queue_read_edge fun cdv A outer s H E hr => ?_
  have hu := hr.units
  have hu1 := hu_of hr
  have sc := sc_Queue_read_edge
  exact (xs_cons (s_if (xt_not (xt_tru (x_call dc_nil (pe_call (ok_may_be_read T) (hr.mono (by decide)) rfl T.g__may_be_read T.F_may_be_read.kp (FunD.bindsN T.F_may_be_read fun _ _ _ _ _ _ us hl => match us, hl with | [_, _], _ => rfl) .nil pass0 (xa_cons (x_meth0 dc_nil (pe_meth0 (x_var (pv 0)) T.c_Queue T.m_Queue_read_cube (ok_Queue__read_cube T) (hr.mono (by decide)) (FunD.bindsN T.F_Queue__read_cube fun _ _ _ _ _ _ us hl => match us, hl with | [_], _ => rfl) .nil pass0)) (xa_cons (x_var (pv 1)) xa_nil)))))) (xs_one s_never) xs_nil)
    (xs_cons (s_set (ps_set (i := 3) sc.nd rfl (by first | exact Or.inl rfl | exact Or.inr rfl) (x_bin op_addAny f_add (x_frz (xf_lst (xa_cons (x_var (pv 1)) xa_nil))) (x_fld T.c_Queue T.n_Queue_reader_view (x_var (pv 0))))))
    (xs_cons (s_set (ps_set (i := 4) sc.nd rfl (by first | exact Or.inl rfl | exact Or.inr rfl) x_non))
    (xs_cons (s_if (xt_cmp (op_neP hu) m_ne (x_ix (x_var (pv 3)) (x_neg x_int) (fun _ _ => rfl)) (x_ix (x_fld T.c_Queue T.n_Queue_ring (x_var (pv 0))) (x_bin op_modN f_mod (x_b b_len (pe_callB call_lenA rfl T.z_len PySem.boot_len (xa_cons (x_fld T.c_Queue T.n_Queue_got (x_var (pv 0))) xa_nil))) (x_b b_len (pe_callB call_lenA rfl T.z_len PySem.boot_len (xa_cons (x_fld T.c_Queue T.n_Queue_ring (x_var (pv 0))) xa_nil)))) (fun _ _ => rfl)) (nomark _)) (xs_one (s_set (ps_set (i := 4) sc.nd rfl (by first | exact Or.inl rfl | exact Or.inr rfl) (x_var (pv 2))))) xs_nil)
    (xs_cons (s_if (xt_w (xw_and (xt_cmp op_notN m_notN (x_var (pv 4)) x_non (nomark _)) (xw_and1 (xt_not (xt_tru (x_call dc_nil (pe_call (ok_may_be_read T) (hr.mono (by decide)) rfl T.g__may_be_read T.F_may_be_read.kp (FunD.bindsN T.F_may_be_read fun _ _ _ _ _ _ us hl => match us, hl with | [_, _], _ => rfl) .nil pass0 (xa_cons (x_meth0 dc_nil (pe_meth0 (x_var (pv 0)) T.c_Queue T.m_Queue_cell_cube (ok_Queue__cell_cube T) (hr.mono (by decide)) (FunD.bindsN T.F_Queue__cell_cube fun _ _ _ _ _ _ us hl => match us, hl with | [_], _ => rfl) .nil pass0)) (xa_cons (x_var (pv 4)) xa_nil))))))))) (xs_one s_never) xs_nil)
    (xs_cons (s_fld T.c_Queue T.n_Queue_got_before (x_var (pv 0)) (x_sl (x_bin op_addAny f_add (x_frz (xf_lst (xa_cons (x_b b_len (pe_callB call_lenA rfl T.z_len PySem.boot_len (xa_cons (x_fld T.c_Queue T.n_Queue_got (x_var (pv 0))) xa_nil))) xa_nil))) (x_fld T.c_Queue T.n_Queue_got_before (x_var (pv 0)))) xo_none (xo_some (x_fld T.c_Queue T.n_Queue_window (x_var (pv 0))))))
    (xs_cons (s_fld T.c_Queue T.n_Queue_sent_before (x_var (pv 0)) (x_frz (xf_lst xa_nil)))
    (xs_cons (s_fld T.c_Queue T.n_Queue_reader_view (x_var (pv 0)) (x_sl (x_var (pv 3)) xo_none (xo_some (x_neg x_int))))
    (xs_cons (s_if (xt_cmp op_notN m_notN (x_var (pv 4)) x_non (nomark _)) (xs_one (s_expr (x_m m_append (pe_bm PySem.F.plainAttrs_list PySem.F.slot_list_append PySem.F.type_list_append mt_append (x_fld T.c_Queue T.n_Queue_got (x_var (pv 0))) (xa_cons (x_var (pv 4)) xa_nil))))) xs_nil)
    (xs_one (s_ret (x_var (pv 4)))))))))))))
theorem sc_law_queue_right : FnScope N_law_queue_right ["edges", "stages", "window"] (defScope s_law_queue_right) := ⟨rfl, rfl, rfl, by decide +kernel, rfl, by decide +kernel, by decide +kernel⟩
theorem ok_law_queue_right (T : Tx K mg) : FnOk P w K mg base CX0 5 (dA_law_queue_right.adr.at_ K) T.fd_law_queue_right ["edges", "stages", "window"] (spD K d_law_queue_right) := by
  refine def_ok (N := N_law_queue_right) (ps := ["edges", "stages", "window"]) (fb := b_law_queue_right) (pol := .frz) T.F_law_queue_right sc_law_queue_right fun cdv A outer s H E hr => ?_
  have hu := hr.units
  have hu1 := hu_of hr
  have sc := sc_law_queue_right
  exact (xs_cons (s_set (ps_set (i := 3) sc.nd rfl (by first | exact Or.inl rfl | exact Or.inr rfl) (x_call dc_nil (pe_call (ok_law_stretch T) (hr.mono (by decide)) rfl T.g__law_stretch T.F_law_stretch.kp (FunD.bindsN T.F_law_stretch fun _ _ _ _ _ _ us hl => match us, hl with | [_], _ => rfl) .nil pass0 (xa_cons x_int xa_nil)))))
    (xs_cons (s_set (ps_set (i := 4) sc.nd rfl (by first | exact Or.inl rfl | exact Or.inr rfl) (x_make dc_nil (pe_make T.k_Queue (ok_Queue_init T) (hr.mono (by decide)) rfl T.g_Queue (FunD.bindsN T.F_Queue_init fun _ _ _ _ _ _ us hl => match us, hl with | [_, _, _, _, _, _], _ => rfl) .nil pass0 (xa_cons x_int (xa_cons (x_var (pv 1)) (xa_cons (x_frz (xf_b b_list (pe_callTy call_list_of rfl T.z_list PyProof.Rows.boot_list (xa_cons (x_var (pv 3)) xa_nil)))) (xa_cons (x_var (pv 2)) (xa_cons x_int xa_nil)))))))))
    (xs_cons (s_set (ps_set (i := 5) sc.nd rfl (by first | exact Or.inl rfl | exact Or.inr rfl) (x_dict (keys := []) (values := []) (ps_consF (ps_consF ps_nilF)) (pe_disp (pps_cons x_str (x_bin op_mulAny f_mul (x_frz (xf_lst (xa_cons x_int xa_nil))) (x_var (pv 1))) (pps_cons x_str (x_bin op_mulAny f_mul (x_frz (xf_lst (xa_cons x_int xa_nil))) (x_var (pv 1))) pps_nil)) rfl rfl (fun z => by cases z) (by decide)))))
    (xs_cons (s_for rfl PassesOwn.never (xi_val (x_var (pv 0))) (pg_tup rfl (pgs_cons (pg_name (i := 6) sc.nd rfl (by first | exact Or.inl rfl | exact Or.inr rfl)) (pgs_cons (pg_name (i := 7) sc.nd rfl (by first | exact Or.inl rfl | exact Or.inr rfl)) (pgs_cons (pg_name (i := 8) sc.nd rfl (by first | exact Or.inl rfl | exact Or.inr rfl)) (pgs_cons (pg_name (i := 9) sc.nd rfl (by first | exact Or.inl rfl | exact Or.inr rfl)) pgs_nil))))) (g_tup (gs_cons g_name (gs_cons g_name (gs_cons g_name (gs_cons g_name gs_nil))))) (xs_cons (s_if (xt_cmp op_gt m_int (x_prop (pe_prop (x_var (pv 4)) T.c_Queue T.p_Queue_stored (ok_Queue_stored T) (hr.mono (by decide)) (FunD.bindsN T.F_Queue_stored fun _ _ _ _ _ _ us hl => match us, hl with | [_], _ => rfl) .nil pass0 rfl)) x_int (nomark _)) (xs_one (s_ret x_bl)) xs_nil)
    (xs_cons (s_set (ps_set (i := 10) sc.nd rfl (by first | exact Or.inl rfl | exact Or.inr rfl) (x_ix (x_var (pv 3)) (x_bin op_modN f_mod (x_b b_int (pe_callTy call_int1 rfl T.z_int PyProof.Rows.boot_int (xa_cons (x_var (pv 7)) xa_nil))) x_int) (fun _ _ => rfl))))
    (xs_cons (s_dput hu1 (x_var (pv 5)) (x_var (pv 6)) (x_sl (x_bin op_addAny f_add (x_frz (xf_lst (xa_cons (x_var (pv 7)) xa_nil))) (x_dget hu1 (x_var (pv 5)) (x_var (pv 6)) (fun _ _ => rfl))) xo_none (xo_some (x_var (pv 1)))))
    (xs_one (s_if (xt_cmp (op_eqP hu) m_eq (x_var (pv 6)) x_str (nomark _)) (xs_cons (s_if (xt_w (xw_or (xt_cmp (op_neP hu) m_ne (x_b b_len (pe_callB call_lenA rfl T.z_len PySem.boot_len (xa_cons (x_fld T.c_Queue T.n_Queue_sent (x_var (pv 4))) xa_nil))) (x_var (pv 9)) (nomark _)) (xw_or1 (xt_cmp op_notBl m_notB (x_meth dc_nil (pe_meth (x_var (pv 4)) T.c_Queue T.m_Queue_write_edge (ok_Queue_write_edge T) (hr.mono (by decide)) (FunD.bindsN T.F_Queue_write_edge fun _ _ _ _ _ _ us hl => match us, hl with | [_, _, _], _ => rfl) .nil pass0 (xa_cons (x_var (pv 10)) (xa_cons x_str xa_nil)))) x_bl (nomark _))))) (xs_one (s_ret x_bl)) xs_nil)
    (xs_one (s_if (xt_cmp (op_neP hu) m_ne (x_fld T.c_Queue T.n_Queue_writer_view (x_var (pv 4))) (x_frz (xf_comp (own := [("count", 12)]) rfl sc.nd (xi_val (x_dget hu1 (x_var (pv 5)) x_str (fun _ _ => rfl))) (blkOk_by (own := [("count", 12)]) (N := N_law_queue_right) (sc := defScope s_law_queue_right) (by decide +kernel)) g_name (by decide) (fun _ _ _ _ _ => (pg_name (i := 12) sc.nd rfl (by first | exact Or.inl rfl | exact Or.inr rfl))) (fun _ _ _ _ _ => xts_nil) (fun _ _ _ _ _ => (x_ix (x_var (pv 3)) (x_bin op_modN f_mod (x_b b_int (pe_callTy call_int1 rfl T.z_int PyProof.Rows.boot_int (xa_cons (x_var (pv 12)) xa_nil))) x_int) (fun _ _ => rfl))))) (nomark _)) (xs_one (s_ret x_bl)) xs_nil))) (xs_cons (s_if (xt_cmp (op_neP hu) m_ne (x_b b_len (pe_callB call_lenA rfl T.z_len PySem.boot_len (xa_cons (x_fld T.c_Queue T.n_Queue_got (x_var (pv 4))) xa_nil))) (x_var (pv 9)) (nomark _)) (xs_one (s_ret x_bl)) xs_nil)
    (xs_cons (s_set (ps_set (i := 11) sc.nd rfl (by first | exact Or.inl rfl | exact Or.inr rfl) (x_meth dc_nil (pe_meth (x_var (pv 4)) T.c_Queue T.m_Queue_read_edge (ok_Queue_read_edge T) (hr.mono (by decide)) (FunD.bindsN T.F_Queue_read_edge fun _ _ _ _ _ _ us hl => match us, hl with | [_, _, _], _ => rfl) .nil pass0 (xa_cons (x_var (pv 10)) (xa_cons x_str xa_nil))))))
    (xs_cons (s_if (xt_w (xw_or (xt_cmp (op_neP hu) m_ne (x_cmp op_isN m_isN (x_var (pv 11)) x_non (nomark _)) (x_cmp op_le m_int (x_var (pv 8)) (x_var (pv 9)) (nomark _)) (nomark _)) (xw_or1 (xt_w (xw_and (xt_cmp op_notN m_notN (x_var (pv 11)) x_non (nomark _)) (xw_and1 (xt_cmp (op_neP hu) m_ne (x_var (pv 11)) x_str (nomark _)))))))) (xs_one (s_ret x_bl)) xs_nil)
    (xs_one (s_if (xt_cmp (op_neP hu) m_ne (x_fld T.c_Queue T.n_Queue_reader_view (x_var (pv 4))) (x_frz (xf_comp (own := [("count", 12)]) rfl sc.nd (xi_val (x_dget hu1 (x_var (pv 5)) x_str (fun _ _ => rfl))) (blkOk_by (own := [("count", 12)]) (N := N_law_queue_right) (sc := defScope s_law_queue_right) (by decide +kernel)) g_name (by decide) (fun _ _ _ _ _ => (pg_name (i := 12) sc.nd rfl (by first | exact Or.inl rfl | exact Or.inr rfl))) (fun _ _ _ _ _ => xts_nil) (fun _ _ _ _ _ => (x_ix (x_var (pv 3)) (x_bin op_modN f_mod (x_b b_int (pe_callTy call_int1 rfl T.z_int PyProof.Rows.boot_int (xa_cons (x_var (pv 12)) xa_nil))) x_int) (fun _ _ => rfl))))) (nomark _)) (xs_one (s_ret x_bl)) xs_nil)))))))))))
    (xs_one (s_ret x_bl))))))
theorem sc_law : FnScope N_law ["script"] (defScope s_law) := ⟨rfl, rfl, rfl, by decide +kernel, rfl, by decide +kernel, by decide +kernel⟩
theorem ok_law (T : Tx K mg) : FnOk P w K mg base CX0 6 (dA_law.adr.at_ K) T.fd_law ["script"] (spD K d_law) := by
  refine def_ok (N := N_law) (ps := ["script"]) (fb := b_law) (pol := .frz) T.F_law sc_law fun cdv A outer s H E hr => ?_
  have hu := hr.units
  have hu1 := hu_of hr
  have sc := sc_law
  exact (xs_cons (s_set (ps_set (i := 1) sc.nd rfl (by first | exact Or.inl rfl | exact Or.inr rfl) (x_call dc_nil (pe_call (ok_law_numbers T) (hr.mono (by decide)) rfl T.g__law_numbers T.F_law_numbers.kp (FunD.bindsN T.F_law_numbers fun _ _ _ _ _ _ us hl => match us, hl with | [_, _, _], _ => rfl) .nil pass0 (xa_cons (x_call dc_nil (pe_call (ok_law_cell T) (hr.mono (by decide)) rfl T.g__law_cell T.F_law_cell.kp (FunD.bindsN T.F_law_cell fun _ _ _ _ _ _ us hl => match us, hl with | [_, _], _ => rfl) .nil pass0 (xa_cons (x_var (pv 0)) (xa_cons x_int xa_nil)))) (xa_cons x_int (xa_cons x_int xa_nil)))))))
    (xs_cons (s_set (ps_set (i := 2) sc.nd rfl (by first | exact Or.inl rfl | exact Or.inr rfl) (x_call dc_nil (pe_call (ok_law_schedule T) (hr.mono (by decide)) rfl T.g__law_schedule T.F_law_schedule.kp (FunD.bindsN T.F_law_schedule fun _ _ _ _ _ _ us hl => match us, hl with | [_], _ => rfl) .nil pass0 (xa_cons (x_var (pv 1)) xa_nil)))))
    (xs_cons (s_set (ps_set (i := 3) sc.nd rfl (by first | exact Or.inl rfl | exact Or.inr rfl) (x_call dc_nil (pe_call (ok_law_numbers T) (hr.mono (by decide)) rfl T.g__law_numbers T.F_law_numbers.kp (FunD.bindsN T.F_law_numbers fun _ _ _ _ _ _ us hl => match us, hl with | [_, _, _], _ => rfl) .nil pass0 (xa_cons (x_call dc_nil (pe_call (ok_law_cell T) (hr.mono (by decide)) rfl T.g__law_cell T.F_law_cell.kp (FunD.bindsN T.F_law_cell fun _ _ _ _ _ _ us hl => match us, hl with | [_, _], _ => rfl) .nil pass0 (xa_cons (x_var (pv 0)) (xa_cons x_int xa_nil)))) (xa_cons x_int (xa_cons x_int xa_nil)))))))
    (xs_cons (s_set (ps_set (i := 4) sc.nd rfl (by first | exact Or.inl rfl | exact Or.inr rfl) (x_bin op_modN f_mod (x_b b_int (pe_callTy call_int1 rfl T.z_int PyProof.Rows.boot_int (xa_cons (x_ix (x_var (pv 3)) x_int (fun _ _ => rfl)) xa_nil))) x_int)))
    (xs_cons (s_set (ps_set (i := 5) sc.nd rfl (by first | exact Or.inl rfl | exact Or.inr rfl) (x_bin op_modN f_mod (x_b b_int (pe_callTy call_int1 rfl T.z_int PyProof.Rows.boot_int (xa_cons (x_ix (x_var (pv 3)) x_int (fun _ _ => rfl)) xa_nil))) x_int)))
    (xs_cons (s_set (ps_set (i := 6) sc.nd rfl (by first | exact Or.inl rfl | exact Or.inr rfl) (x_call dc_nil (pe_call (ok_law_edges T) (hr.mono (by decide)) rfl T.g__law_edges T.F_law_edges.kp (FunD.bindsN T.F_law_edges fun _ _ _ _ _ _ us hl => match us, hl with | [_, _, _, _], _ => rfl) .nil pass0 (xa_cons (x_var (pv 2)) (xa_cons (x_var (pv 4)) (xa_cons (x_var (pv 5)) (xa_cons x_int xa_nil))))))))
    (xs_cons (s_set (ps_set (i := 7) sc.nd rfl (by first | exact Or.inl rfl | exact Or.inr rfl) (x_call dc_nil (pe_call (ok_law_gaps T) (hr.mono (by decide)) rfl T.g__law_gaps T.F_law_gaps.kp (FunD.bindsN T.F_law_gaps fun _ _ _ _ _ _ us hl => match us, hl with | [_], _ => rfl) .nil pass0 (xa_cons (x_var (pv 6)) xa_nil)))))
    (xs_cons (s_set (ps_set (i := 8) sc.nd rfl (by first | exact Or.inl rfl | exact Or.inr rfl) (x_m m_count (pe_bm PySem.F.plainAttrs_str PySem.F.slot_str_count PySem.F.type_str_count mt_count (x_var (pv 2)) (xa_cons x_str xa_nil)))))
    (xs_cons (s_for rfl PassesOwn.never (xi_val (x_frz (xf_lst (xa_cons (x_bin op_modN f_mod (x_b b_int (pe_callTy call_int1 rfl T.z_int PyProof.Rows.boot_int (xa_cons (x_ix (x_var (pv 3)) x_int (fun _ _ => rfl)) xa_nil))) x_int) (xa_cons (x_bin op_modN f_mod (x_b b_int (pe_callTy call_int1 rfl T.z_int PyProof.Rows.boot_int (xa_cons (x_ix (x_var (pv 3)) x_int (fun _ _ => rfl)) xa_nil))) x_int) xa_nil))))) (pg_name (i := 9) sc.nd rfl (by first | exact Or.inl rfl | exact Or.inr rfl)) g_name (xs_one (s_if (xt_not (xt_tru (x_call dc_nil (pe_call (ok_law_gaps_right T) (hr.mono (by decide)) rfl T.g__law_gaps_right T.F_law_gaps_right.kp (FunD.bindsN T.F_law_gaps_right fun _ _ _ _ _ _ us hl => match us, hl with | [_, _, _, _, _], _ => rfl) .nil pass0 (xa_cons (x_var (pv 2)) (xa_cons (x_var (pv 4)) (xa_cons (x_var (pv 5)) (xa_cons (x_var (pv 9)) (xa_cons (x_sl (x_var (pv 7)) xo_none (xo_some (x_bin op_mulAny f_mul (x_var (pv 9)) (x_var (pv 8))))) xa_nil))))))))) (xs_one (s_ret x_bl)) xs_nil)))
    (xs_cons (s_set (ps_set (i := 10) sc.nd rfl (by first | exact Or.inl rfl | exact Or.inr rfl) (x_call (dvs := [V.int 40]) (fun _ => (RDs.cons (.int _) RDs.nil)) (pe_call (ok_latest_gaps T) (hr.mono (by decide)) rfl T.g_latest_gaps T.F_latest_gaps.kp (db_latest_gaps T).choose_spec.2 (db_latest_gaps T).choose_spec.1 pass0 (xa_cons (x_var (pv 2)) (xa_cons (x_var (pv 4)) (xa_cons (x_var (pv 5)) xa_nil)))))))
    (xs_cons (s_if (xt_w (xw_or (xt_not (xt_tru (x_call dc_nil (pe_call (ok_law_whole_numbers T) (hr.mono (by decide)) rfl T.g__law_whole_numbers T.F_law_whole_numbers.kp (FunD.bindsN T.F_law_whole_numbers fun _ _ _ _ _ _ us hl => match us, hl with | [_], _ => rfl) .nil pass0 (xa_cons (x_var (pv 10)) xa_nil))))) (xw_or1 (xt_cmp (op_neP hu) m_ne (x_var (pv 10)) (x_var (pv 7)) (nomark _))))) (xs_one (s_ret x_bl)) xs_nil)
    (xs_one (s_ret (x_call dc_nil (pe_call (ok_law_queue_right T) (hr.mono (by decide)) rfl T.g__law_queue_right T.F_law_queue_right.kp (FunD.bindsN T.F_law_queue_right fun _ _ _ _ _ _ us hl => match us, hl with | [_, _, _], _ => rfl) .nil pass0 (xa_cons (x_sl (x_var (pv 6)) xo_none (xo_some x_int)) (xa_cons (x_var (pv 4)) (xa_cons (x_var (pv 5)) xa_nil))))))))))))))))))
end
def facts : List Fb := [(fun K => (He.Fa.free "all").ok K),
  (fun K => (He.Fa.free "bool").ok K),
  (fun K => (He.Fa.free "enumerate").ok K),
  (fun K => (He.Fa.free "int").ok K),
  (fun K => (He.Fa.free "isinstance").ok K),
  (fun K => (He.Fa.free "len").ok K),
  (fun K => (He.Fa.free "list").ok K),
  (fun K => (He.Fa.free "max").ok K),
  (fun K => (He.Fa.free "range").ok K),
  (fun K => (He.Fa.free "zip").ok K),
  (fun K => (He.Fa.glo "Queue").ok K),
  (fun K => (He.Fa.glo "_law_cell").ok K),
  (fun K => (He.Fa.glo "_law_edges").ok K),
  (fun K => (He.Fa.glo "_law_gaps").ok K),
  (fun K => (He.Fa.glo "_law_gaps_right").ok K),
  (fun K => (He.Fa.glo "_law_numbers").ok K),
  (fun K => (He.Fa.glo "_law_queue_right").ok K),
  (fun K => (He.Fa.glo "_law_schedule").ok K),
  (fun K => (He.Fa.glo "_law_stretch").ok K),
  (fun K => (He.Fa.glo "_law_whole_numbers").ok K),
  (fun K => (He.Fa.glo "_may_be_read").ok K),
  (fun K => (He.Fa.glo "check_ring").ok K),
  (fun K => (He.Fa.glo "check_words").ok K),
  (fun K => (He.Fa.glo "hull").ok K),
  (fun K => (He.Fa.glo "is_held").ok K),
  (fun K => (He.Fa.glo "latest_gaps").ok K),
  (fun K => (He.Fa.cls "Queue").ok K),
  (fun K => (He.Fa.noat "Queue" "_got_before").ok K),
  (fun K => (He.Fa.noat "Queue" "_places").ok K),
  (fun K => (He.Fa.noat "Queue" "_sent_before").ok K),
  (fun K => (He.Fa.noat "Queue" "depth").ok K),
  (fun K => (He.Fa.noat "Queue" "got").ok K),
  (fun K => (He.Fa.noat "Queue" "reader_view").ok K),
  (fun K => (He.Fa.noat "Queue" "ring").ok K),
  (fun K => (He.Fa.noat "Queue" "sent").ok K),
  (fun K => (He.Fa.noat "Queue" "stages").ok K),
  (fun K => (He.Fa.noat "Queue" "width").ok K),
  (fun K => (He.Fa.noat "Queue" "window").ok K),
  (fun K => (He.Fa.noat "Queue" "writer_view").ok K),
  (fun K => (He.Fa.meth "Queue" "_cell_cube").ok K),
  (fun K => (He.Fa.meth "Queue" "_content").ok K),
  (fun K => (He.Fa.meth "Queue" "_count_cube").ok K),
  (fun K => (He.Fa.meth "Queue" "_is_full").ok K),
  (fun K => (He.Fa.meth "Queue" "_read_cube").ok K),
  (fun K => (He.Fa.meth "Queue" "_write_cube").ok K),
  (fun K => (He.Fa.meth "Queue" "read_edge").ok K),
  (fun K => (He.Fa.meth "Queue" "write_edge").ok K),
  (fun K => (He.Fa.mkr "Queue").ok K),
  (fun K => propB K "Queue" "stored"),
  (fun K => (He.Fa.glo "law").ok K)]
def fns : List DefA := [dA_law_numbers, dA_law_cell, dA_law_schedule, dA_law_edges, dA_law_gaps, dA_latest_gaps, dA_law_whole_numbers, dA_law_gaps_right, dA_law_stretch, dA_check_ring, dA_check_words, dA_Queue_init, dA_Queue_stored, dA_is_held, dA_may_be_read, dA_hull, dA_Queue__count_cube, dA_Queue__write_cube, dA_Queue__is_full, dA_Queue_write_edge, dA_Queue__read_cube, dA_Queue__content, dA_Queue__cell_cube, dA_Queue_read_edge, dA_law_queue_right, dA_law]
theorem told {K : PySem.W.Frag} {h : Heap} {mg : Str → Option Value} (X : K.In h) (G : h.Ns mainGlobals mg) (c : SaysX facts fns K) : Nonempty (Tx K mg) := by
  obtain ⟨fd0, F0⟩ := c.def_ 0 (d := dA_law_numbers) rfl
  obtain ⟨fd1, F1⟩ := c.def_ 1 (d := dA_law_cell) rfl
  obtain ⟨fd2, F2⟩ := c.def_ 2 (d := dA_law_schedule) rfl
  obtain ⟨fd3, F3⟩ := c.def_ 3 (d := dA_law_edges) rfl
  obtain ⟨fd4, F4⟩ := c.def_ 4 (d := dA_law_gaps) rfl
  obtain ⟨fd5, F5⟩ := c.def_ 5 (d := dA_latest_gaps) rfl
  obtain ⟨fd6, F6⟩ := c.def_ 6 (d := dA_law_whole_numbers) rfl
  obtain ⟨fd7, F7⟩ := c.def_ 7 (d := dA_law_gaps_right) rfl
  obtain ⟨fd8, F8⟩ := c.def_ 8 (d := dA_law_stretch) rfl
  obtain ⟨fd9, F9⟩ := c.def_ 9 (d := dA_check_ring) rfl
  obtain ⟨fd10, F10⟩ := c.def_ 10 (d := dA_check_words) rfl
  obtain ⟨fd11, F11⟩ := c.def_ 11 (d := dA_Queue_init) rfl
  obtain ⟨fd12, F12⟩ := c.def_ 12 (d := dA_Queue_stored) rfl
  obtain ⟨fd13, F13⟩ := c.def_ 13 (d := dA_is_held) rfl
  obtain ⟨fd14, F14⟩ := c.def_ 14 (d := dA_may_be_read) rfl
  obtain ⟨fd15, F15⟩ := c.def_ 15 (d := dA_hull) rfl
  obtain ⟨fd16, F16⟩ := c.def_ 16 (d := dA_Queue__count_cube) rfl
  obtain ⟨fd17, F17⟩ := c.def_ 17 (d := dA_Queue__write_cube) rfl
  obtain ⟨fd18, F18⟩ := c.def_ 18 (d := dA_Queue__is_full) rfl
  obtain ⟨fd19, F19⟩ := c.def_ 19 (d := dA_Queue_write_edge) rfl
  obtain ⟨fd20, F20⟩ := c.def_ 20 (d := dA_Queue__read_cube) rfl
  obtain ⟨fd21, F21⟩ := c.def_ 21 (d := dA_Queue__content) rfl
  obtain ⟨fd22, F22⟩ := c.def_ 22 (d := dA_Queue__cell_cube) rfl
  obtain ⟨fd23, F23⟩ := c.def_ 23 (d := dA_Queue_read_edge) rfl
  obtain ⟨fd24, F24⟩ := c.def_ 24 (d := dA_law_queue_right) rfl
  obtain ⟨fd25, F25⟩ := c.def_ 25 (d := dA_law) rfl
  exact ⟨{
    z_all := He.free_ok X G (c.fact 0 (f := fun K => (He.Fa.free "all").ok K) rfl),
    z_bool := He.free_ok X G (c.fact 1 (f := fun K => (He.Fa.free "bool").ok K) rfl),
    z_enumerate := He.free_ok X G (c.fact 2 (f := fun K => (He.Fa.free "enumerate").ok K) rfl),
    z_int := He.free_ok X G (c.fact 3 (f := fun K => (He.Fa.free "int").ok K) rfl),
    z_isinstance := He.free_ok X G (c.fact 4 (f := fun K => (He.Fa.free "isinstance").ok K) rfl),
    z_len := He.free_ok X G (c.fact 5 (f := fun K => (He.Fa.free "len").ok K) rfl),
    z_list := He.free_ok X G (c.fact 6 (f := fun K => (He.Fa.free "list").ok K) rfl),
    z_max := He.free_ok X G (c.fact 7 (f := fun K => (He.Fa.free "max").ok K) rfl),
    z_range := He.free_ok X G (c.fact 8 (f := fun K => (He.Fa.free "range").ok K) rfl),
    z_zip := He.free_ok X G (c.fact 9 (f := fun K => (He.Fa.free "zip").ok K) rfl),
    g_Queue := He.glo_ok X G (c.fact 10 (f := fun K => (He.Fa.glo "Queue").ok K) rfl),
    g__law_cell := He.glo_ok X G (c.fact 11 (f := fun K => (He.Fa.glo "_law_cell").ok K) rfl),
    g__law_edges := He.glo_ok X G (c.fact 12 (f := fun K => (He.Fa.glo "_law_edges").ok K) rfl),
    g__law_gaps := He.glo_ok X G (c.fact 13 (f := fun K => (He.Fa.glo "_law_gaps").ok K) rfl),
    g__law_gaps_right := He.glo_ok X G (c.fact 14 (f := fun K => (He.Fa.glo "_law_gaps_right").ok K) rfl),
    g__law_numbers := He.glo_ok X G (c.fact 15 (f := fun K => (He.Fa.glo "_law_numbers").ok K) rfl),
    g__law_queue_right := He.glo_ok X G (c.fact 16 (f := fun K => (He.Fa.glo "_law_queue_right").ok K) rfl),
    g__law_schedule := He.glo_ok X G (c.fact 17 (f := fun K => (He.Fa.glo "_law_schedule").ok K) rfl),
    g__law_stretch := He.glo_ok X G (c.fact 18 (f := fun K => (He.Fa.glo "_law_stretch").ok K) rfl),
    g__law_whole_numbers := He.glo_ok X G (c.fact 19 (f := fun K => (He.Fa.glo "_law_whole_numbers").ok K) rfl),
    g__may_be_read := He.glo_ok X G (c.fact 20 (f := fun K => (He.Fa.glo "_may_be_read").ok K) rfl),
    g_check_ring := He.glo_ok X G (c.fact 21 (f := fun K => (He.Fa.glo "check_ring").ok K) rfl),
    g_check_words := He.glo_ok X G (c.fact 22 (f := fun K => (He.Fa.glo "check_words").ok K) rfl),
    g_hull := He.glo_ok X G (c.fact 23 (f := fun K => (He.Fa.glo "hull").ok K) rfl),
    g_is_held := He.glo_ok X G (c.fact 24 (f := fun K => (He.Fa.glo "is_held").ok K) rfl),
    g_latest_gaps := He.glo_ok X G (c.fact 25 (f := fun K => (He.Fa.glo "latest_gaps").ok K) rfl),
    c_Queue := He.cls_ok (c.fact 26 (f := fun K => (He.Fa.cls "Queue").ok K) rfl),
    n_Queue_got_before := He.noat_ok (c.fact 27 (f := fun K => (He.Fa.noat "Queue" "_got_before").ok K) rfl),
    n_Queue_places := He.noat_ok (c.fact 28 (f := fun K => (He.Fa.noat "Queue" "_places").ok K) rfl),
    n_Queue_sent_before := He.noat_ok (c.fact 29 (f := fun K => (He.Fa.noat "Queue" "_sent_before").ok K) rfl),
    n_Queue_depth := He.noat_ok (c.fact 30 (f := fun K => (He.Fa.noat "Queue" "depth").ok K) rfl),
    n_Queue_got := He.noat_ok (c.fact 31 (f := fun K => (He.Fa.noat "Queue" "got").ok K) rfl),
    n_Queue_reader_view := He.noat_ok (c.fact 32 (f := fun K => (He.Fa.noat "Queue" "reader_view").ok K) rfl),
    n_Queue_ring := He.noat_ok (c.fact 33 (f := fun K => (He.Fa.noat "Queue" "ring").ok K) rfl),
    n_Queue_sent := He.noat_ok (c.fact 34 (f := fun K => (He.Fa.noat "Queue" "sent").ok K) rfl),
    n_Queue_stages := He.noat_ok (c.fact 35 (f := fun K => (He.Fa.noat "Queue" "stages").ok K) rfl),
    n_Queue_width := He.noat_ok (c.fact 36 (f := fun K => (He.Fa.noat "Queue" "width").ok K) rfl),
    n_Queue_window := He.noat_ok (c.fact 37 (f := fun K => (He.Fa.noat "Queue" "window").ok K) rfl),
    n_Queue_writer_view := He.noat_ok (c.fact 38 (f := fun K => (He.Fa.noat "Queue" "writer_view").ok K) rfl),
    m_Queue_cell_cube := He.meth_ok (c.fact 39 (f := fun K => (He.Fa.meth "Queue" "_cell_cube").ok K) rfl),
    m_Queue_content := He.meth_ok (c.fact 40 (f := fun K => (He.Fa.meth "Queue" "_content").ok K) rfl),
    m_Queue_count_cube := He.meth_ok (c.fact 41 (f := fun K => (He.Fa.meth "Queue" "_count_cube").ok K) rfl),
    m_Queue_is_full := He.meth_ok (c.fact 42 (f := fun K => (He.Fa.meth "Queue" "_is_full").ok K) rfl),
    m_Queue_read_cube := He.meth_ok (c.fact 43 (f := fun K => (He.Fa.meth "Queue" "_read_cube").ok K) rfl),
    m_Queue_write_cube := He.meth_ok (c.fact 44 (f := fun K => (He.Fa.meth "Queue" "_write_cube").ok K) rfl),
    m_Queue_read_edge := He.meth_ok (c.fact 45 (f := fun K => (He.Fa.meth "Queue" "read_edge").ok K) rfl),
    m_Queue_write_edge := He.meth_ok (c.fact 46 (f := fun K => (He.Fa.meth "Queue" "write_edge").ok K) rfl),
    k_Queue := He.mkr_ok (c.fact 47 (f := fun K => (He.Fa.mkr "Queue").ok K) rfl),
    p_Queue_stored := prop_ok (c.fact 48 (f := fun K => propB K "Queue" "stored") rfl),
    g_law := He.glo_ok X G (c.fact 49 (f := fun K => (He.Fa.glo "law").ok K) rfl),
    fd_law_numbers := fd0, F_law_numbers := F0,
    fd_law_cell := fd1, F_law_cell := F1,
    fd_law_schedule := fd2, F_law_schedule := F2,
    fd_law_edges := fd3, F_law_edges := F3,
    fd_law_gaps := fd4, F_law_gaps := F4,
    fd_latest_gaps := fd5, F_latest_gaps := F5,
    fd_law_whole_numbers := fd6, F_law_whole_numbers := F6,
    fd_law_gaps_right := fd7, F_law_gaps_right := F7,
    fd_law_stretch := fd8, F_law_stretch := F8,
    fd_check_ring := fd9, F_check_ring := F9,
    fd_check_words := fd10, F_check_words := F10,
    fd_Queue_init := fd11, F_Queue_init := F11,
    fd_Queue_stored := fd12, F_Queue_stored := F12,
    fd_is_held := fd13, F_is_held := F13,
    fd_may_be_read := fd14, F_may_be_read := F14,
    fd_hull := fd15, F_hull := F15,
    fd_Queue__count_cube := fd16, F_Queue__count_cube := F16,
    fd_Queue__write_cube := fd17, F_Queue__write_cube := F17,
    fd_Queue__is_full := fd18, F_Queue__is_full := F18,
    fd_Queue_write_edge := fd19, F_Queue_write_edge := F19,
    fd_Queue__read_cube := fd20, F_Queue__read_cube := F20,
    fd_Queue__content := fd21, F_Queue__content := F21,
    fd_Queue__cell_cube := fd22, F_Queue__cell_cube := F22,
    fd_Queue_read_edge := fd23, F_Queue_read_edge := F23,
    fd_law_queue_right := fd24, F_law_queue_right := F24,
    fd_law := fd25, F_law := F25 }⟩
end K62
end
section
open PySem L2 Fn
local macro_rules | `(tactic| walk_at "ev1") => `(tactic| first
  | with_reducible refine okS_seq ?_
  | with_reducible refine then_nx ?_
  | with_reducible refine then_rt ?_
  | with_reducible refine then_bk ?_
  | with_reducible refine then_ct ?_
  | with_reducible refine okE_c ?_
  | ((with_reducible refine okE_var (x := ?x) ?h ?q); (case h => exact rfl))
  | with_reducible refine okE_bin ?_
  | with_reducible refine okT_cmp ?_
  | with_reducible refine okE_cmp ?_
  | ((with_reducible refine okS_set ?_); dsimp only [List.set_cons_zero, List.set_cons_succ])
  | with_reducible refine okS_if ?_
  | with_reducible refine ite_t ?_
  | with_reducible refine ite_f ?_
  | ((with_reducible refine ite_no ?e ?q); (case e => exact rfl))
  | ((with_reducible refine ite_yes ?e ?q); (case e => exact rfl))
  | with_reducible refine okS_ret ?_
  | with_reducible refine okS_exp ?_
  | with_reducible refine okS_nil ?_
  | with_reducible refine okS_for ?_
  | with_reducible refine okA_nil ?_
  | with_reducible refine okA_cons ?_
  | with_reducible refine okE_b ?_
  | with_reducible refine okF_b ?_
  | with_reducible refine okE_frz ?_
  | ((with_reducible refine okE_cell ?_); (try dsimp only [List.length_cons, List.length_nil, List.cons_append, List.nil_append, Nat.reduceAdd]))
  | with_reducible refine okF_lst ?_
  | with_reducible refine okE_tup ?_
  | with_reducible refine okF_add ?_
  | with_reducible refine okF_sl ?_
  | with_reducible refine okE_sl ?_
  | with_reducible refine okN_no ?_
  | with_reducible refine okN_pt ?_
  | with_reducible refine int_is ?_
  | with_reducible refine bool_is ?_
  | with_reducible refine okE_neg ?_
  | with_reducible refine okE_not ?_
  | with_reducible refine okE_and ?_
  | with_reducible refine okE_or ?_
  | with_reducible refine okE_if ?_
  | with_reducible refine okT_val ?_
  | with_reducible refine okT_tru ?_
  | with_reducible refine okT_not ?_
  | with_reducible refine okT_and ?_
  | with_reducible refine okT_or ?_
  | with_reducible refine okT_yes ?_
  | with_reducible refine okE_isi ?_
  | with_reducible refine okE_call ?_
  | with_reducible refine okE_callN ?_
  | with_reducible refine okE_m ?_
  | with_reducible refine okE_dget ?_
  | with_reducible refine okE_din ?_
  | with_reducible refine okE_dnew ?_
  | with_reducible refine okP_nil ?_
  | with_reducible refine okP_cons ?_
  | with_reducible refine okE_dict ?_
  | with_reducible refine okE_fld ?_
  | with_reducible refine okE_meth ?_
  | with_reducible refine okE_prop ?_
  | with_reducible refine okE_make ?_
  | ((with_reducible refine okS_set2 ?_); dsimp only [List.set_cons_zero, List.set_cons_succ])
  | with_reducible refine okS_brk ?_
  | with_reducible refine okS_cnt ?_
  | with_reducible refine okS_retN ?_
  | ((with_reducible refine okS_aug (x := ?x) ?h ?q); (case h => exact rfl))
  | with_reducible refine okS_dput ?_
  | ((with_reducible refine dput_mk (kvs := ?kvs) (kk := ?kk) ?a ?b ?q ?l); (case a => exact rfl); (case b => exact rfl); (case l => simp only [List.length_cons, List.length_nil]; decide); try dsimp only [List.set_cons_zero, List.set_cons_succ])
  | with_reducible refine okS_fld ?_
  | with_reducible refine okS_asg ?_
  | with_reducible refine okE_d ?_
  | with_reducible refine okF_comp ?_
  | with_reducible refine okI_val ?_
  | with_reducible refine okI_range1 ?_
  | with_reducible refine okI_range2 ?_
  | with_reducible refine zip_mk ?_
  | with_reducible refine enum_mk ?_
  | with_reducible refine one_int ?_
  | with_reducible refine two_int ?_
  | with_reducible refine two_str ?_
  | with_reducible refine one_any ?_
  | with_reducible refine v_addI ?_
  | with_reducible refine v_subI ?_
  | with_reducible refine v_cint ?_
  | with_reducible refine v_eqI ?_
  | with_reducible refine v_neI ?_
  | with_reducible refine v_eqB ?_
  | with_reducible refine v_neB ?_
  | with_reducible refine v_eqS ?_
  | with_reducible refine v_neS ?_
  | with_reducible refine v_lenL ?_
  | with_reducible refine v_lenR ?_
  | (with_reducible refine v_ixL ?_)
  | (with_reducible refine v_ixT ?_)
  | (with_reducible refine v_ixR ?_)
  | ((with_reducible refine v_ixC (xs := ?xs) ?h ?q); (case h => exact rfl))
  | ((with_reducible refine v_lenC (xs := ?xs) ?h ?q); (case h => exact rfl))
  | ((with_reducible refine v_slC (xs := ?xs) ?h ?q); (case h => exact rfl))
  | with_reducible refine v_slL ?_
  | with_reducible refine v_slR ?_
  | ((with_reducible refine v_addL ?q ?h); (case h => first | decide | (simp only [List.length_append, List.length_map, List.length_cons, List.length_nil, List.length_take, List.length_replicate, sizeLine]; omega)))
  | ((with_reducible refine v_modI ?q ?h); (case h => first | decide | omega))
  | ((with_reducible refine v_divI ?q ?h ?k ?l); (case h => first | decide | omega); (case k => first | decide | omega); (case l => first | decide | omega))
  | ((with_reducible refine v_int ?q ?h); (case h => decide))
  | ((with_reducible refine v_app (ds := ?ds) ?h ?q ?l); (case h => exact rfl); (case l => first | decide | (simp only [List.length_map, List.length_append, List.length_cons, List.length_nil, sizeLine]; omega)); try dsimp only [List.set_cons_zero, List.set_cons_succ])
  | ((with_reducible refine v_mulI ?q ?h); (case h => first | exact Or.inr (by decide) | exact Or.inl (by decide)))
  | ((with_reducible refine okO_mk (x := ?x) (o := allD _) ?e ?q); (case e => exact rfl))
  | ((with_reducible refine okO_mk (x := ?x) (o := bInt _ _) ?e ?q); (case e => exact rfl))
  | ((with_reducible refine okO_mk (x := ?x) (o := bMax _ _) ?e ?q); (case e => exact rfl))
  | ((with_reducible refine okO_mk (x := ?x) (o := bMin _ _) ?e ?q); (case e => exact rfl))
  | ((with_reducible refine okO_mk (x := ?x) (o := bList _ _) ?e ?q); (case e => exact rfl))
  | ((with_reducible refine okO_mk (x := ?x) (o := seqL _ _) ?e ?q); (case e => exact rfl))
  | ((with_reducible refine okO_mk (x := ?x) (o := trkL _ _) ?e ?q); (case e => exact rfl))
  | ((with_reducible refine okO_mk (x := ?x) (o := items _ _) ?e ?q); (case e => exact rfl))
  | ((with_reducible refine okO_mk (x := ?x) (o := src _ _) ?e ?q); (case e => exact rfl))
  | ((with_reducible refine okO_mk (x := ?x) (o := cIsN _ _ _) ?e ?q); (case e => exact rfl))
  | ((with_reducible refine okO_mk (x := ?x) (o := cNotN _ _ _) ?e ?q); (case e => exact rfl))
  | ((with_reducible refine okO_mk (x := ?x) (o := cIsB _ _ _ _) ?e ?q); (case e => exact rfl))
  | ((with_reducible refine okO_mk (x := ?x) (o := keyOf _) ?e ?q); (case e => exact rfl))
  | ((with_reducible refine okO_mk (x := ?x) (o := dctAt _ _) ?e ?q); (case e => exact rfl))
  | ((with_reducible refine okO_mk (x := ?x) (o := valA _ _) ?e ?q); (case e => exact rfl); try dsimp only)
  | ((with_reducible refine okO_mk (x := ?x) (o := insAt _ _ _) ?e ?q); (case e => exact rfl))
  | ((with_reducible refine okO_mk (x := ?x) (o := List.lookup _ _) ?e ?q); (case e => exact rfl); try dsimp only)
  | ((with_reducible refine okO_mk (x := ?x) (o := tyA _ _) ?e ?q); (case e => exact rfl))
  | ((with_reducible refine okO_mk (x := ?x) (o := kitB _ _) ?e ?q); (case e => exact rfl))
  | ((with_reducible refine okO_mk (x := ?x) (o := gN _ _ _) ?e ?q); (case e => exact rfl); try dsimp only [List.set_cons_zero, List.set_cons_succ])
  | ((with_reducible refine okO_mk (x := ?x) (o := gT _ _ _ _) ?e ?q); (case e => exact rfl); try dsimp only [List.set_cons_zero, List.set_cons_succ])
  | with_reducible refine v_truB ?_
  | with_reducible refine v_truI ?_
  | with_reducible refine v_truN ?_
  | with_reducible refine v_truL ?_
  | ((with_reducible refine And.intro ?k ?q); (case k => first | exact kind_s | exact kind_l rfl))
  | ((with_reducible refine And.intro (b := List.length _ < 1000) ?q ?h); (case h => exact of_decide_eq_true rfl); try dsimp only [List.set_cons_zero, List.set_cons_succ])
  | ((with_reducible refine And.intro ?q ?h); (case h => first | decide | (simp only [List.length_cons, List.length_nil]; decide)))
  | ((with_reducible refine And.intro (a := List.lookup _ _ = none) ?k ?q); (case k => exact rfl))
  | ((with_reducible refine And.intro (a := _ ∧ _) ?k ?q); (case k => exact ⟨rfl, rfl⟩))
  | ((with_reducible refine okO_mk (x := ?x) (o := srcA _ _) ?e ?q); (case e => exact rfl); try dsimp only)
  | ((with_reducible refine at_mk (z := ?z) ?a ?b ?q); (case a => decide); (case b => exact rfl))
  | ((with_reducible refine okO_mk (x := ?x) (o := oAddI _ _ _) ?e ?q); (case e => exact rfl); try dsimp only [List.set_cons_zero, List.set_cons_succ])
  | with_reducible refine mid_nx ?_
  | with_reducible refine turn_nx ?_
  | with_reducible refine turn_ct ?_
  | with_reducible refine turn_bk ?_
  | with_reducible refine turn_rt ?_)
local macro_rules | `(tactic| walk_at "ev") => `(tactic| repeat walk_at "ev1")
local macro_rules | `(tactic| walk_at "start") => `(tactic| simp only [startE, List.map, List.length, List.replicate, List.cons_append, List.nil_append, Nat.reduceSub, Nat.reduceAdd])
namespace K62
theorem cell_ok (ns : List Int) (k : Nat) : d_law_cell [.ro (ns.map PyData.int), .d (.int k)] [] = some (.d (.int (ns.getD k 0)), []) := by
  refine den_frz (body := b_law_cell) (np := 2) (nN := 2) rfl ?_
  walk_at "start"
  unfold b_law_cell
  walk_at "ev"
  refine ite_mk (fun h => ?_) (fun h => ?_)
  · have hk : k < ns.length := by simpa using h
    walk_at "ev"
    refine at_mk (z := .int ns[k]) (by omega) (by simp [hk]) ?_
    walk_at "ev"
    refine outD_d ?_
    simp [hk]
  · have hk : ¬ k < ns.length := by simpa using h
    walk_at "ev"
    refine outD_d ?_
    simp [List.getD, hk, List.getElem?_eq_none (Nat.le_of_not_lt hk)]
theorem numbers_ok (cell base : Int) (n : Nat) (hn : n < 1000) (h0 : 0 < base) (h1 : base < 1000000) : ∃ l : List Int, d_law_numbers [.d (.int cell), .d (.int base), .d (.int n)] [] = some (.d (.list (l.map PyData.int)), []) ∧ l.length = n ∧ ∀ x ∈ l, 0 ≤ x ∧ x < base := by
  have key : ∃ x, d_law_numbers [.d (.int cell), .d (.int base), .d (.int n)] [] = some (.d x, []) ∧ ∃ l : List Int, x = .list (l.map PyData.int) ∧ l.length = n ∧ ∀ x ∈ l, 0 ≤ x ∧ x < base := by
    refine den_q (body := b_law_numbers) (np := 3) (nN := 7) rfl ?_
    walk_at "start"
    unfold b_law_numbers
    walk_at "ev"
    refine ⟨?_, by simp only [B62]; omega, by simp only [B62]; omega⟩
    refine okS_forL (fun pre env cs => ∃ (l : List Int) (rest mixed : Int) (k : Option A), env = [some (.d (.int cell)), some (.d (.int base)), some (.d (.int n)), some (.loc 0), some (.d (.int rest)), some (.d (.int mixed)), k] ∧ cs = [.lst (l.map PyData.int)] ∧ l.length = pre.length ∧ ∀ x ∈ l, 0 ≤ x ∧ x < base)
      ⟨[], cell, _, none, rfl, rfl, rfl, by simp⟩ (fun _ _ _ _ => rfl) ?_ ?_
    · rintro pre x post env cs e ⟨l, rest, mixed, k, rfl, rfl, hl, hx⟩
      have hp : pre.length < 1000 := by
        have := congrArg List.length e
        simp [rngD] at this; omega
      obtain ⟨i, rfl⟩ : ∃ i : Int, x = .int i := by
        have : x ∈ rngD 0 ((n : Int)).toNat := by rw [e]; simp
        simp only [rngD, List.mem_map] at this
        obtain ⟨j, _, rfl⟩ := this
        exact ⟨_, rfl⟩
      have hb : ∀ z : Int, 0 ≤ z.fmod base ∧ z.fmod base < base := fun z => ⟨Int.fmod_nonneg_of_pos _ h0, Int.fmod_lt_of_pos _ h0⟩
      have hb0 : (decide (base ≠ 0)) = true := by simp; omega
      have fin : ∀ (z rest' mixed' : Int) , ∃ (l' : List Int) (rest mixed : Int) (k : Option A), [some (A.d (.int cell)), some (.d (.int base)), some (.d (.int n)), some (.loc 0), some (.d (.int rest')), some (.d (.int mixed')), some (.d (.int i))] = [some (.d (.int cell)), some (.d (.int base)), some (.d (.int n)), some (.loc 0), some (.d (.int rest)), some (.d (.int mixed)), k] ∧ [Cell.lst (l.map PyData.int ++ [.int (z.fmod base)])] = [.lst (l'.map PyData.int)] ∧ l'.length = (pre ++ [PyData.int i]).length ∧ ∀ x ∈ l', 0 ≤ x ∧ x < base :=
        fun z r m => ⟨l ++ [z.fmod base], r, m, _, rfl, by simp, by simp [hl], by
          intro x hx'
          rcases List.mem_append.mp hx' with h | h
          · exact hx x h
          · rw [List.mem_singleton.mp h]; exact hb z⟩
      walk_at "ev"
      refine ite_mk (fun h => ?_) (fun h => ?_)
      · walk_at "ev"
        refine ite_mk (fun h => ?_) (fun h => ?_)
        · walk_at "ev"
          exact fin _ _ _
        · walk_at "ev"
          exact fin _ _ _
      · walk_at "ev"
        exact fin _ _ _
    · rintro env cs ⟨l, rest, mixed, k, rfl, rfl, hl, hx⟩
      walk_at "ev"
      exact outQ_l rfl ⟨l, rfl, by rw [hl]; simp [rngD], hx⟩
  obtain ⟨x, e, l, rfl, q⟩ := key
  exact ⟨l, e, q⟩

theorem mem_cut {xs : List D} {a b : Option Int} {x : D} (h : x ∈ cutD xs a b) : x ∈ xs := List.mem_of_mem_drop (List.mem_of_mem_take h)
theorem cut_len (xs : List D) (a b : Option Int) : (cutD xs a b).length ≤ xs.length := by
  unfold cutD
  simp only [List.length_take, List.length_drop]
  omega
def isWR (l : List Nat) : Prop := ∀ c ∈ l, c = 119 ∨ c = 114
theorem wr_at (i : Int) (h0 : 0 ≤ i) (h1 : i < 2) : ∃ c, atI (Str.cps ("wr" : Str)).toList i = some c ∧ (c = 119 ∨ c = 114) := by
  have : i = 0 ∨ i = 1 := by omega
  rcases this with rfl | rfl
  · exact ⟨119, rfl, .inl rfl⟩
  · exact ⟨114, rfl, .inr rfl⟩
theorem wr2_at (i : Int) (h0 : 0 ≤ i) (h1 : i < 2) : ∃ l, atI [PyData.str "wr", PyData.str "rw"] i = some (.str (txt l)) ∧ isWR l ∧ l.length = 2 := by
  have : i = 0 ∨ i = 1 := by omega
  rcases this with rfl | rfl
  · exact ⟨[119, 114], rfl, by simp [isWR], rfl⟩
  · exact ⟨[114, 119], rfl, by simp [isWR], rfl⟩
def wr2 (i : Int) : List Nat := if i = 0 then [119, 114] else [114, 119]
theorem wr2_is (i : Int) (h0 : 0 ≤ i) (h1 : i < 2) : atI [PyData.str "wr", PyData.str "rw"] i = some (.str (txt (wr2 i))) := by
  have : i = 0 ∨ i = 1 := by omega
  rcases this with rfl | rfl <;> rfl
theorem wr2_wr (i : Int) : isWR (wr2 i) ∧ (wr2 i).length = 2 := by
  unfold wr2
  split <;> simp [isWR]
theorem mod_in (z b : Int) (h : 0 < b) : 0 ≤ z.fmod b ∧ z.fmod b < b := ⟨Int.fmod_nonneg_of_pos _ h, Int.fmod_lt_of_pos _ h⟩
theorem isWR_rep {l : List Nat} (n : Nat) (h : isWR l) : isWR (List.replicate n l).flatten := by
  intro c hc
  simp only [List.mem_flatten, List.mem_replicate] at hc
  obtain ⟨l', ⟨_, rfl⟩, hc⟩ := hc
  exact h c hc
theorem rep_len (l : List Nat) (n : Nat) : (List.replicate n l).flatten.length = n * l.length := by simp
theorem schedule_ok (a b c : Int) (l : List Int) (hl2 : l.length ≤ 100) : ∃ w : List Nat, d_law_schedule [.d (.list ((a :: b :: c :: l).map PyData.int))] [] = some (.d (.str (txt w)), []) ∧ isWR w ∧ w.length ≤ 206 := by
  have key : ∃ x, d_law_schedule [.d (.list ((a :: b :: c :: l).map PyData.int))] [] = some (.d x, []) ∧ ∃ w : List Nat, x = .str (txt w) ∧ isWR w ∧ w.length ≤ 206 := by
    refine den_q (body := b_law_schedule) (np := 1) (nN := 4) rfl ?_
    simp only [List.map_cons]
    walk_at "start"
    unfold b_law_schedule
    walk_at "ev"
    refine okS_forL (fun pre env cs => ∃ (w : List Nat) (k : Option A), env = [some (A.d (.list (.int a :: .int b :: .int c :: l.map PyData.int))), some (.d (.str (txt w))), k, none] ∧ cs = [] ∧ w.length = pre.length ∧ isWR w)
      ⟨[], none, rfl, rfl, rfl, by simp [isWR]⟩ (fun _ _ _ _ => rfl) ?_ ?_
    · rintro pre x post env cs e ⟨w, k, rfl, rfl, hw, hr⟩
      have hp : pre.length < 103 := by
        have e1 := congrArg List.length e
        have e2 := cut_len (.int a :: .int b :: .int c :: l.map PyData.int) (some 1) (some (2 + a.fmod 12))
        rw [e1] at e2
        simp at e2; omega
      obtain ⟨i, rfl⟩ : ∃ i : Int, x = .int i := by
        have : x ∈ cutD (.int a :: .int b :: .int c :: l.map PyData.int) (some 1) (some (2 + a.fmod 12)) := by rw [e]; simp
        have := mem_cut this
        simp only [List.mem_cons, List.mem_map] at this
        rcases this with rfl | rfl | rfl | ⟨j, _, rfl⟩ <;> exact ⟨_, rfl⟩
      walk_at "ev"
      refine v_ixS ?_ (by decide)
      obtain ⟨z, hz, hz2⟩ := wr_at _ (mod_in i 2 (by decide)).1 (mod_in i 2 (by decide)).2
      refine okO_mk hz ?_
      walk_at "ev"
      refine v_addS ?_ (by rw [txt_len]; show w.length + 1 ≤ _; simp only [sizeLine]; omega)
      walk_at "ev"
      rw [sgn_txt, txt_app]
      refine ⟨w ++ [z], _, rfl, rfl, by simp [hw], ?_⟩
      intro c hc
      rcases List.mem_append.mp hc with h | h
      · exact hr c h
      · rw [List.mem_singleton.mp h]; exact hz2
    · rintro env cs ⟨w, k, rfl, rfl, hw, hr⟩
      have hp : w.length ≤ 103 := by
        have e2 := cut_len (.int a :: .int b :: .int c :: l.map PyData.int) (some 1) (some (2 + a.fmod 12))
        rw [hw]; simp at e2; omega
      clear hw
      walk_at "ev"
      have ha := fun z => mod_in z 6 (by decide)
      have h2 := fun z => mod_in z 2 (by decide)
      have hB : ∀ z : Int, (1 + z.fmod 6).toNat ≤ 6 := fun z => by have := ha z; omega
      have fin : ∀ w : List Nat, isWR w → w.length ≤ 206 → outQ (fun x => ∃ w : List Nat, x = .str (txt w) ∧ isWR w ∧ w.length ≤ 206) (.rt (.d (.str (txt w)))) [] := fun w h1 h2 => ⟨w, rfl, h1, h2⟩
      refine ite_mid (fun env cs => ∃ (w : List Nat) (k2 : Option A) (kd : Int), env = [some (A.d (.list (.int a :: .int b :: .int c :: l.map PyData.int))), some (.d (.str (txt w))), k2, some (.d (.int kd))] ∧ cs = [] ∧ isWR w ∧ w.length ≤ 206) (ite_mk (fun _ => ?_) (fun _ => ?_)) ?_
      · walk_at "ev"
        refine v_mulS ?_ ⟨by have := ha b; simp only [B63]; omega, by have := ha b; simp only [B63]; omega, by have := hB b; show 1 * _ ≤ 16777216; omega⟩
        walk_at "ev"
        refine v_mulS ?_ ⟨by have := ha c; simp only [B63]; omega, by have := ha c; simp only [B63]; omega, by have := hB c; show 1 * _ ≤ 16777216; omega⟩
        walk_at "ev"
        rw [show (Str.ofString "w") = txt [119] from rfl, show (Str.ofString "r") = txt [114] from rfl, txt_rep, txt_rep]
        have r1 := rep_len [119] (1 + b.fmod 6).toNat
        have r2 := rep_len [114] (1 + c.fmod 6).toNat
        have := hB b
        have := hB c
        refine v_addS ?_ (by rw [txt_len, txt_len, r1, r2]; simp only [sizeLine, List.length_singleton]; omega)
        walk_at "ev"
        refine ⟨_, _, _, by rw [txt_app], rfl, ?_, by rw [List.length_append, r1, r2]; simp only [List.length_singleton]; omega⟩
        intro z hz
        rcases List.mem_append.mp hz with h | h
        · exact isWR_rep _ (by simp [isWR]) z h
        · exact isWR_rep _ (by simp [isWR]) z h
      · walk_at "ev"
        exact ⟨w, _, _, rfl, rfl, hr, by omega⟩
      rintro env cs ⟨w, k2, kd, rfl, rfl, hr, hp⟩
      walk_at "ev"
      refine ite_mid (fun env cs => ∃ (w : List Nat) (k2 : Option A) (kd : Int), env = [some (A.d (.list (.int a :: .int b :: .int c :: l.map PyData.int))), some (.d (.str (txt w))), k2, some (.d (.int kd))] ∧ cs = [] ∧ isWR w ∧ w.length ≤ 206) (ite_mk (fun _ => ?_) (fun _ => ?_)) ?_
      · walk_at "ev"
        obtain ⟨u, hu, hu2, hu3⟩ := wr2_at _ (h2 b).1 (h2 b).2
        refine okO_mk hu ?_
        walk_at "ev"
        have := hB c
        refine v_mulS ?_ ⟨by have := ha c; simp only [B63]; omega, by have := ha c; simp only [B63]; omega, by rw [txt_len, hu3]; simp only [sizeLine]; omega⟩
        walk_at "ev"
        rw [txt_rep]
        exact ⟨_, _, _, rfl, rfl, isWR_rep _ hu2, by rw [rep_len, hu3]; omega⟩
      · walk_at "ev"
        exact ⟨w, _, _, rfl, rfl, hr, by omega⟩
      rintro env cs ⟨w, k2, kd, rfl, rfl, hr, hp⟩
      walk_at "ev"
      refine ite_mid (fun env cs => ∃ (w : List Nat) (k2 : Option A) (kd : Int), env = [some (A.d (.list (.int a :: .int b :: .int c :: l.map PyData.int))), some (.d (.str (txt w))), k2, some (.d (.int kd))] ∧ cs = [] ∧ isWR w ∧ w.length ≤ 206) (ite_mk (fun _ => ?_) (fun _ => ?_)) ?_
      · walk_at "ev"
        have hL : (cutD (.int a :: .int b :: .int c :: l.map PyData.int) (some 1) (some (2 + c.fmod 6))).length ≤ 103 := by
          have := cut_len (.int a :: .int b :: .int c :: l.map PyData.int) (some 1) (some (2 + c.fmod 6))
          simp at this; omega
        refine ⟨?_, by simp only [sizeLine]; omega⟩
        let fn : D → List Nat := fun x => match x with
          | .int j => wr2 ((j.fdiv 2).fmod 2)
          | _ => wr2 0
        have hfn : ∀ x, isWR (fn x) ∧ (fn x).length = 2 := fun x => by
          cases x <;> exact wr2_wr _
        refine okO_mk (comp_map (fun _ => true) (fun x => .str (txt (fn x))) rfl _ ?_) ?_
        · intro x hx
          obtain ⟨i, rfl⟩ : ∃ i : Int, x = .int i := by
            have := mem_cut hx
            simp only [List.mem_cons, List.mem_map] at this
            rcases this with rfl | rfl | rfl | ⟨j, _, rfl⟩ <;> exact ⟨_, rfl⟩
          simp only [wipeE, List.set_cons_zero, List.set_cons_succ]
          walk_at "ev"
          refine ⟨rfl, rfl, fun _ => ?_⟩
          walk_at "ev"
          refine okO_mk (wr2_is _ (h2 _).1 (h2 _).2) ?_
          exact ⟨rfl, rfl⟩
        · walk_at "ev"
          have e1 : ((cutD (.int a :: .int b :: .int c :: l.map PyData.int) (some 1) (some (2 + c.fmod 6))).filter fun _ => true).map (fun x => PyData.str (txt (fn x))) = (cutD (.int a :: .int b :: .int c :: l.map PyData.int) (some 1) (some (2 + c.fmod 6))).map (fun x => PyData.str (txt (fn x))) := by rw [List.filter_eq_self.mpr (fun _ _ => rfl)]
          dsimp only
          rw [e1]
          generalize cutD (.int a :: .int b :: .int c :: l.map PyData.int) (some 1) (some (2 + c.fmod 6)) = ys at hL
          have hs : ((ys.map fun x => txt (fn x)).map (·.length)).sum = 2 * ys.length := by
            clear hL e1
            induction ys with
            | nil => rfl
            | cons y ys ih => simp only [List.map_cons, List.sum_cons, List.length_cons, ih, txt_len, (hfn y).2]; omega
          have hj : Str.join (Str.ofString "") (ys.map fun x => txt (fn x)) = txt (ys.map fn).flatten := by
            have := join_txt (ys.map fn)
            rw [List.map_map] at this
            exact this
          refine v_join (ds := ys.map fun x => PyData.str (txt (fn x))) (ys := ys.map fun x => txt (fn x)) rfl (allS_map _ _) ?_ ?_
          · rw [hj]
            refine ⟨_, _, _, rfl, rfl, ?_, ?_⟩
            · intro z hz
              simp only [List.mem_flatten, List.mem_map] at hz
              obtain ⟨_, ⟨y, _, rfl⟩, hz⟩ := hz
              exact (hfn y).1 z hz
            · have : (ys.map fn).flatten.length = 2 * ys.length := by
                clear hL hs hj e1
                induction ys with
                | nil => rfl
                | cons y ys ih => simp only [List.map_cons, List.flatten_cons, List.length_append, List.length_cons, ih, (hfn y).2]; omega
              omega
          · rw [hs]; simp only [List.length_map]; show 2 * ys.length + ys.length * 0 ≤ _; omega
      · walk_at "ev"
        exact ⟨w, _, _, rfl, rfl, hr, by omega⟩
      rintro env cs ⟨w, k2, kd, rfl, rfl, hr, hp⟩
      walk_at "ev"
      exact ⟨w, rfl, hr, hp⟩
  obtain ⟨x, e, l, rfl, q⟩ := key
  exact ⟨l, e, q⟩

/-! the queue's counts, as a machine -/
structure Mc where
  nw : Nat
  nr : Nat
  bw : List Nat
  br : List Nat
  vw : List Nat
  vr : List Nat
def Mc.start (st : Nat) : Mc := ⟨0, 0, [], [], List.replicate st 0, List.replicate st 0⟩
/-- the last of x and of the first n of xs -/
def lastOf (n x : Nat) (xs : List Nat) : Nat := (x :: xs.take n).getLast (by simp)
structure Ed where
  side : Bool
  read : Nat
  known : Nat
  now : Nat
def sideS (b : Bool) : Str := if b then "w" else "r"
def Ed.d (e : Ed) : D := .tuple [.str (sideS e.side), .int e.read, .int e.known, .int e.now]
def Mc.edge (st wi : Nat) (m : Mc) (side : Bool) : Ed :=
  let read := if side then lastOf wi m.nr m.br else lastOf wi m.nw m.bw
  ⟨side, read, (read :: (if side then m.vw else m.vr)).getLast (by simp), if side then m.nw else m.nr⟩
def Mc.step (st wi : Nat) (m : Mc) (side : Bool) : Mc :=
  let e := m.edge st wi side
  if side then ⟨m.nw + 1, m.nr, m.nw :: m.bw, [], (e.read :: m.vw).dropLast, m.vr⟩
  else ⟨m.nw, m.nr + (if e.known > m.nr then 1 else 0), [], m.nr :: m.br, m.vw, (e.read :: m.vr).dropLast⟩
def run (st wi : Nat) : Mc → List Bool → Mc × List Ed
  | m, [] => (m, [])
  | m, s :: ss => let r := run st wi (m.step st wi s) ss; (r.1, m.edge st wi s :: r.2)
def runE (st wi : Nat) (ss : List Bool) : List Ed := (run st wi (.start st) ss).2
def runM (st wi : Nat) (ss : List Bool) : Mc := (run st wi (.start st) ss).1
theorem run_app (st wi : Nat) : ∀ (m : Mc) (a b : List Bool), run st wi m (a ++ b) = ((run st wi (run st wi m a).1 b).1, (run st wi m a).2 ++ (run st wi (run st wi m a).1 b).2)
  | m, [], b => rfl
  | m, s :: a, b => by
    have ih := run_app st wi (m.step st wi s) a b
    simp only [List.cons_append, run, ih]
theorem run_snoc (st wi : Nat) (a : List Bool) (s : Bool) : runM st wi (a ++ [s]) = (runM st wi a).step st wi s ∧ runE st wi (a ++ [s]) = runE st wi a ++ [(runM st wi a).edge st wi s] := by
  unfold runM runE
  rw [run_app]
  exact ⟨rfl, rfl⟩
theorem run_len (st wi : Nat) : ∀ (m : Mc) (a : List Bool), (run st wi m a).2.length = a.length
  | m, [] => rfl
  | m, s :: a => by simp [run, run_len st wi (m.step st wi s) a]

def code (b : Bool) : Nat := if b then 119 else 114
theorem wr_code : ∀ l : List Nat, isWR l → ∃ bs : List Bool, l = bs.map code
  | [], _ => ⟨[], rfl⟩
  | c :: l, h => by
    obtain ⟨bs, rfl⟩ := wr_code l fun x hx => h x (List.mem_cons_of_mem _ hx)
    rcases h c List.mem_cons_self with rfl | rfl
    · exact ⟨true :: bs, rfl⟩
    · exact ⟨false :: bs, rfl⟩
def sideD (b : Bool) : D := .str ⟨#[code b]⟩
abbrev natD (k : Nat) : D := .int k
theorem sideD_inj : ∀ {a b : Bool}, sideD a = sideD b → a = b
  | true, true, _ => rfl
  | false, false, _ => rfl
  | true, false, h => by simp [sideD, code] at h
  | false, true, h => by simp [sideD, code] at h
theorem sides_inj : ∀ {a b : List Bool}, a.map sideD = b.map sideD → a = b
  | [], [], _ => rfl
  | [], _ :: _, h => by simp at h
  | _ :: _, [], h => by simp at h
  | x :: a, y :: b, h => by
    simp only [List.map_cons, List.cons.injEq] at h
    rw [sideD_inj h.1, sides_inj h.2]
theorem cut_drop (xs : List D) (k : Nat) : cutD xs (some (k : Int)) none = xs.drop k := by
  unfold cutD
  have e : HT.sIx xs.length 0 (some (k : Int)) = min k xs.length := by
    unfold HT.sIx
    simp
    omega
  rw [e]
  show (xs.drop (min k xs.length)).take (xs.length - min k xs.length) = _
  by_cases h : k ≤ xs.length
  · rw [Nat.min_eq_left h]
    exact List.take_of_length_le (by simp)
  · rw [List.drop_eq_nil_of_le (by omega), List.drop_eq_nil_of_le (by omega)]; simp
structure Inv (st : Nat) (m : Mc) (hw hr : List Nat) (mw mr : Nat) (rw rr : List Nat) : Prop where
  a : (hr.drop mw).reverse = m.nr :: m.br
  b : (hw.drop mr).reverse = m.nw :: m.bw
  c : m.vw = (rw.reverse ++ List.replicate st 0).take st
  d : m.vr = (rr.reverse ++ List.replicate st 0).take st
theorem read_is (wi x : Nat) (xs since : List Nat) (h : since.reverse = x :: xs) : okO (atI (since.map natD) (if ((since.map natD).length : Int) - 1 - (wi : Int) > 0 then ((since.map natD).length : Int) - 1 - (wi : Int) else 0)) fun z => z = natD (lastOf wi x xs) := by
  have hl : since.length = xs.length + 1 := by have := congrArg List.length h; simpa using this
  have hs : since = (x :: xs).reverse := by rw [← h, List.reverse_reverse]
  let k := if wi ≤ xs.length then xs.length - wi else 0
  have e : (if ((since.map natD).length : Int) - 1 - (wi : Int) > 0 then ((since.map natD).length : Int) - 1 - (wi : Int) else 0) = (k : Nat) := by
    simp only [List.length_map, hl, k]
    split <;> split <;> omega
  rw [e]
  have hk : k < since.length := by simp only [k]; split <;> omega
  refine at_mk (z := natD since[k]) (by omega) (by simp [hk]) ?_
  congr 1
  have e2 : since[k] = (x :: xs)[(x :: xs).length - 1 - k]'(by simp; omega) := by
    simp only [hs, List.getElem_reverse]
  rw [e2]
  unfold lastOf
  rw [List.getLast_eq_getElem]
  simp only [List.length_cons, List.length_take]
  by_cases h1 : wi ≤ xs.length
  · have : k = xs.length - wi := by simp only [k]; rw [if_pos h1]
    have i1 : xs.length + 1 - 1 - k = wi := by omega
    have i2 : min wi xs.length + 1 - 1 = wi := by omega
    simp only [i1, i2]
    cases wi with
    | zero => rfl
    | succ n => simp
  · have : k = 0 := by simp only [k]; rw [if_neg h1]
    have i1 : xs.length + 1 - 1 - k = xs.length := by omega
    have i2 : min wi xs.length + 1 - 1 = xs.length := by omega
    simp only [i1, i2, List.take_of_length_le (Nat.le_of_lt (Nat.lt_of_not_le h1))]
/-- the view's last, told by the reads -/
theorem known_is (st read : Nat) (rs v : List Nat) (hv : v = (rs.reverse ++ List.replicate st 0).take st) (K : Nat) (hK : K = (read :: v).getLast (by simp)) :
    (st ≤ rs.length → (rs ++ [read])[rs.length - st]? = some K) ∧ (rs.length < st → K = 0) ∧ (read :: v).dropLast = ((rs ++ [read]).reverse ++ List.replicate st 0).take st := by
  have hl : v.length = st := by rw [hv]; simp
  have e : read :: v = ((rs ++ [read]).reverse ++ List.replicate st 0).take (st + 1) := by
    rw [hv]; simp
  have e2 : some K = (read :: v)[st]? := by
    rw [hK, ← List.getLast?_eq_some_getLast, List.getLast?_eq_getElem?, List.length_cons, hl, Nat.add_sub_cancel]
  rw [e, List.getElem?_take, if_pos (by omega)] at e2
  refine ⟨fun h => ?_, fun h => ?_, ?_⟩
  · have hb : st < (rs ++ [read]).reverse.length := by simp; omega
    rw [e2, List.getElem?_append_left (l₁ := (rs ++ [read]).reverse) hb, List.getElem?_reverse (l := rs ++ [read]) (by simpa using hb)]
    congr 1
    simp
  · rw [List.getElem?_append_right (by simp; omega), List.getElem?_replicate] at e2
    split at e2
    · exact Option.some.inj e2
    · cases e2
  · rw [List.dropLast_eq_take, List.length_cons, hl, Nat.add_sub_cancel, e, List.take_take]
    simp
theorem last_is {xs ys : List Nat} {k y : Nat} (h : (xs.drop k).reverse = y :: ys) : (xs.map natD).getLast? = some (natD y) := by
  have h := congrArg (fun z : List Nat => z.head?) h
  simp only [List.head?_reverse, List.head?_cons] at h
  rw [List.getLast?_map]
  rw [List.getLast?_drop] at h
  split at h
  · cases h
  · rw [h]; rfl
theorem len_is {xs ys : List Nat} {k y : Nat} (h : (xs.drop k).reverse = y :: ys) : k < xs.length := by
  have := congrArg List.length h
  simp at this
  omega
theorem len_pos {xs ys : List Nat} {k y : Nat} (h : (xs.drop k).reverse = y :: ys) : (xs.length : Int) - 1 = ((xs.length - 1 : Nat) : Int) := by
  have := len_is h
  omega
theorem mark_le {xs ys : List Nat} {k y : Nat} (h : (xs.drop k).reverse = y :: ys) : k ≤ xs.length := Nat.le_of_lt (len_is h)
theorem rest_is {xs ys : List Nat} {k y : Nat} (h : (xs.drop k).reverse = y :: ys) : (xs.drop (xs.length - 1)).reverse = [y] := by
  have h1 := len_is h
  have e : xs.drop k = ys.reverse ++ [y] := by
    have := congrArg List.reverse h
    simpa using this
  have e2 : xs = xs.take k ++ (ys.reverse ++ [y]) := by rw [← e, List.take_append_drop]
  have e3 : xs = (xs.take k ++ ys.reverse) ++ [y] := by rw [List.append_assoc]; exact e2
  generalize xs.take k ++ ys.reverse = zs at e3
  subst e3
  simp
theorem edges_ok (bs : List Bool) (st wi n : Nat) (hb : bs.length ≤ 206) (hn : n ≤ 40) (hst : st ≤ 10) (hwi : wi ≤ 10) :
    d_law_edges [.d (.str (txt (bs.map code))), .d (.int st), .d (.int wi), .d (.int n)] [] = some (.d (.list ((runE st wi (List.replicate n bs).flatten).map Ed.d)), []) := by
  refine den_frz (body := b_law_edges) (np := 4) (nN := 14) rfl ?_
  walk_at "start"
  unfold b_law_edges
  walk_at "ev"
  have hlen : (List.replicate n bs).flatten.length ≤ 8240 := by
    simp
    calc n * bs.length ≤ 40 * 206 := Nat.mul_le_mul hn hb
      _ = 8240 := rfl
  refine v_mulS ?_ ⟨by simp only [B63]; omega, by simp only [B63]; omega, by rw [txt_len, List.length_map, Int.toNat_natCast]; have : bs.length * n ≤ 206 * 40 := Nat.mul_le_mul hb hn; simp only [sizeLine]; omega⟩
  rw [txt_rep, Int.toNat_natCast, ← List.map_replicate, ← List.map_flatten]
  walk_at "ev"
  rw [txt_chars, List.map_map]
  refine okS_forL (fun pre env cs => ∃ (l : List Bool) (hw hr rw rr : List Nat) (mw mr : Nat) (a b c d e f : Option A), pre = l.map sideD ∧
      env = [some (A.d (.str (txt (bs.map code)))), some (.d (.int st)), some (.d (.int wi)), some (.d (.int n)), some (.loc 2), some (.loc 3), some (.loc 6), some (.loc 7), a, b, c, d, e, f] ∧
      cs = [.lst (hw.map natD), .lst (hr.map natD), .dct [(.inr "w", .loc 0), (.inr "r", .loc 1)], .dct [(.inr "w", .d (natD mw)), (.inr "r", .d (natD mr))], .lst (rw.map natD), .lst (rr.map natD), .dct [(.inr "w", .loc 4), (.inr "r", .loc 5)], .lst ((runE st wi l).map Ed.d)] ∧
      Inv st (runM st wi l) hw hr mw mr rw rr ∧ hw.length ≤ l.length + 1 ∧ hr.length ≤ l.length + 1 ∧ rw.length ≤ l.length ∧ rr.length ≤ l.length)
    ⟨[], [0], [0], [], [], 0, 0, none, none, none, none, none, none, rfl, rfl, rfl, ⟨rfl, rfl, by simp [runM, run, Mc.start], by simp [runM, run, Mc.start]⟩, by simp, by simp, by simp, by simp⟩ (fun _ _ _ _ => rfl) ?_ ?_
  · rintro pre x post env cs e ⟨l, hw, hr, rw, rr, mw, mr, a, b, c, d, e', f, rfl, rfl, rfl, hI, l1, l2, l3, l4⟩
    have hpl : l.length < 8240 := by
      have := congrArg List.length e
      simp at this hlen; omega
    obtain ⟨s, rfl⟩ : ∃ s, x = sideD s := by
      have : x ∈ List.map ((fun c => PyData.str ⟨#[c]⟩) ∘ code) (List.replicate n bs).flatten := by rw [e]; simp
      obtain ⟨s, _, rfl⟩ := List.mem_map.mp this
      exact ⟨s, rfl⟩
    obtain ⟨r1, r2⟩ := run_snoc st wi l s
    have hEl : (runE st wi l).length = l.length := run_len _ _ _ _
    cases s with
    | true =>
      have k2 := known_is st (lastOf wi (runM st wi l).nr (runM st wi l).br) rw (runM st wi l).vw hI.c ((runM st wi l).edge st wi true).known rfl
      generalize hKn : ((runM st wi l).edge st wi true).known = Kn at k2
      have hlast : (hw.map natD).getLast? = some (natD (runM st wi l).nw) := last_is hI.b
      have hoth : (hr.length : Int) - 1 = ((hr.length - 1 : Nat) : Int) := len_pos hI.a
      have hrst : (hr.drop (hr.length - 1)).reverse = [(runM st wi l).nr] := rest_is hI.a
      have hmr := mark_le hI.b
      show okO (gN 8 (.str ⟨#[119]⟩) _) _
      walk_at "ev"
      rw [cut_drop, ← List.map_drop]
      refine okO_is (read_is wi _ _ _ hI.a) ?_
      walk_at "ev"
      refine ite_setv 12 (.d (natD Kn)) (fun hc => ?_) (fun hc => ?_) ?_ <;> dsimp only [List.set_cons_zero, List.set_cons_succ]
      · have hc := of_decide_eq_true hc
        walk_at "ev"
        simp only [List.length_append, List.length_map, List.length_singleton] at hc ⊢
        refine at_mk (z := natD Kn) (by omega) ?_ ?_
        · have : (((rw.length + 1 : Nat) : Int) - 1 - (st : Int)).toNat = rw.length - st := by omega
          rw [this, ← List.map_singleton (f := natD), ← List.map_append, List.getElem?_map, k2.1 (by omega)]
          rfl
        · walk_at "ev"
          exact ⟨rfl, rfl⟩
      · have hc := of_decide_eq_false hc
        simp only [List.length_append, List.length_map, List.length_singleton] at hc
        walk_at "ev"
        refine ⟨?_, rfl⟩
        rw [k2.2.1 (by omega)]
        rfl
      · walk_at "ev"
        refine at_last hlast ?_
        walk_at "ev"
        exact ⟨l ++ [true], hw ++ [(runM st wi l).nw + 1], hr, rw ++ [lastOf wi (runM st wi l).nr (runM st wi l).br], rr, hr.length - 1, mr, _, _, _, _, _, _, by simp, rfl, by rw [r2]; simp only [hoth, Ed.d, hKn, List.length_map, List.map_append, List.map_cons, List.map_nil, List.cons.injEq, Cell.lst.injEq, Cell.dct.injEq, and_true, true_and]; exact ⟨by simp, rfl, rfl⟩, by
          rw [r1]
          refine ⟨?_, ?_, k2.2.2, hI.d⟩
          · rw [hrst]; rfl
          · rw [List.drop_append_of_le_length hmr, List.reverse_append, hI.b]; rfl, by simp; omega, by simp; omega, by simp; omega, by simp; omega⟩
    | false =>
      have k2 := known_is st (lastOf wi (runM st wi l).nw (runM st wi l).bw) rr (runM st wi l).vr hI.d ((runM st wi l).edge st wi false).known rfl
      generalize hKn : ((runM st wi l).edge st wi false).known = Kn at k2
      have hlast : (hr.map natD).getLast? = some (natD (runM st wi l).nr) := last_is hI.a
      have hoth : (hw.length : Int) - 1 = ((hw.length - 1 : Nat) : Int) := len_pos hI.b
      have hrst : (hw.drop (hw.length - 1)).reverse = [(runM st wi l).nw] := rest_is hI.b
      have hmr := mark_le hI.a
      show okO (gN 8 (.str ⟨#[114]⟩) _) _
      walk_at "ev"
      rw [cut_drop, ← List.map_drop]
      refine okO_is (read_is wi _ _ _ hI.b) ?_
      walk_at "ev"
      refine ite_setv 12 (.d (natD Kn)) (fun hc => ?_) (fun hc => ?_) ?_ <;> dsimp only [List.set_cons_zero, List.set_cons_succ]
      · have hc := of_decide_eq_true hc
        walk_at "ev"
        simp only [List.length_append, List.length_map, List.length_singleton] at hc ⊢
        refine at_mk (z := natD Kn) (by omega) ?_ ?_
        · have : (((rr.length + 1 : Nat) : Int) - 1 - (st : Int)).toNat = rr.length - st := by omega
          rw [this, ← List.map_singleton (f := natD), ← List.map_append, List.getElem?_map, k2.1 (by omega)]
          rfl
        · walk_at "ev"
          exact ⟨rfl, rfl⟩
      · have hc := of_decide_eq_false hc
        simp only [List.length_append, List.length_map, List.length_singleton] at hc
        walk_at "ev"
        refine ⟨?_, rfl⟩
        rw [k2.2.1 (by omega)]
        rfl
      · walk_at "ev"
        refine at_last hlast ?_
        walk_at "ev"
        exact ⟨l ++ [false], hw, hr ++ [(runM st wi l).nr + (if Kn > (runM st wi l).nr then 1 else 0)], rw, rr ++ [lastOf wi (runM st wi l).nw (runM st wi l).bw], mw, hw.length - 1, _, _, _, _, _, _, by simp, rfl, by
          rw [r2]
          have hadd : ((runM st wi l).nr : Int) + (if decide (((runM st wi l).nr : Int) < (Kn : Int)) = true then 1 else 0) = (((runM st wi l).nr + (if Kn > (runM st wi l).nr then 1 else 0) : Nat) : Int) := by
            by_cases h : (runM st wi l).nr < Kn
            · have h2 : ((runM st wi l).nr : Int) < (Kn : Int) := by omega
              simp [h]
            · have h2 : ¬ ((runM st wi l).nr : Int) < (Kn : Int) := by omega
              simp [h]
          simp only [hadd, hoth, Ed.d, hKn, List.length_map, List.map_append, List.map_cons, List.map_nil, List.cons.injEq, Cell.lst.injEq, Cell.dct.injEq, and_true, true_and]
          exact ⟨rfl, rfl⟩, by
          rw [r1]
          refine ⟨?_, ?_, hI.c, k2.2.2⟩
          · rw [List.drop_append_of_le_length hmr, List.reverse_append, hI.a, ← hKn]; rfl
          · rw [hrst]; rfl, by simp; omega, by simp; omega, by simp; omega, by simp; omega⟩
  · rintro env cs ⟨l, hw, hr, rw, rr, mw, mr, a, b, c, d, e', f, hl, rfl, rfl, -, -, -, -, -⟩
    have : (List.replicate n bs).flatten = l := sides_inj hl
    walk_at "ev"
    rw [this]
    exact outD_l rfl

theorem cut_init (xs : List D) : cutD xs none (some (-1)) = xs.dropLast := by
  unfold cutD
  have e : HT.sIx xs.length xs.length (some (-1)) = xs.length - 1 := by
    unfold HT.sIx
    simp
    omega
  rw [e]
  show (xs.drop 0).take (xs.length - 1 - 0) = _
  rw [List.dropLast_eq_take]; simp
theorem cut_take (xs : List D) (k : Nat) : cutD xs none (some (k : Int)) = xs.take k := by
  unfold cutD
  have e : HT.sIx xs.length xs.length (some (k : Int)) = min k xs.length := by
    unfold HT.sIx
    simp
    omega
  rw [e]
  show (xs.drop 0).take (min k xs.length - 0) = _
  simp
def gapOf (e : Ed) : D := .int ((e.now : Int) - e.known)
def gapD (E : List Ed) : List D := (E.filter (·.side)).map gapOf
theorem gaps_ok (E : List Ed) (hE : E.length ≤ 9000) : d_law_gaps [.d (.list (E.map Ed.d))] [] = some (.d (.list (gapD E)), []) := by
  refine den_frz (body := b_law_gaps) (np := 1) (nN := 5) rfl ?_
  walk_at "start"
  unfold b_law_gaps
  walk_at "ev"
  refine ⟨?_, by simp only [List.length_map, sizeLine]; omega⟩
  let kp : D → Bool := fun x => match x with
    | .tuple [.str s, _, _, _] => decide (s = "w")
    | _ => false
  let fn : D → D := fun x => match x with
    | .tuple [_, _, .int k, .int n] => .int (n - k)
    | _ => .none
  refine okO_mk (comp_map kp fn rfl _ ?_) ?_
  · intro x hx
    obtain ⟨e, _, rfl⟩ := List.mem_map.mp hx
    unfold Ed.d
    simp only [wipeE, List.set_cons_zero, List.set_cons_succ]
    walk_at "ev"
    refine ⟨rfl, rfl, fun _ => ?_⟩
    walk_at "ev"
    exact ⟨rfl, rfl⟩
  · walk_at "ev"
    refine outD_d ?_
    rw [List.filter_map, List.map_map]
    have h1 : kp ∘ Ed.d = fun e => e.side := by
      funext e
      show decide (sideS e.side = "w") = e.side
      cases e.side <;> rfl
    rw [h1]
    rfl
theorem take_cons (wi x : Nat) (xs : List Nat) : (x :: xs.take wi).take wi = (x :: xs).take wi := by
  cases wi with
  | zero => rfl
  | succ n => simp [List.take_take]
theorem lastOf_map (wi x : Nat) (xs : List Nat) : ([natD x] ++ (xs.take wi).map natD).getLast? = some (natD (lastOf wi x xs)) := by
  unfold lastOf
  rw [← List.map_singleton (f := natD), ← List.map_append, List.getLast?_map]
  show (x :: xs.take wi).getLast?.map natD = _
  rw [List.getLast?_eq_some_getLast (by simp)]; rfl
theorem view_last (R : Nat) (v : List Nat) : ([natD R] ++ v.map natD).getLast? = some (natD ((R :: v).getLast (by simp))) := by
  rw [← List.map_singleton (f := natD), ← List.map_append, List.getLast?_map]
  show (R :: v).getLast?.map natD = _
  rw [List.getLast?_eq_some_getLast (by simp)]; rfl
theorem drop_last_map (R : Nat) (v : List Nat) : ([natD R] ++ v.map natD).dropLast = ((R :: v).dropLast).map natD := by
  rw [← List.map_singleton (f := natD), ← List.map_append, List.map_dropLast]; rfl
theorem latest_ok (bs : List Bool) (st wi n : Nat) (hb : bs.length ≤ 206) (hn : n ≤ 40) (hst : st ≤ 10) (hwi : wi ≤ 10) :
    d_latest_gaps [.d (.str (txt (bs.map code))), .d (.int st), .d (.int wi), .d (.int n)] [] = some (.loc 0, [.lst (gapD (runE st wi (List.replicate n bs).flatten))]) := by
  refine den_exp (body := b_latest_gaps) (np := 4) (nN := 13) rfl ?_
  walk_at "start"
  unfold b_latest_gaps
  have hlen : (List.replicate n bs).flatten.length ≤ 8240 := by
    simp
    calc n * bs.length ≤ 40 * 206 := Nat.mul_le_mul hn hb
      _ = 8240 := rfl
  walk_at "ev"
  refine v_mulL ?_ ⟨by simp only [B63]; omega, by simp only [B63]; omega, by simp only [List.length_cons, List.length_nil, sizeLine, Int.toNat_natCast]; omega⟩
  walk_at "ev"
  refine v_mulL ?_ ⟨by simp only [B63]; omega, by simp only [B63]; omega, by simp only [List.length_cons, List.length_nil, sizeLine, Int.toNat_natCast]; omega⟩
  walk_at "ev"
  refine v_mulS ?_ ⟨by simp only [B63]; omega, by simp only [B63]; omega, by rw [txt_len, List.length_map, Int.toNat_natCast]; have : bs.length * n ≤ 206 * 40 := Nat.mul_le_mul hb hn; simp only [sizeLine]; omega⟩
  rw [txt_rep, Int.toNat_natCast, ← List.map_replicate, ← List.map_flatten]
  walk_at "ev"
  rw [txt_chars, List.map_map]
  have rep0 : (List.replicate ((st : Int)).toNat [PyData.int 0]).flatten = (List.replicate st 0).map natD := by
    rw [Int.toNat_natCast]
    generalize st = k
    induction k with
    | zero => rfl
    | succ k ih => rw [List.replicate_succ, List.flatten_cons, ih]; rfl
  refine okS_forL (fun pre env cs => ∃ (l : List Bool) (k1 k2 : Option A), pre = l.map sideD ∧
      env = [some (A.d (.str (txt (bs.map code)))), some (.d (.int st)), some (.d (.int wi)), some (.d (.int n)), some (.loc 0), some (.d (natD (runM st wi l).nw)), some (.d (natD (runM st wi l).nr)), some (.d (.list ((runM st wi l).vw.map natD))), some (.d (.list ((runM st wi l).vr.map natD))), some (.d (.list (((runM st wi l).bw.take wi).map natD))), some (.d (.list (((runM st wi l).br.take wi).map natD))), k1, k2] ∧
      cs = [.lst (gapD (runE st wi l))] ∧ (runM st wi l).vw.length = st ∧ (runM st wi l).vr.length = st)
    ⟨[], none, none, rfl, by rw [rep0]; simp [runM, run, Mc.start], rfl, by simp [runM, run, Mc.start], by simp [runM, run, Mc.start]⟩ (fun _ _ _ _ => rfl) ?_ ?_
  · rintro pre x post env cs e ⟨l, k1, k2, rfl, rfl, rfl, hv1, hv2⟩
    have hpl : l.length < 8240 := by
      have := congrArg List.length e
      simp at this hlen; omega
    obtain ⟨s, rfl⟩ : ∃ s, x = sideD s := by
      have : x ∈ List.map ((fun c => PyData.str ⟨#[c]⟩) ∘ code) (List.replicate n bs).flatten := by rw [e]; simp
      obtain ⟨s, _, rfl⟩ := List.mem_map.mp this
      exact ⟨s, rfl⟩
    obtain ⟨r1, r2⟩ := run_snoc st wi l s
    have hEl : (runE st wi l).length = l.length := run_len _ _ _ _
    have hG : (gapD (runE st wi l)).length ≤ l.length := by
      unfold gapD
      rw [List.length_map, ← hEl]
      exact List.length_filter_le _ _
    generalize hm : runM st wi l = m at *
    cases s with
    | true =>
      show okO (gN 11 (.str ⟨#[119]⟩) _) _
      walk_at "ev"
      refine at_last (lastOf_map wi m.nr m.br) ?_
      walk_at "ev"
      refine at_last (view_last _ _) ?_
      walk_at "ev"
      rw [cut_init, cut_take, drop_last_map, ← List.map_singleton (f := natD), ← List.map_append, ← List.map_take]
      refine ⟨l ++ [true], some (.d (.str ⟨#[119]⟩)), some (.d (.list ([natD (lastOf wi m.nr m.br)] ++ m.vw.map natD))), by simp, ?_, ?_, ?_, ?_⟩
      · have hbr : (runM st wi (l ++ [true])).br.take wi = [] := by rw [r1]; exact List.take_nil
        have hbw : (runM st wi (l ++ [true])).bw.take wi = (m.nw :: m.bw.take wi).take wi := by rw [r1, take_cons]; rfl
        rw [hbr, hbw, r1]
        rfl
      · rw [r2]
        simp only [gapD, List.filter_append, List.map_append]
        rfl
      · rw [r1]; show (_ :: m.vw).dropLast.length = st; simp [hv1]
      · rw [r1]; exact hv2
    | false =>
      show okO (gN 11 (.str ⟨#[114]⟩) _) _
      walk_at "ev"
      refine at_last (lastOf_map wi m.nw m.bw) ?_
      walk_at "ev"
      refine at_last (view_last _ _) ?_
      walk_at "ev"
      rw [cut_init, cut_take, drop_last_map, ← List.map_singleton (f := natD), ← List.map_append, ← List.map_take]
      have fin : ∀ (x y : Option A) (c : List Cell) (q : Int), q = ((m.nr + (if (m.edge st wi false).known > m.nr then 1 else 0) : Nat) : Int) → ∃ (l_1 : List Bool) (k1 k2 : Option A), l.map sideD ++ [sideD false] = l_1.map sideD ∧
          [some (A.d (.str (txt (bs.map code)))), some (.d (.int st)), some (.d (.int wi)), some (.d (.int n)), some (.loc 0), some (.d (natD m.nw)), some (.d (.int q)), some (.d (.list (m.vw.map natD))), some (.d (.list ((lastOf wi m.nw m.bw :: m.vr).dropLast.map natD))), some (.d (.list [])), some (.d (.list (((m.nr :: m.br.take wi).take wi).map natD))), x, y] = [some (A.d (.str (txt (bs.map code)))), some (.d (.int st)), some (.d (.int wi)), some (.d (.int n)), some (.loc 0), some (.d (natD (runM st wi l_1).nw)), some (.d (natD (runM st wi l_1).nr)), some (.d (.list ((runM st wi l_1).vw.map natD))), some (.d (.list ((runM st wi l_1).vr.map natD))), some (.d (.list (((runM st wi l_1).bw.take wi).map natD))), some (.d (.list (((runM st wi l_1).br.take wi).map natD))), k1, k2] ∧
          [Cell.lst (gapD (runE st wi l))] = [Cell.lst (gapD (runE st wi l_1))] ∧ (runM st wi l_1).vw.length = st ∧ (runM st wi l_1).vr.length = st := by
        intro x y c q hq
        refine ⟨l ++ [false], x, y, by simp, ?_, ?_, ?_, ?_⟩
        · have hbw : (runM st wi (l ++ [false])).bw.take wi = [] := by rw [r1]; exact List.take_nil
          have hbr : (runM st wi (l ++ [false])).br.take wi = (m.nr :: m.br.take wi).take wi := by rw [r1, take_cons]; rfl
          rw [hbr, hbw, r1, hq]
          rfl
        · rw [r2]
          simp only [gapD, List.filter_append, List.map_append]
          show _ = [Cell.lst (_ ++ [])]
          rw [List.append_nil]
        · rw [r1]; exact hv1
        · rw [r1]; show (_ :: m.vr).dropLast.length = st; simp [hv2]
      refine ite_mk (fun hc => ?_) (fun hc => ?_)
      · have hc := of_decide_eq_true hc
        walk_at "ev"
        exact fin _ _ [] _ (by rw [if_pos (by show m.nr < (lastOf wi m.nw m.bw :: m.vr).getLast _; omega)]; rfl)
      · have hc := of_decide_eq_false hc
        walk_at "ev"
        exact fin _ _ [] _ (by rw [if_neg (by show ¬ m.nr < (lastOf wi m.nw m.bw :: m.vr).getLast _; omega)]; rfl)
  · rintro env cs ⟨l, k1, k2, hl, rfl, rfl, -, -⟩
    have : (List.replicate n bs).flatten = l := sides_inj hl
    walk_at "ev"
    rw [this]
    exact rfl

theorem zipWith_zip (f : Nat → Nat → Nat) : ∀ a b : List Nat, List.zipWith f a b = (a.zip b).map fun p => f p.1 p.2
  | [], _ => by simp
  | _ :: _, [] => by simp
  | x :: a, y :: b => by simp [zipWith_zip f a b]
abbrev tD (l : List Nat) : D := .str (txt l)
def joinC (c w : List Nat) : List Nat := List.zipWith (fun a b => if a = b then a else 120) c w
def hullL : List (List Nat) → List Nat
  | [] => []
  | w :: ws => ws.foldl joinC w
def heldB (c w : List Nat) : Bool := (c.zip w).all fun p => decide (p.1 = 120) || decide (p.1 = p.2)
def mayB (c w : List Nat) : Bool := decide (w.length = c.length) && heldB c w
theorem sgn_eq (a b : Nat) : decide ((⟨#[a]⟩ : Str) = ⟨#[b]⟩) = decide (a = b) := by
  by_cases h : a = b
  · simp [h]
  · simp [h]
theorem filter_true {α : Type} (xs : List α) : xs.filter (fun _ => true) = xs := List.filter_eq_self.mpr fun _ _ => rfl
theorem held_ok (c w : List Nat) (h1 : c.length ≤ 10000) : d_is_held [.d (tD c), .d (tD w)] [] = some (.d (.bool (heldB c w)), []) := by
  refine den_frz (body := b_is_held) (np := 2) (nN := 4) rfl ?_
  walk_at "start"
  unfold b_is_held
  walk_at "ev"
  refine ⟨?_, by simp [zipS, txt, sizeLine]; omega⟩
  let fb : D → Bool := fun x => match x with
    | .tuple [.str s, .str b] => decide (s = "x") || decide (s = b)
    | _ => false
  refine okO_mk (comp_map (fun _ => true) (fun x => .bool (fb x)) rfl _ ?_) ?_
  · intro x hx
    unfold zipS at hx
    obtain ⟨p, _, rfl⟩ := List.mem_map.mp hx
    simp only [wipeE, List.set_cons_zero, List.set_cons_succ]
    walk_at "ev"
    refine ⟨rfl, rfl, fun _ => ?_⟩
    walk_at "ev"
    refine ite_mk (fun h => ?_) (fun h => ?_)
    · refine ⟨rfl, ?_⟩
      show _ = A.d (.bool (decide ((sgn p.1) = "x") || decide (sgn p.1 = sgn p.2)))
      rw [h]; rfl
    · walk_at "ev"
      refine ⟨rfl, ?_⟩
      show _ = A.d (.bool (decide ((sgn p.1) = "x") || decide (sgn p.1 = sgn p.2)))
      rw [h]; rfl
  · walk_at "ev"
    rw [filter_true]
    refine v_all (bs := (zipS (txt c) (txt w)).map fb) (allB_map _ _) ?_
    walk_at "ev"
    refine outD_d ?_
    congr 1
    unfold heldB zipS
    rw [txt_toList, txt_toList, List.map_map, List.all_map]
    congr 1
    funext p
    show _ = (decide ((sgn p.1) = ⟨#[120]⟩) || decide (sgn p.1 = sgn p.2))
    rw [sgn_eq, sgn_eq]
theorem may_ok (c w : List Nat) (h1 : c.length ≤ 10000) (h2 : w.length ≤ 10000) : d_may_be_read [.d (tD c), .d (tD w)] [] = some (.d (.bool (mayB c w)), []) := by
  refine den_frz (body := b_may_be_read) (np := 2) (nN := 2) rfl ?_
  walk_at "start"
  unfold b_may_be_read
  walk_at "ev"
  refine v_lenS ?_ (by rw [txt_len]; simp only [sizeLine]; omega)
  walk_at "ev"
  refine v_lenS ?_ (by rw [txt_len]; simp only [sizeLine]; omega)
  walk_at "ev"
  rw [txt_len, txt_len]
  refine ite_mk (fun h => ?_) (fun h => ?_)
  · walk_at "ev"
    refine okO_mk (call_flat rfl rfl (held_ok c w h1)) ?_
    walk_at "ev"
    refine outD_d ?_
    have h := of_decide_eq_true h
    have : w.length = c.length := by omega
    simp [mayB, this]
  · refine outD_d ?_
    have h := of_decide_eq_false h
    have : ¬ w.length = c.length := by omega
    simp [mayB, this]
theorem joinC_len (c w : List Nat) : (joinC c w).length = min c.length w.length := by simp [joinC]
theorem hull_ok (w : List Nat) (ws : List (List Nat)) (h1 : w.length ≤ 10000) (h2 : ws.length ≤ 10000) : d_hull [.d (.list ((w :: ws).map tD))] [] = some (.d (tD (hullL (w :: ws))), []) := by
  refine den_frz (body := b_hull) (np := 1) (nN := 5) rfl ?_
  simp only [List.map_cons]
  walk_at "start"
  unfold b_hull
  walk_at "ev"
  rw [show (some (1 : Int)) = some ((1 : Nat) : Int) from rfl, cut_drop]
  show okS (forL none _ _ (ws.map tD)) _ _ _
  refine okS_forL (fun pre env cs => ∃ (l : List (List Nat)) (k : Option A), pre = l.map tD ∧ env = [some (A.d (.list (tD w :: ws.map tD))), some (.d (tD (l.foldl joinC w))), k, none, none] ∧ cs = [] ∧ (l.foldl joinC w).length ≤ 10000)
    ⟨[], none, rfl, rfl, rfl, h1⟩ (fun _ _ _ _ => rfl) ?_ ?_
  · rintro pre x post env cs e ⟨l, k, rfl, rfl, rfl, hl⟩
    obtain ⟨v, rfl⟩ : ∃ v, x = tD v := by
      have : x ∈ ws.map tD := by rw [e]; simp
      obtain ⟨s, _, rfl⟩ := List.mem_map.mp this
      exact ⟨s, rfl⟩
    generalize hc : l.foldl joinC w = c at *
    walk_at "ev"
    have hz : (zipS (txt c) (txt v)).length ≤ 10000 := by simp [zipS, txt]; omega
    refine ⟨?_, by simp only [sizeLine]; omega⟩
    let fs : D → Str := fun x => match x with
      | .tuple [.str s, .str b] => if s = b then s else "x"
      | _ => "x"
    refine okO_mk (comp_map (fun _ => true) (fun x => .str (fs x)) rfl _ ?_) ?_
    · intro x hx
      unfold zipS at hx
      obtain ⟨p, _, rfl⟩ := List.mem_map.mp hx
      simp only [wipeE, List.set_cons_zero, List.set_cons_succ]
      walk_at "ev"
      refine ⟨rfl, rfl, fun _ => ?_⟩
      walk_at "ev"
      refine ite_mk (fun h => ?_) (fun h => ?_)
      · walk_at "ev"
        refine ⟨rfl, ?_⟩
        show _ = A.d (.str (if sgn p.1 = sgn p.2 then sgn p.1 else "x"))
        rw [if_pos (of_decide_eq_true h)]
      · walk_at "ev"
        refine ⟨rfl, ?_⟩
        show _ = A.d (.str (if sgn p.1 = sgn p.2 then sgn p.1 else "x"))
        rw [if_neg (of_decide_eq_false h)]
    · walk_at "ev"
      rw [filter_true]
      have hf : (zipS (txt c) (txt v)).map fs = (joinC c v).map fun a => txt [a] := by
        unfold zipS joinC
        rw [txt_toList, txt_toList, List.map_map, zipWith_zip, List.map_map]
        apply List.map_congr_left
        intro p _
        show (if sgn p.1 = sgn p.2 then sgn p.1 else "x") = txt [if p.1 = p.2 then p.1 else 120]
        by_cases h : p.1 = p.2
        · rw [if_pos h, if_pos (by rw [h])]; rfl
        · rw [if_neg h, if_neg (by intro q; exact h (by simpa [sgn] using q))]; rfl
      have hj : Str.join (Str.ofString "") ((zipS (txt c) (txt v)).map fs) = txt (joinC c v) := by
        have := join_txt ((joinC c v).map fun a => [a])
        rw [List.map_map] at this
        rw [hf]
        refine Eq.trans this ?_
        congr 1
        induction joinC c v with
        | nil => rfl
        | cons a t ih => rw [List.map_cons, List.flatten_cons, ih]; rfl
      have hs : (((zipS (txt c) (txt v)).map fs).map (·.length)).sum ≤ 10000 := by
        rw [hf, List.map_map]
        have : ((joinC c v).map ((·.length) ∘ fun a => txt [a])).sum = (joinC c v).length := by
          induction joinC c v with
          | nil => rfl
          | cons a t ih => rw [List.map_cons, List.sum_cons, ih, List.length_cons]; show 1 + _ = _; omega
        rw [this, joinC_len]; omega
      refine v_join (ds := (zipS (txt c) (txt v)).map fun x => .str (fs x)) (ys := (zipS (txt c) (txt v)).map fs) rfl (allS_map _ _) ?_ (by show _ + _ * 0 ≤ _; omega)
      walk_at "ev"
      rw [hj]
      have e2 : (l ++ [v]).foldl joinC w = joinC c v := by rw [List.foldl_append, hc]; rfl
      exact ⟨l ++ [v], _, by simp, by rw [e2], rfl, by rw [e2, joinC_len]; omega⟩
  · rintro env cs ⟨l, k, hl, rfl, rfl, -⟩
    have : ws = l := by
      have inj : ∀ a b : List Nat, tD a = tD b → a = b := fun a b h => txt_inj.mp (PyData.str.inj h)
      clear h2
      induction ws generalizing l with
      | nil => cases l with
        | nil => rfl
        | cons _ _ => simp at hl
      | cons x xs ih => cases l with
        | nil => simp at hl
        | cons y ys =>
          simp only [List.map_cons, List.cons.injEq] at hl
          rw [inj _ _ hl.1, ih ys hl.2]
    walk_at "ev"
    rw [this]
    exact rfl

structure QS where
  dp : Nat
  st : Nat
  wi : Nat
  wd : Nat
  R : List (List Nat)
  sent : List (List Nat)
  got : List (List Nat)
  vw : List (List Nat)
  vr : List (List Nat)
  sb : List Nat
  gb : List Nat
def QS.f (q : QS) : List (Str × A) := [("depth", .d (.int q.dp)), ("stages", .d (.int q.st)), ("ring", .d (.list (q.R.map tD))), ("window", .d (.int q.wi)), ("width", .d (.int q.wd)), ("sent", .loc 1), ("got", .loc 2), ("writer_view", .d (.list (q.vw.map tD))), ("reader_view", .d (.list (q.vr.map tD))), ("_sent_before", .d (.list (q.sb.map natD))), ("_got_before", .d (.list (q.gb.map natD))), ("_places", .loc 3)]
def QS.h (q : QS) : Cs := [.ins "Queue" q.f, .lst (q.sent.map tD), .lst (q.got.map tD), .dct []]
structure QS.Ok (q : QS) : Prop where
  ne : q.R ≠ []
  rl : q.R.length ≤ 1000
  wl : ∀ w ∈ q.R, w.length ≤ 1000
  sl : q.sent.length ≤ 100000
  gl : q.got.length ≤ 100000
  vwl : q.vw.length ≤ 1000
  vrl : q.vr.length ≤ 1000
  sbl : q.sb.length ≤ 1000
  gbl : q.gb.length ≤ 1000
  wdl : q.wd ≤ 1000
  dp0 : 0 < q.dp
  dpl : q.dp ≤ 10000
  sw : ∀ w ∈ q.sent, w.length ≤ 1000
theorem loc_data (xs : List D) : (xs.map A.d).flatMap locA = [] := by
  induction xs with
  | nil => rfl
  | cons x xs ih => exact ih
theorem ren_data (ls : List Nat) : ∀ xs : List D, renAs ls (xs.map A.d) = some (xs.map A.d)
  | [] => rfl
  | x :: xs => by
    show ((renA ls (A.d x)).bind _) = _
    simp only [renA, Option.bind_some]
    show ((renAs ls (xs.map A.d)).bind _) = _
    rw [ren_data ls xs]; rfl
theorem q_call {d : Den} {q q' : QS} {xs : List D} {y : D} {t : Cs} (h : d (.loc 0 :: xs.map A.d) q.h = some (.d y, q'.h)) : callL d (.loc 0 :: xs.map A.d) (q.h ++ t) = some (.d y, q'.h ++ t) := by
  have e : reach (q.h ++ t) 64 ((A.loc 0 :: xs.map A.d).flatMap locA) [] = [0, 1, 2, 3] := by
    rw [List.flatMap_cons, loc_data]
    rfl
  unfold callL
  rw [e]
  unfold callW
  rw [if_pos (by decide)]
  have e2 : renAs [0, 1, 2, 3] (A.loc 0 :: xs.map A.d) = some (A.loc 0 :: xs.map A.d) := by
    show ((renA [0, 1, 2, 3] (A.loc 0)).bind fun y => (renAs [0, 1, 2, 3] (xs.map A.d)).bind fun s => some (y :: s)) = _
    rw [ren_data]; rfl
  have e3 : pick [0, 1, 2, 3] (q.h ++ t) [0, 1, 2, 3] = some q.h := rfl
  rw [e2]; simp only [Option.bind_some]; rw [e3]; simp only [Option.bind_some]; rw [h]; simp only [Option.bind_some]
  rw [if_pos (by show 4 ≤ 4; omega)]
  show some (A.d y, wb [0, 1, 2, 3] (q.h ++ t).length [0, 1, 2, 3] q'.h (q.h ++ t)) = _
  congr 2
  show _ ++ List.map _ [] = _
  rw [List.map_nil, List.append_nil]
  rfl
theorem den_q4 {np nN : Nat} {body : S} {xs : List A} {y : D} {q q' : QS} (hl : xs.length = np) (h : okS body (startE nN xs) q.h fun o _ c => o = .rt (.d y) ∧ c = q'.h) : den np nN .frz body xs q.h = some (.d y, q'.h) := by
  obtain ⟨o, e1, c1, h1, rfl, rfl⟩ := h
  unfold den
  rw [if_pos hl, h1]
  rfl
def word (R : List (List Nat)) (k : Nat) : List Nat := R.getD (k % R.length) []
theorem word_mem {R : List (List Nat)} (h : R ≠ []) (k : Nat) : word R k ∈ R := by
  have hl : k % R.length < R.length := Nat.mod_lt _ (List.length_pos_iff.mpr h)
  unfold word
  rw [List.getD_eq_getElem?_getD, List.getElem?_eq_getElem hl]
  exact List.getElem_mem hl
theorem word_at {R : List (List Nat)} (h : R ≠ []) (k : Nat) {Q : D → Prop} (q : Q (tD (word R k))) : okO (atI (R.map tD) ((k : Int).fmod ((R.map tD).length : Int))) Q := by
  have hl : k % R.length < R.length := Nat.mod_lt _ (List.length_pos_iff.mpr h)
  have e : (k : Int).fmod ((R.map tD).length : Int) = ((k % R.length : Nat) : Int) := by
    rw [List.length_map, Int.fmod_eq_emod_of_nonneg _ (by omega)]; rfl
  rw [e]
  refine at_mk (z := tD (word R k)) (by omega) ?_ q
  rw [Int.toNat_natCast, List.getElem?_map, List.getElem?_eq_getElem hl]
  unfold word
  rw [List.getD_eq_getElem?_getD, List.getElem?_eq_getElem hl]; rfl
theorem len_ne {R : List (List Nat)} (h : R ≠ []) : ((R.map tD).length : Int) ≠ 0 := by
  have := List.length_pos_iff.mpr h
  simp only [List.length_map]; omega
theorem count_cube_ok (q : QS) (hq : q.Ok) (c : Nat) (cs : List Nat) (hl : cs.length ≤ 1000) : d_Queue__count_cube [.loc 0, .d (.list ((c :: cs).map natD))] q.h = some (.d (tD (hullL ((c :: cs).map (word q.R)))), q.h) := by
  refine den_q4 (body := b_Queue__count_cube) (np := 2) (nN := 3) rfl ?_
  simp only [List.map_cons]
  walk_at "start"
  unfold b_Queue__count_cube QS.h
  walk_at "ev"
  refine ⟨?_, by simp only [List.length_cons, List.length_map, sizeLine]; omega⟩
  let fn : D → D := fun x => match x with
    | .int k => tD (word q.R k.toNat)
    | _ => .none
  refine okO_mk (comp_map (fun _ => true) fn rfl _ ?_) ?_
  · intro x hx
    obtain ⟨k, rfl⟩ : ∃ k : Nat, x = natD k := by
      rcases List.mem_cons.mp hx with rfl | h
      · exact ⟨c, rfl⟩
      · obtain ⟨k, _, rfl⟩ := List.mem_map.mp h
        exact ⟨k, rfl⟩
    simp only [wipeE, List.set_cons_zero, List.set_cons_succ]
    walk_at "ev"
    refine ⟨rfl, rfl, fun _ => ?_⟩
    walk_at "ev"
    refine v_modI ?_ (len_ne hq.ne)
    walk_at "ev"
    refine word_at hq.ne k ?_
    exact ⟨rfl, rfl⟩
  · walk_at "ev"
    rw [filter_true]
    have e : (natD c :: cs.map natD).map fn = (word q.R c :: cs.map (word q.R)).map tD := by
      simp only [List.map_cons, List.map_map]
      congr 1
    dsimp only
    rw [e]
    refine okO_mk (call_flat rfl rfl (hull_ok _ _ (Nat.le_trans (hq.wl _ (word_mem hq.ne _)) (by omega)) (by simp; omega))) ?_
    walk_at "ev"
    exact ⟨rfl, rfl⟩

theorem read_cube_ok (q : QS) (hq : q.Ok) : d_Queue__read_cube [.loc 0] q.h = some (.d (tD (hullL ((q.sent.length :: q.sb).map (word q.R)))), q.h) := by
  refine den_q4 (body := b_Queue__read_cube) (np := 1) (nN := 1) rfl ?_
  walk_at "start"
  unfold b_Queue__read_cube
  have h1 := hq.sbl
  unfold QS.h
  walk_at "ev"
  rw [List.length_map]
  exact okO_mk (q_call (xs := [.list ((q.sent.length :: q.sb).map natD)]) (t := []) (count_cube_ok q hq _ _ h1)) ⟨rfl, rfl⟩
theorem write_cube_ok (q : QS) (hq : q.Ok) : d_Queue__write_cube [.loc 0] q.h = some (.d (tD (hullL ((q.got.length :: q.gb).map (word q.R)))), q.h) := by
  refine den_q4 (body := b_Queue__write_cube) (np := 1) (nN := 1) rfl ?_
  walk_at "start"
  unfold b_Queue__write_cube
  have h1 := hq.gbl
  unfold QS.h
  walk_at "ev"
  rw [List.length_map]
  exact okO_mk (q_call (xs := [.list ((q.got.length :: q.gb).map natD)]) (t := []) (count_cube_ok q hq _ _ h1)) ⟨rfl, rfl⟩
theorem rep_one (c : Nat) : ∀ n, (List.replicate n [c]).flatten = List.replicate n c
  | 0 => rfl
  | n + 1 => by rw [List.replicate_succ, List.flatten_cons, rep_one c n]; rfl
def QS.cellOf (q : QS) (k : Nat) : List Nat :=
  let n := (k : Int) - 1 - ((k : Int) - 1 - q.got.length).fmod q.dp
  if n < 0 then List.replicate q.wd 48 else q.sent.getD n.toNat []
theorem content_ok (q : QS) (hq : q.Ok) (k : Nat) (hk : k ≤ q.sent.length) : d_Queue__content [.loc 0, .d (natD k)] q.h = some (.d (tD (q.cellOf k)), q.h) := by
  refine den_q4 (body := b_Queue__content) (np := 2) (nN := 3) rfl ?_
  walk_at "start"
  unfold b_Queue__content
  have h0 := hq.dp0
  have h1 := hq.dpl
  have h2 := hq.wdl
  have hm : 0 ≤ ((k : Int) - 1 - q.got.length).fmod q.dp := Int.fmod_nonneg_of_pos _ (by omega)
  unfold QS.h
  walk_at "ev"
  rw [List.length_map]
  refine ite_mk (fun h => ?_) (fun h => ?_)
  · have h := of_decide_eq_true h
    walk_at "ev"
    refine v_mulS ?_ ⟨by simp only [B63]; omega, by simp only [B63]; omega, by show 1 * _ ≤ _; rw [Int.toNat_natCast]; simp only [sizeLine]; omega⟩
    walk_at "ev"
    refine ⟨?_, rfl⟩
    unfold QS.cellOf
    rw [if_pos h, Int.toNat_natCast, show (Str.ofString "0") = txt [48] from rfl, txt_rep]
    rw [rep_one]
  · have h := of_decide_eq_false h
    walk_at "ev"
    have hn : ((k : Int) - 1 - ((k : Int) - 1 - q.got.length).fmod q.dp).toNat < q.sent.length := by omega
    refine at_mk (z := tD (q.cellOf k)) (by omega) ?_ ⟨rfl, rfl⟩
    unfold QS.cellOf
    rw [if_neg h, List.getElem?_map, List.getElem?_eq_getElem hn, List.getD_eq_getElem?_getD, List.getElem?_eq_getElem hn]; rfl
theorem cell_len (q : QS) (hq : q.Ok) (k : Nat) : (q.cellOf k).length ≤ 1000 := by
  unfold QS.cellOf
  dsimp only
  split
  · rw [List.length_replicate]; exact hq.wdl
  · rw [List.getD_eq_getElem?_getD]
    cases h : q.sent[((k : Int) - 1 - ((k : Int) - 1 - q.got.length).fmod q.dp).toNat]? with
    | none => simp
    | some w => exact hq.sw w (List.mem_of_getElem? h)
theorem cell_cube_ok (q : QS) (hq : q.Ok) (hs : ∀ k ∈ q.sb, k ≤ q.sent.length) : d_Queue__cell_cube [.loc 0] q.h = some (.d (tD (hullL ((q.sent.length :: q.sb).map q.cellOf))), q.h) := by
  refine den_q4 (body := b_Queue__cell_cube) (np := 1) (nN := 2) rfl ?_
  walk_at "start"
  unfold b_Queue__cell_cube
  have h1 := hq.sbl
  unfold QS.h
  walk_at "ev"
  rw [List.length_map]
  refine ⟨?_, by simp only [List.length_append, List.length_cons, List.length_map, List.length_nil, sizeLine]; omega⟩
  let fn : D → D := fun x => match x with
    | .int k => tD (q.cellOf k.toNat)
    | _ => .none
  refine okO_mk (comp_map (fun _ => true) fn rfl _ ?_) ?_
  · intro x hx
    obtain ⟨k, hk, rfl⟩ : ∃ k : Nat, k ≤ q.sent.length ∧ x = natD k := by
      rcases List.mem_append.mp hx with h | h
      · exact ⟨_, Nat.le_refl _, List.mem_singleton.mp h⟩
      · obtain ⟨k, hk, rfl⟩ := List.mem_map.mp h
        exact ⟨k, hs k hk, rfl⟩
    simp only [wipeE, List.set_cons_zero, List.set_cons_succ]
    walk_at "ev"
    refine ⟨rfl, rfl, fun _ => ?_⟩
    walk_at "ev"
    exact okO_mk (q_call (xs := [natD k]) (t := []) (content_ok q hq k hk)) ⟨rfl, rfl⟩
  · walk_at "ev"
    rw [filter_true]
    have e : ([natD q.sent.length] ++ q.sb.map natD).map fn = (q.cellOf q.sent.length :: q.sb.map q.cellOf).map tD := by
      simp only [List.map_cons, List.map_map, List.map_append, List.map_nil, List.cons_append, List.nil_append]
      congr 1
    dsimp only
    rw [e]
    refine okO_mk (call_flat rfl rfl (hull_ok _ _ (Nat.le_trans (cell_len q hq _) (by omega)) (by simp; omega))) ?_
    walk_at "ev"
    exact ⟨rfl, rfl⟩
theorem eqv_mem (ws : List (List Nat)) (w : List Nat) : ((ws.map tD).any fun z => PyData.eqv z (tD w)) = decide (w ∈ ws) := by
  rw [List.any_map, Bool.eq_iff_iff, List.any_eq_true, decide_eq_true_eq]
  constructor
  · rintro ⟨x, hx, h⟩
    have h : PyData.eqv (tD x) (tD w) = true := h
    rw [eqv_str, decide_eq_true_eq] at h
    rw [← txt_inj.mp h]; exact hx
  · intro h
    exact ⟨w, h, by show PyData.eqv (tD w) (tD w) = true; rw [eqv_str]; simp⟩
theorem find_mem : ∀ (ws : List (List Nat)) (w : List Nat), w ∈ ws → (ws.map tD).findIdx? (fun z => PyData.eqv z (tD w)) = some (ws.idxOf w)
  | [], w, h => by cases h
  | x :: ws, w, h => by
    rw [List.map_cons, List.findIdx?_cons]
    have e : PyData.eqv (tD x) (tD w) = decide (x = w) := by
      rw [eqv_str]
      by_cases q : x = w
      · simp [q]
      · have : ¬ txt x = txt w := fun z => q (txt_inj.mp z)
        simp [q, this]
    rw [e]
    by_cases q : x = w
    · simp [q]
    · have hw : w ∈ ws := by
        rcases List.mem_cons.mp h with rfl | h
        · exact absurd rfl q
        · exact h
      rw [if_neg (by simpa using q), find_mem ws w hw, List.idxOf_cons]
      have : (x == w) = false := by simpa using q
      rw [this]; rfl
def QS.full (q : QS) (w : List Nat) : Bool := decide (w ∈ q.R) && decide (((q.sent.length : Int) - (q.R.idxOf w : Nat)).fmod (q.R.length : Int) = q.dp)
theorem is_full_ok (q : QS) (hq : q.Ok) (w : List Nat) : d_Queue__is_full [.loc 0, .d (tD w)] q.h = some (.d (.bool (q.full w)), q.h) := by
  refine den_q4 (body := b_Queue__is_full) (np := 2) (nN := 2) rfl ?_
  walk_at "start"
  unfold b_Queue__is_full
  unfold QS.h
  walk_at "ev"
  refine v_notIn (a := tD w) (b := q.R.map tD) rfl rfl ?_ rfl
  rw [eqv_mem]
  refine ite_mk (fun h => ?_) (fun h => ?_)
  · walk_at "ev"
    refine ⟨?_, rfl⟩
    unfold QS.full
    have : decide (w ∈ q.R) = false := by simpa using h
    rw [this]; rfl
  · have hw : w ∈ q.R := by simpa using h
    walk_at "ev"
    have hm : okO (mIndex (.d (.list (q.R.map tD))) [.d (tD w)] [Cell.ins (Str.ofString "Queue") q.f, Cell.lst (List.map tD q.sent), Cell.lst (List.map tD q.got), Cell.dct []]) fun p => p = (.d (natD (q.R.idxOf w)), [Cell.ins (Str.ofString "Queue") q.f, Cell.lst (List.map tD q.sent), Cell.lst (List.map tD q.got), Cell.dct []]) := by
      refine okO_mk (x := (.d (natD (q.R.idxOf w)), _)) ?_ rfl
      show (if flat (tD w) = true ∧ (q.R.map tD).all flat = true then ((q.R.map tD).findIdx? fun z => PyData.eqv z (tD w)).bind _ else none) = _
      rw [if_pos ⟨rfl, by rw [List.all_map, List.all_eq_true]; intro x _; rfl⟩, find_mem _ _ hw]
      rfl
    refine okO_is hm ?_
    walk_at "ev"
    refine v_modI ?_ (len_ne hq.ne)
    walk_at "ev"
    refine ⟨?_, rfl⟩
    unfold QS.full
    rw [List.length_map, List.length_map]
    simp [hw]

theorem cut_initL (xs : List (List Nat)) (w : List Nat) : cutD ([tD w] ++ xs.map tD) none (some (-1)) = ((w :: xs).dropLast).map tD := by
  rw [cut_init, ← List.map_singleton (f := tD), ← List.map_append, List.map_dropLast]; rfl
theorem view_lastL (w : List Nat) (v : List (List Nat)) : ([tD w] ++ v.map tD).getLast? = some (tD ((w :: v).getLast (by simp))) := by
  rw [← List.map_singleton (f := tD), ← List.map_append, List.getLast?_map]
  show (w :: v).getLast?.map tD = _
  rw [List.getLast?_eq_some_getLast (by simp)]; rfl
def QS.wEdge (q : QS) (kw w : List Nat) : QS × Bool :=
  let ful := q.full ((kw :: q.vw).getLast (by simp))
  ({ q with sb := (q.sent.length :: q.sb).take q.wi, gb := [], vw := (kw :: q.vw).dropLast, sent := if ful then q.sent else q.sent ++ [w] }, !ful)
theorem write_edge_ok (q : QS) (hq : q.Ok) (kw w : List Nat) (hkw : kw.length ≤ 1000) (hm : mayB (hullL ((q.got.length :: q.gb).map (word q.R))) kw = true) (hh : (hullL ((q.got.length :: q.gb).map (word q.R))).length ≤ 10000) :
    d_Queue_write_edge [.loc 0, .d (tD kw), .d (tD w)] q.h = some (.d (.bool (q.wEdge kw w).2), (q.wEdge kw w).1.h) := by
  refine den_q4 (body := b_Queue_write_edge) (np := 3) (nN := 5) rfl ?_
  walk_at "start"
  unfold b_Queue_write_edge
  have h1 := hq.vwl
  have h2 := hq.sbl
  have h3 := hq.sl
  unfold QS.h
  walk_at "ev"
  refine okO_mk (q_call (xs := []) (t := []) (write_cube_ok q hq)) ?_
  walk_at "ev"
  refine okO_mk (call_flat rfl rfl (may_ok _ _ hh (by omega))) ?_
  rw [hm]
  simp only [List.append_nil]
  unfold QS.h
  walk_at "ev"
  refine at_last (view_lastL _ _) ?_
  walk_at "ev"
  have hF : (q.wEdge kw w).1 = { q with sb := (q.sent.length :: q.sb).take q.wi, gb := [], vw := (kw :: q.vw).dropLast, sent := if q.full ((kw :: q.vw).getLast (by simp)) then q.sent else q.sent ++ [w] } := rfl
  have hF2 : (q.wEdge kw w).2 = !q.full ((kw :: q.vw).getLast (by simp)) := rfl
  rw [hF, hF2]
  generalize (kw :: q.vw).getLast (by simp) = dec
  refine okO_mk (q_call (xs := [tD dec]) (t := []) (is_full_ok q hq dec)) ?_
  simp only [List.append_nil]
  unfold QS.h
  walk_at "ev"
  rw [cut_initL, List.length_map, ← List.map_singleton (f := natD), ← List.map_append, cut_take, ← List.map_take]
  cases q.full dec with
  | true =>
    walk_at "ev"
    exact ⟨rfl, rfl⟩
  | false =>
    walk_at "ev"
    refine ⟨rfl, ?_⟩
    simp only [Bool.false_eq_true, if_false, List.map_append, List.map_cons, List.map_nil]
    rfl

def QS.tk (q : QS) (kw : List Nat) : Bool := !decide ((kw :: q.vr).getLast (by simp) = word q.R q.got.length)
def QS.rEdge (q : QS) (kw s : List Nat) : QS :=
  { q with gb := (q.got.length :: q.gb).take q.wi, sb := [], vr := (kw :: q.vr).dropLast, got := if q.tk kw then q.got ++ [s] else q.got }
theorem read_edge_ok (q : QS) (hq : q.Ok) (kw s : List Nat) (hkw : kw.length ≤ 1000) (hs : s.length ≤ 1000) (hsb : ∀ k ∈ q.sb, k ≤ q.sent.length) (hm : mayB (hullL ((q.sent.length :: q.sb).map (word q.R))) kw = true) (hh : (hullL ((q.sent.length :: q.sb).map (word q.R))).length ≤ 10000)
    (hm2 : q.tk kw = true → mayB (hullL ((q.sent.length :: q.sb).map q.cellOf)) s = true ∧ (hullL ((q.sent.length :: q.sb).map q.cellOf)).length ≤ 10000) :
    d_Queue_read_edge [.loc 0, .d (tD kw), .d (tD s)] q.h = some (.d (if q.tk kw then tD s else .none), (q.rEdge kw s).h) := by
  refine den_q4 (body := b_Queue_read_edge) (np := 3) (nN := 5) rfl ?_
  walk_at "start"
  unfold b_Queue_read_edge
  have h1 := hq.vrl
  have h2 := hq.gbl
  have h3 := hq.gl
  unfold QS.h
  walk_at "ev"
  refine okO_mk (q_call (xs := []) (t := []) (read_cube_ok q hq)) ?_
  walk_at "ev"
  refine okO_mk (call_flat rfl rfl (may_ok _ _ hh (by omega))) ?_
  rw [hm]
  simp only [List.append_nil]
  unfold QS.h
  walk_at "ev"
  refine at_last (view_lastL _ _) ?_
  walk_at "ev"
  refine v_modI ?_ (len_ne hq.ne)
  walk_at "ev"
  rw [List.length_map (as := q.got)]
  refine word_at hq.ne q.got.length ?_
  walk_at "ev"
  have hF : q.rEdge kw s = { q with gb := (q.got.length :: q.gb).take q.wi, sb := [], vr := (kw :: q.vr).dropLast, got := if q.tk kw then q.got ++ [s] else q.got } := rfl
  rw [hF]
  have hT : (!decide (txt ((kw :: q.vr).getLast (by simp)) = txt (word q.R q.got.length))) = q.tk kw := by
    unfold QS.tk
    by_cases h : (kw :: q.vr).getLast (by simp) = word q.R q.got.length
    · simp [h]
    · have : ¬ txt ((kw :: q.vr).getLast (by simp)) = txt (word q.R q.got.length) := fun z => h (txt_inj.mp z)
      simp [h, this]
  rw [hT]
  cases hk : q.tk kw with
  | false =>
    walk_at "ev"
    rw [cut_initL, List.length_map, ← List.map_singleton (f := natD), ← List.map_append, cut_take, ← List.map_take]
    walk_at "ev"
    exact ⟨rfl, rfl⟩
  | true =>
    obtain ⟨k1, k2⟩ := hm2 hk
    walk_at "ev"
    refine okO_mk (q_call (xs := []) (t := []) (cell_cube_ok q hq hsb)) ?_
    walk_at "ev"
    refine okO_mk (call_flat rfl rfl (may_ok _ _ k2 (by omega))) ?_
    rw [k1]
    simp only [List.append_nil]
    unfold QS.h
    walk_at "ev"
    rw [cut_initL, List.length_map, ← List.map_singleton (f := natD), ← List.map_append, cut_take, ← List.map_take]
    walk_at "ev"
    refine ⟨rfl, ?_⟩
    simp only [if_true, List.map_append, List.map_cons, List.map_nil]
    rfl

theorem check_ring_ok (R : List (List Nat)) (n : Nat) (h0 : R ≠ []) (hn : ∀ w ∈ R, w.length = n) (hb : n ≤ 10000) : d_check_ring [.d (.list (R.map tD))] [] = some (.d .none, []) := by
  refine den_frz (body := b_check_ring) (np := 1) (nN := 3) rfl ?_
  walk_at "start"
  unfold b_check_ring
  walk_at "ev"
  obtain ⟨w0, ws, rfl⟩ : ∃ w ws, R = w :: ws := by
    cases R with
    | nil => exact absurd rfl h0
    | cons w ws => exact ⟨w, ws, rfl⟩
  refine ite_no rfl ?_
  walk_at "ev"
  refine okS_forL (fun pre env cs => ∃ k1 k2 : Option A, env = [some (A.d (.list ((w0 :: ws).map tD))), k1, k2] ∧ cs = []) ⟨none, none, rfl, rfl⟩ (fun _ _ _ _ => rfl) ?_ ?_
  · rintro pre x post env cs e ⟨k1, k2, rfl, rfl⟩
    obtain ⟨z, hz, rfl⟩ := enum_at e
    obtain ⟨v, hv, rfl⟩ : ∃ v, v ∈ w0 :: ws ∧ z = tD v := by
      have := List.mem_of_getElem? hz
      obtain ⟨v, h1, rfl⟩ := List.mem_map.mp this
      exact ⟨v, h1, rfl⟩
    simp only [List.map_cons]
    walk_at "ev"
    refine v_lenS ?_ (by rw [txt_len, hn v hv]; simp only [sizeLine]; omega)
    walk_at "ev"
    refine v_lenS ?_ (by rw [txt_len, hn w0 List.mem_cons_self]; simp only [sizeLine]; omega)
    walk_at "ev"
    rw [txt_len, txt_len, hn v hv, hn w0 List.mem_cons_self]
    refine ite_no (by simp) ?_
    walk_at "ev"
    exact ⟨_, _, rfl, rfl⟩
  · rintro env cs ⟨k1, k2, rfl, rfl⟩
    exact rfl
theorem nodup_take {α : Type} {R : List α} (h : R.Nodup) {k : Nat} {v : α} (hv : R[k]? = some v) : v ∉ R.take k := by
  intro hm
  obtain ⟨i, hi, hi2⟩ := List.mem_iff_getElem.mp hm
  rw [List.getElem_take] at hi2
  rw [List.length_take] at hi
  have hk := (List.getElem?_eq_some_iff.mp hv)
  obtain ⟨hk1, hk2⟩ := hk
  exact List.pairwise_iff_getElem.mp h i k (by omega) hk1 (by omega) (hi2.trans hk2.symm)
theorem check_words_ok (R : List (List Nat)) (n : Nat) (h0 : R ≠ []) (hn : ∀ w ∈ R, w.length = n) (hb : n ≤ 10000) (hd : R.Nodup) : d_check_words [.d (.list (R.map tD))] [] = some (.d .none, []) := by
  refine den_frz (body := b_check_words) (np := 1) (nN := 3) rfl ?_
  walk_at "start"
  unfold b_check_words
  walk_at "ev"
  refine okO_mk (call_flat rfl rfl (check_ring_ok R n h0 hn hb)) ?_
  walk_at "ev"
  refine okS_forL (fun pre env cs => ∃ k1 k2 : Option A, env = [some (A.d (.list (R.map tD))), k1, k2] ∧ cs = []) ⟨none, none, rfl, rfl⟩ (fun _ _ _ _ => rfl) ?_ ?_
  · rintro pre x post env cs e ⟨k1, k2, rfl, rfl⟩
    obtain ⟨z, hz, rfl⟩ := enum_at e
    rw [List.getElem?_map] at hz
    obtain ⟨v, hv, rfl⟩ := Option.map_eq_some_iff.mp hz
    walk_at "ev"
    refine v_in (a := tD v) (b := (R.take pre.length).map tD) rfl (by rw [cut_take, ← List.map_take]; rfl) ?_ rfl
    rw [eqv_mem]
    refine ite_no (decide_eq_false (nodup_take hd hv)) ?_
    walk_at "ev"
    exact ⟨_, _, rfl, rfl⟩
  · rintro env cs ⟨k1, k2, rfl, rfl⟩
    exact rfl
def QS.new (dp st wi wd : Nat) (R : List (List Nat)) : QS := ⟨dp, st, wi, wd, R, [], [], List.replicate st (R.headD []), List.replicate st (R.headD []), [], []⟩
theorem init_ok (dp st wi wd n : Nat) (R : List (List Nat)) (h0 : R ≠ []) (hn : ∀ w ∈ R, w.length = n) (hb : n ≤ 10000) (hd : R.Nodup) (hst : st ≤ 1000) :
    d_Queue_init [.loc 0, .d (.int dp), .d (.int st), .d (.list (R.map tD)), .d (.int wi), .d (.int wd)] [.ins "Queue" []] = some (.d .none, (QS.new dp st wi wd R).h) := by
  refine den_keep (body := b_Queue_init) (np := 6) (nN := 6) rfl ?_
  walk_at "start"
  unfold b_Queue_init
  walk_at "ev"
  refine okO_mk (call_flat rfl rfl (check_words_ok R n h0 hn hb hd)) ?_
  obtain ⟨w0, ws, rfl⟩ : ∃ w ws, R = w :: ws := by
    cases R with
    | nil => exact absurd rfl h0
    | cons w ws => exact ⟨w, ws, rfl⟩
  have hrep : (List.replicate ((st : Int)).toNat [tD w0]).flatten = (List.replicate st w0).map tD := by
    rw [Int.toNat_natCast]
    clear hst
    induction st with
    | zero => rfl
    | succ k ih => rw [List.replicate_succ, List.flatten_cons, ih]; rfl
  simp only [List.map_cons]
  walk_at "ev"
  refine v_mulL ?_ ⟨by simp only [B63]; omega, by simp only [B63]; omega, by simp only [List.length_cons, List.length_nil, sizeLine, Int.toNat_natCast]; omega⟩
  walk_at "ev"
  refine v_mulL ?_ ⟨by simp only [B63]; omega, by simp only [B63]; omega, by simp only [List.length_cons, List.length_nil, sizeLine, Int.toNat_natCast]; omega⟩
  walk_at "ev"
  refine ⟨rfl, ?_⟩
  rw [hrep]
  rfl
theorem init_call (dp st wi wd n : Nat) (R : List (List Nat)) (h0 : R ≠ []) (hn : ∀ w ∈ R, w.length = n) (hb : n ≤ 10000) (hd : R.Nodup) (hst : st ≤ 1000) :
    callL d_Queue_init (.loc 0 :: ([.d (.int dp), .d (.int st), .d (.list (R.map tD)), .d (.int wi), .d (.int wd)] ++ [].map A.d)) ([] ++ [.ins "Queue" []]) = some (.d .none, (QS.new dp st wi wd R).h) := by
  have e : reach ([] ++ [Cell.ins "Queue" []]) 64 ((A.loc 0 :: ([.d (.int dp), .d (.int st), .d (.list (R.map tD)), .d (.int wi), .d (.int wd)] ++ [].map A.d)).flatMap locA) [] = [0] := rfl
  unfold callL
  rw [e]
  unfold callW
  rw [if_pos (by decide)]
  show ((d_Queue_init [.loc 0, .d (.int dp), .d (.int st), .d (.list (R.map tD)), .d (.int wi), .d (.int wd)] [.ins "Queue" []]).bind _) = _
  rw [init_ok dp st wi wd n R h0 hn hb hd hst]
  rfl
def W16 : List (List Nat) := (List.range 16).map fun k => if k ≤ 8 then List.replicate k 49 ++ List.replicate (8 - k) 48 else List.replicate (k - 8) 48 ++ List.replicate (16 - k) 49
theorem stretch_ok : d_law_stretch [.d (.int 16)] [] = some (.d (.list (W16.map tD)), []) := by kernel_rfl
theorem W16_len : ∀ w ∈ W16, w.length = 8 := by decide +kernel
theorem W16_nodup : W16.Nodup := by decide +kernel
theorem W16_ne : W16 ≠ [] := by decide +kernel
theorem W16_n : W16.length = 16 := by decide +kernel

theorem run_take (st wi : Nat) : ∀ (m : Mc) (l : List Bool) (k : Nat), (run st wi m l).2.take k = (run st wi m (l.take k)).2
  | m, [], k => by simp [run]
  | m, s :: l, 0 => rfl
  | m, s :: l, k + 1 => by simp [run, run_take st wi (m.step st wi s) l k]
theorem runE_take (st wi : Nat) (l : List Bool) (k : Nat) : (runE st wi l).take k = runE st wi (l.take k) := run_take st wi _ l k
theorem lastOf_mem (wi x : Nat) (xs : List Nat) : lastOf wi x xs ∈ x :: xs.take wi := List.getLast_mem _
structure Good (m : Mc) : Prop where
  b : ∀ x ∈ m.nw :: m.bw, (m.nw :: m.bw).getLast (by simp) ≤ x ∧ x ≤ m.nw
  a : ∀ x ∈ m.vr, x ≤ (m.nw :: m.bw).getLast (by simp) ∧ m.nr ≤ x
  p : List.Pairwise (fun a b : Nat => b ≤ a) m.vr
  c : m.nr ≤ (m.nw :: m.bw).getLast (by simp)
theorem last_le {v : List Nat} (h : List.Pairwise (fun a b : Nat => b ≤ a) v) (hv : v ≠ []) : ∀ x ∈ v, v.getLast hv ≤ x := by
  induction v with
  | nil => exact absurd rfl hv
  | cons a t ih =>
    intro x hx
    cases t with
    | nil => simp at hx; simp [hx]
    | cons b t' =>
      rw [List.getLast_cons (by simp)]
      rcases List.mem_cons.mp hx with rfl | hx
      · exact Nat.le_trans (ih h.tail (by simp) b List.mem_cons_self) (List.rel_of_pairwise_cons h List.mem_cons_self)
      · exact ih h.tail (by simp) x hx
theorem good_read {m : Mc} (g : Good m) (wi : Nat) : (m.nw :: m.bw).getLast (by simp) ≤ lastOf wi m.nw m.bw ∧ lastOf wi m.nw m.bw ≤ m.nw := by
  have := lastOf_mem wi m.nw m.bw
  refine g.b _ ?_
  rcases List.mem_cons.mp this with h | h
  · rw [h]; exact List.mem_cons_self
  · exact List.mem_cons_of_mem _ (List.mem_of_mem_take h)
theorem good_view {m : Mc} (g : Good m) (wi : Nat) : List.Pairwise (fun a b : Nat => b ≤ a) (lastOf wi m.nw m.bw :: m.vr) ∧ ∀ x ∈ lastOf wi m.nw m.bw :: m.vr, m.nr ≤ x ∧ x ≤ m.nw := by
  have h := good_read g wi
  constructor
  · exact List.Pairwise.cons (fun x hx => Nat.le_trans (g.a x hx).1 h.1) g.p
  · intro x hx
    rcases List.mem_cons.mp hx with rfl | hx
    · exact ⟨Nat.le_trans g.c h.1, h.2⟩
    · exact ⟨(g.a x hx).2, Nat.le_trans (g.a x hx).1 (Nat.le_trans h.1 h.2)⟩
theorem good_known {m : Mc} (g : Good m) (st wi : Nat) : m.nr ≤ (m.edge st wi false).known ∧ (m.edge st wi false).known ≤ m.nw := (good_view g wi).2 _ (List.getLast_mem _)
theorem good_step {m : Mc} (g : Good m) (st wi : Nat) (s : Bool) : Good (m.step st wi s) := by
  cases s with
  | true =>
    have e : ((m.nw + 1) :: m.nw :: m.bw).getLast (by simp) = (m.nw :: m.bw).getLast (by simp) := List.getLast_cons (by simp)
    refine ⟨?_, ?_, g.p, ?_⟩
    · intro x hx
      show ((m.nw + 1) :: m.nw :: m.bw).getLast _ ≤ x ∧ x ≤ m.nw + 1
      rw [e]
      rcases List.mem_cons.mp hx with h | hx
      · have := g.b m.nw List.mem_cons_self
        have h : x = m.nw + 1 := h
        omega
      · have := g.b x hx
        omega
    · intro x hx
      show x ≤ ((m.nw + 1) :: m.nw :: m.bw).getLast _ ∧ m.nr ≤ x
      rw [e]; exact g.a x hx
    · show m.nr ≤ ((m.nw + 1) :: m.nw :: m.bw).getLast _
      rw [e]; exact g.c
  | false =>
    have k := good_known g st wi
    have v := good_view g wi
    have hle : m.nr + (if (m.edge st wi false).known > m.nr then 1 else 0) ≤ (m.edge st wi false).known := by split <;> omega
    refine ⟨?_, ?_, ?_, ?_⟩
    · intro x hx
      show ([m.nw] : List Nat).getLast _ ≤ x ∧ x ≤ m.nw
      have : x = m.nw := List.mem_singleton.mp hx
      rw [this]; exact ⟨Nat.le_refl _, Nat.le_refl _⟩
    · intro x hx
      show x ≤ ([m.nw] : List Nat).getLast _ ∧ m.nr + (if (m.edge st wi false).known > m.nr then 1 else 0) ≤ x
      have hx : x ∈ (lastOf wi m.nw m.bw :: m.vr).dropLast := hx
      have hx := (List.dropLast_sublist _).subset hx
      refine ⟨(v.2 x hx).2, Nat.le_trans hle ?_⟩
      exact last_le v.1 (by simp) x hx
    · exact List.Pairwise.sublist (List.dropLast_sublist _) v.1
    · show m.nr + (if (m.edge st wi false).known > m.nr then 1 else 0) ≤ ([m.nw] : List Nat).getLast _
      exact Nat.le_trans hle k.2
theorem good_start (st : Nat) : Good (.start st) := ⟨by simp [Mc.start], by simp [Mc.start], by simp [Mc.start, List.pairwise_replicate], by simp [Mc.start]⟩
theorem good_run (st wi : Nat) : ∀ (l : List Bool) (m : Mc), Good m → Good (run st wi m l).1
  | [], m, g => g
  | s :: l, m, g => good_run st wi l _ (good_step g st wi s)
/-! a hull holds its words -/
theorem held_iff (c w : List Nat) (h : c.length = w.length) : heldB c w = true ↔ ∀ i : Nat, c[i]? = some 120 ∨ c[i]? = w[i]? := by
  induction c generalizing w with
  | nil =>
    have : w = [] := by cases w with
      | nil => rfl
      | cons _ _ => simp at h
    subst this
    simp [heldB]
  | cons a c ih =>
    cases w with
    | nil => simp at h
    | cons b w =>
      have h2 : c.length = w.length := by simpa using h
      have e : heldB (a :: c) (b :: w) = ((decide (a = 120) || decide (a = b)) && heldB c w) := rfl
      rw [e, Bool.and_eq_true, ih w h2]
      constructor
      · rintro ⟨h3, h4⟩ i
        cases i with
        | zero => simpa using h3
        | succ i => simpa using h4 i
      · intro h3
        refine ⟨by simpa using h3 0, fun i => by simpa using h3 (i + 1)⟩
theorem hull_held (n : Nat) : ∀ (ws : List (List Nat)) (c : List Nat) (done : List (List Nat)), c.length = n → (∀ w ∈ ws, w.length = n) → (∀ w ∈ done, w.length = n ∧ heldB c w = true) →
    (ws.foldl joinC c).length = n ∧ ∀ w, w ∈ done ∨ w ∈ ws → heldB (ws.foldl joinC c) w = true
  | [], c, done, hc, _, hd => ⟨hc, fun w hw => by rcases hw with h | h; exact (hd w h).2; cases h⟩
  | v :: ws, c, done, hc, hw, hd => by
    have hv := hw v List.mem_cons_self
    have hj : (joinC c v).length = n := by rw [joinC_len, hc, hv, Nat.min_self]
    have hg : ∀ i : Nat, (joinC c v)[i]? = some 120 ∨ ((joinC c v)[i]? = c[i]? ∧ (joinC c v)[i]? = v[i]?) := by
      intro i
      by_cases hi : i < n
      · have e : (joinC c v)[i]? = some (if c[i] = v[i] then c[i] else 120) := by
          rw [List.getElem?_eq_getElem (by omega)]
          unfold joinC
          rw [List.getElem_zipWith]
        rw [e]
        by_cases q : c[i] = v[i]
        · right
          rw [if_pos q, List.getElem?_eq_getElem (by omega), List.getElem?_eq_getElem (by omega), q]
          exact ⟨rfl, rfl⟩
        · left; rw [if_neg q]
      · right
        rw [List.getElem?_eq_none (by omega), List.getElem?_eq_none (by omega), List.getElem?_eq_none (by omega)]
        exact ⟨rfl, rfl⟩
    have := hull_held n ws (joinC c v) (v :: done) hj (fun w h => hw w (List.mem_cons_of_mem _ h)) (fun w h => by
      rcases List.mem_cons.mp h with rfl | h
      · refine ⟨hv, (held_iff _ _ (by omega)).mpr fun i => ?_⟩
        rcases hg i with q | q
        · exact .inl q
        · exact .inr q.2
      · obtain ⟨l1, l2⟩ := hd w h
        refine ⟨l1, (held_iff _ _ (by omega)).mpr fun i => ?_⟩
        rcases hg i with q | q
        · exact .inl q
        · rw [q.1]; exact (held_iff _ _ (by omega)).mp l2 i)
    refine ⟨this.1, fun w hw' => this.2 w ?_⟩
    rcases hw' with h | h
    · exact .inl (List.mem_cons_of_mem _ h)
    · rcases List.mem_cons.mp h with rfl | h
      · exact .inl List.mem_cons_self
      · exact .inr h
theorem held_self (w : List Nat) : heldB w w = true := (held_iff w w rfl).mpr fun _ => .inr rfl
theorem hull_may (n : Nat) (v : List Nat) (ws : List (List Nat)) (hw : ∀ w ∈ v :: ws, w.length = n) : (hullL (v :: ws)).length = n ∧ ∀ w ∈ v :: ws, mayB (hullL (v :: ws)) w = true := by
  have := hull_held n ws v [v] (hw v List.mem_cons_self) (fun w h => hw w (List.mem_cons_of_mem _ h)) (fun w h => by rw [List.mem_singleton.mp h]; exact ⟨hw v List.mem_cons_self, held_self v⟩)
  refine ⟨this.1, fun w h => ?_⟩
  show (decide (w.length = (ws.foldl joinC v).length) && heldB (ws.foldl joinC v) w) = true
  rw [this.1, hw w h, this.2 w (by
    rcases List.mem_cons.mp h with rfl | h
    · exact .inl (List.mem_singleton.mpr rfl)
    · exact .inr h)]
  simp
theorem word_len (k : Nat) : (word W16 k).length = 8 := W16_len _ (word_mem W16_ne k)
theorem word_inj {a b : Nat} (h : word W16 a = word W16 b) : a % 16 = b % 16 := by
  unfold word at h
  rw [W16_n] at h
  have ha : a % 16 < W16.length := by rw [W16_n]; omega
  have hb : b % 16 < W16.length := by rw [W16_n]; omega
  rw [List.getD_eq_getElem?_getD, List.getElem?_eq_getElem ha, List.getD_eq_getElem?_getD, List.getElem?_eq_getElem hb] at h
  have h : W16[a % 16] = W16[b % 16] := h
  have nd := List.pairwise_iff_getElem.mp W16_nodup
  rcases Nat.lt_trichotomy (a % 16) (b % 16) with q | q | q
  · exact absurd h (nd _ _ ha hb q)
  · exact q
  · exact absurd h.symm (nd _ _ hb ha q)

theorem run_bounds (st wi : Nat) : ∀ (l : List Bool) (m : Mc), m.vw.length = st → m.vr.length = st → (run st wi m l).1.nw ≤ m.nw + l.length ∧ (run st wi m l).1.nr ≤ m.nr + l.length ∧ (run st wi m l).1.vw.length = st ∧ (run st wi m l).1.vr.length = st
  | [], m, h1, h2 => ⟨Nat.le_refl _, Nat.le_refl _, h1, h2⟩
  | s :: l, m, h1, h2 => by
    have h3 : (m.step st wi s).vw.length = st ∧ (m.step st wi s).vr.length = st ∧ (m.step st wi s).nw ≤ m.nw + 1 ∧ (m.step st wi s).nr ≤ m.nr + 1 := by
      cases s with
      | true =>
        refine ⟨?_, h2, Nat.le_refl _, Nat.le_succ _⟩
        show (_ :: m.vw).dropLast.length = st
        simp [h1]
      | false =>
        refine ⟨h1, ?_, Nat.le_succ _, ?_⟩
        · show (_ :: m.vr).dropLast.length = st
          simp [h2]
        · show m.nr + (if _ then 1 else 0) ≤ m.nr + 1
          split <;> omega
    have ih := run_bounds st wi l (m.step st wi s) h3.1 h3.2.1
    simp only [run, List.length_cons]
    refine ⟨by omega, by omega, ih.2.2.1, ih.2.2.2⟩
def qOf (st wi : Nat) (m : Mc) : QS := ⟨60, st, wi, 1, W16, List.replicate m.nw [48], List.replicate m.nr [48], m.vw.map (word W16), m.vr.map (word W16), m.bw.take wi, m.br.take wi⟩
theorem qOf_ok {st wi : Nat} {m : Mc} (h1 : m.nw ≤ 1000) (h2 : m.nr ≤ 1000) (h3 : m.vw.length ≤ 10) (h4 : m.vr.length ≤ 10) (h5 : wi ≤ 10) : (qOf st wi m).Ok :=
  ⟨W16_ne, by show W16.length ≤ 1000; rw [W16_n]; omega, fun w hw => by rw [W16_len w hw]; omega, by simp [qOf]; omega, by simp [qOf]; omega, by simp [qOf]; omega, by simp [qOf]; omega, by simp [qOf]; omega, by simp [qOf]; omega, by simp [qOf], by simp [qOf], by simp [qOf], fun w hw => by
    have := (List.mem_replicate.mp hw).2
    rw [this]; simp⟩
theorem qOf_full {st wi : Nat} {m : Mc} (w : List Nat) : (qOf st wi m).full w = false := by
  unfold QS.full
  rw [Bool.and_eq_false_iff]
  right
  apply decide_eq_false
  show ¬ Int.fmod _ (W16.length : Int) = ((60 : Nat) : Int)
  rw [W16_n]
  intro h
  have := (mod_in (((qOf st wi m).sent.length : Int) - ((qOf st wi m).R.idxOf w : Nat)) 16 (by decide)).2
  rw [show ((16 : Nat) : Int) = 16 from rfl] at h
  rw [h] at this
  exact absurd this (by decide)
theorem getLast_map_word (x : Nat) (v : List Nat) : (word W16 x :: v.map (word W16)).getLast (by simp) = word W16 ((x :: v).getLast (by simp)) := by
  have e : word W16 x :: v.map (word W16) = (x :: v).map (word W16) := rfl
  simp only [e, List.getLast_map]
theorem dropLast_map_word (x : Nat) (v : List Nat) : (word W16 x :: v.map (word W16)).dropLast = ((x :: v).dropLast).map (word W16) := by
  have e : word W16 x :: v.map (word W16) = (x :: v).map (word W16) := rfl
  rw [e, List.map_dropLast]
theorem q_write {st wi : Nat} {m : Mc} : (qOf st wi m).wEdge (word W16 (lastOf wi m.nr m.br)) [48] = (qOf st wi (m.step st wi true), true) := by
  unfold QS.wEdge
  rw [qOf_full]
  simp only [qOf, Bool.not_false, Bool.false_eq_true, if_false, List.length_replicate]
  rw [take_cons, dropLast_map_word, ← List.replicate_succ']
  simp only [Mc.step, Mc.edge, if_true, List.take_nil]
theorem q_tk {st wi : Nat} {m : Mc} (g : Good m) (h : m.nw ≤ m.nr + 14) : (qOf st wi m).tk (word W16 (lastOf wi m.nw m.bw)) = decide (m.nr < (m.edge st wi false).known) := by
  have k := good_known g st wi
  unfold QS.tk
  show (!decide ((word W16 (lastOf wi m.nw m.bw) :: m.vr.map (word W16)).getLast _ = word W16 (List.replicate m.nr [48]).length)) = _
  rw [getLast_map_word, List.length_replicate]
  have e : (lastOf wi m.nw m.bw :: m.vr).getLast (by simp) = (m.edge st wi false).known := rfl
  rw [e]
  by_cases q : m.nr < (m.edge st wi false).known
  · have : ¬ word W16 (m.edge st wi false).known = word W16 m.nr := fun z => by
      have := word_inj z
      omega
    simp [q, this]
  · have : (m.edge st wi false).known = m.nr := by omega
    simp [this]
theorem q_read {st wi : Nat} {m : Mc} (g : Good m) (h : m.nw ≤ m.nr + 14) : (qOf st wi m).rEdge (word W16 (lastOf wi m.nw m.bw)) [48] = qOf st wi (m.step st wi false) := by
  unfold QS.rEdge
  rw [q_tk g h]
  simp only [qOf, List.length_replicate]
  rw [take_cons, dropLast_map_word]
  by_cases q : m.nr < (m.edge st wi false).known
  · simp only [q, decide_true, if_true, ← List.replicate_succ']
    simp [Mc.step, q]
    simp [Mc.edge]
  · simp only [q, decide_false, if_false, Bool.false_eq_true]
    simp [Mc.step, q]
    simp [Mc.edge]
theorem q_cells {st wi : Nat} {m : Mc} (hb : ∀ k ∈ m.nw :: m.bw.take wi, k ≤ m.nw) : (hullL (((qOf st wi m).sent.length :: (qOf st wi m).sb).map (qOf st wi m).cellOf)) = [48] := by
  have hc : ∀ k, k ≤ m.nw → (qOf st wi m).cellOf k = [48] := by
    intro k hk
    unfold QS.cellOf
    dsimp only
    split
    · rfl
    · rename_i hn
      show (List.replicate m.nw [48]).getD _ [] = [48]
      have hm : 0 ≤ ((k : Int) - 1 - (qOf st wi m).got.length).fmod (qOf st wi m).dp := Int.fmod_nonneg_of_pos _ (by show (0 : Int) < ((60 : Nat) : Int); decide)
      have hlt : ((k : Int) - 1 - ((k : Int) - 1 - (qOf st wi m).got.length).fmod (qOf st wi m).dp).toNat < m.nw := by omega
      rw [List.getD_eq_getElem?_getD, List.getElem?_replicate, if_pos hlt]; rfl
  have e : ((qOf st wi m).sent.length :: (qOf st wi m).sb).map (qOf st wi m).cellOf = (m.nw :: m.bw.take wi).map fun _ => [48] := by
    show ((List.replicate m.nw [48]).length :: m.bw.take wi).map _ = _
    rw [List.length_replicate]
    apply List.map_congr_left
    intro k hk
    exact hc k (hb k hk)
  rw [e]
  rw [List.map_cons]
  show (List.foldl joinC [48] _) = [48]
  generalize m.bw.take wi = z
  induction z with
  | nil => rfl
  | cons a t ih => exact ih

theorem stored_ok (q : QS) : d_Queue_stored [.loc 0] q.h = some (.d (.int ((q.sent.length : Int) - q.got.length)), q.h) := by
  refine den_q4 (body := b_Queue_stored) (np := 1) (nN := 1) rfl ?_
  walk_at "start"
  unfold b_Queue_stored QS.h
  walk_at "ev"
  rw [List.length_map, List.length_map]
  exact ⟨rfl, rfl⟩
theorem eqv_refl : ∀ ws : List (List Nat), PyData.eqvAll (ws.map tD) (ws.map tD) = true
  | [] => by rw [List.map_nil, PyData.eqvAll.eq_def]
  | w :: ws => by
    rw [List.map_cons, PyData.eqvAll.eq_def]
    simp only [eqv_str, eqv_refl ws, decide_true, Bool.and_self]
theorem eqv_list (ws : List (List Nat)) : PyData.eqv (.list (ws.map tD)) (.list (ws.map tD)) = true := by
  rw [PyData.eqv.eq_def]; exact eqv_refl ws
theorem depth_all : ∀ ws : List (List Nat), PyData.depthAll (ws.map tD) = 0
  | [] => by rw [List.map_nil, PyData.depthAll.eq_def]
  | w :: ws => by
    rw [List.map_cons, PyData.depthAll.eq_def]
    simp only [depth_all ws]
    rw [PyData.depth.eq_def]; rfl
theorem shallow_list (ws : List (List Nat)) (x : D) : shallow (.list (ws.map tD)) x = true := by
  unfold shallow
  have : (PyData.list (ws.map tD)).depth ≤ 60 := by
    rw [PyData.depth.eq_def]
    simp only [depth_all]
    omega
  simp [this]
theorem word_at16 (k : Nat) {Q : D → Prop} (q : Q (tD (word W16 k))) : okO (atI (W16.map tD) ((k : Int).fmod 16)) Q := by
  have := word_at W16_ne k q
  rw [List.length_map, W16_n] at this
  exact this
theorem natD_drop (R : Nat) (v : List Nat) (st : Nat) (h : v.length = st) : cutD ([natD R] ++ v.map natD) none (some (st : Int)) = ((R :: v).dropLast).map natD := by
  rw [cut_take, ← List.map_singleton (f := natD), ← List.map_append, ← List.map_take]
  congr 1
  rw [List.dropLast_eq_take]
  simp [h]
theorem words_comp (env : Fn.Env) (cs : Cs) (v : List Nat) (h3 : env[3]? = some (some (.d (.list (W16.map tD))))) (hl : 12 < env.length) :
    compM none [12] (gN 12) tTrue (eBin oIx (eVar 3) (eBin oMod (eB bInt (aCons (eVar 12) aNil)) (eC (.int 16)))) env (v.map natD) cs = some ((v.map (word W16)).map tD, cs) := by
  let fn : D → D := fun x => match x with
    | .int k => tD (word W16 k.toNat)
    | _ => .none
  have := comp_map (lk := none) (own := [12]) (gt := gN 12) (t := tTrue) (el := eBin oIx (eVar 3) (eBin oMod (eB bInt (aCons (eVar 12) aNil)) (eC (.int 16)))) (env := env) (cs := cs) (fun _ => true) fn rfl (v.map natD) (by
    intro x hx
    obtain ⟨k, _, rfl⟩ := List.mem_map.mp hx
    refine okO_mk rfl ?_
    walk_at "ev"
    refine ⟨rfl, rfl, fun _ => ?_⟩
    refine okE_bin (okE_var (x := .d (.list (W16.map tD))) ?_ ?_)
    · rw [List.getElem?_set_ne (by omega)]
      show (env.set 12 none)[3]? = _
      rw [List.getElem?_set_ne (by omega)]; exact h3
    refine okE_bin (okE_b (okA_cons (okE_var (x := .d (natD k)) ?_ ?_)))
    · rw [List.getElem?_set_self (by show 12 < (env.set 12 none).length; rw [List.length_set]; exact hl)]
    walk_at "ev"
    refine word_at16 k ?_
    exact ⟨rfl, rfl⟩)
  rw [this, filter_true, List.map_map, List.map_map]
  congr 2
theorem ne_same (ws : List (List Nat)) (cs : Cs) {QB : Bool → Prop} (q : QB false) : okO (cNe (.d (.list (ws.map tD))) (.d (.list (ws.map tD))) cs) QB :=
  v_ne rfl rfl (by rw [eqv_list]; exact q) (shallow_list _ _)
theorem queue_right_ok (L : List Bool) (st wi : Nat) (hL : L.length ≤ 70) (hst : st ≤ 10) (hwi : wi ≤ 10) : d_law_queue_right [.d (.list ((runE st wi L).map Ed.d)), .d (.int st), .d (.int wi)] [] = some (.d (.bool true), []) := by
  refine den_frz (body := b_law_queue_right) (np := 3) (nN := 13) rfl ?_
  walk_at "start"
  unfold b_law_queue_right
  walk_at "ev"
  refine okO_mk (call_flat rfl rfl stretch_ok) ?_
  walk_at "ev"
  refine okO_mk (init_call 60 st wi 1 8 W16 W16_ne W16_len (by omega) W16_nodup (by omega)) ?_
  refine ⟨rfl, ?_⟩
  simp only [List.length_nil]
  unfold QS.h
  walk_at "ev"
  have rep0 : (List.replicate ((st : Int)).toNat [PyData.int 0]).flatten = (List.replicate st 0).map natD := by
    rw [Int.toNat_natCast]
    clear hst
    induction st with
    | zero => rfl
    | succ k ih => rw [List.replicate_succ, List.flatten_cons, ih]; rfl
  refine v_mulL ?_ ⟨by simp only [B63]; omega, by simp only [B63]; omega, by simp only [List.length_cons, List.length_nil, sizeLine, Int.toNat_natCast]; omega⟩
  walk_at "ev"
  refine v_mulL ?_ ⟨by simp only [B63]; omega, by simp only [B63]; omega, by simp only [List.length_cons, List.length_nil, sizeLine, Int.toNat_natCast]; omega⟩
  rw [rep0]
  walk_at "ev"
  let vd : Mc → Cell := fun m => .dct [(.inr "w", .d (.list (m.vw.map natD))), (.inr "r", .d (.list (m.vr.map natD)))]
  have en : (runE st wi L).length = L.length := run_len _ _ _ _
  refine okS_forL (fun pre env cs => ∃ k1 k2 k3 k4 k5 k6 k7 : Option A, env = [some (A.d (.list ((runE st wi L).map Ed.d))), some (.d (.int st)), some (.d (.int wi)), some (.d (.list (W16.map tD))), some (.loc 0), some (.loc 4), k1, k2, k3, k4, k5, k6, k7] ∧
      cs = (qOf st wi (runM st wi (L.take pre.length))).h ++ [vd (runM st wi (L.take pre.length))])
    ⟨none, none, none, none, none, none, none, rfl, ?_⟩ (fun _ _ _ _ => rfl) ?_ ?_
  · show _ = (qOf st wi (runM st wi (L.take 0))).h ++ _
    rw [List.take_zero]
    have e : qOf st wi (runM st wi []) = QS.new 60 st wi 1 W16 := by
      unfold qOf QS.new
      simp [runM, run, Mc.start]
      exact Or.inr (by decide +kernel)
    rw [e]
    rfl
  · rintro pre x post env cs e ⟨k1, k2, k3, k4, k5, k6, k7, rfl, rfl⟩
    have hn : pre.length < L.length := by
      have := congrArg List.length e
      simp [en] at this; omega
    have hsp : L.take (pre.length + 1) = L.take pre.length ++ [L[pre.length]] := by rw [List.take_succ, List.getElem?_eq_getElem hn]; rfl
    obtain ⟨r1, r2⟩ := run_snoc st wi (L.take pre.length) L[pre.length]
    have hx : x = Ed.d ((runM st wi (L.take pre.length)).edge st wi L[pre.length]) := by
      have h1 : ((runE st wi L).map Ed.d)[pre.length]? = some x := by rw [e]; simp
      have h2 : (runE st wi (L.take (pre.length + 1)))[pre.length]? = (runE st wi L)[pre.length]? := by
        rw [← runE_take, List.getElem?_take, if_pos (by omega)]
      rw [hsp, r2, List.getElem?_append_right (by rw [show (runE st wi (L.take pre.length)).length = (L.take pre.length).length from run_len _ _ _ _, List.length_take]; omega)] at h2
      rw [show (runE st wi (L.take pre.length)).length = pre.length by rw [show (runE st wi (L.take pre.length)).length = (L.take pre.length).length from run_len _ _ _ _, List.length_take]; omega, Nat.sub_self] at h2
      rw [List.getElem?_map, ← h2] at h1
      exact (Option.some.inj h1).symm
    have hnext : runM st wi (L.take (pre ++ [x]).length) = (runM st wi (L.take pre.length)).step st wi L[pre.length] := by
      rw [List.length_append, List.length_singleton, hsp, r1]
    subst hx
    have bd := run_bounds st wi (L.take pre.length) (.start st) (by simp [Mc.start]) (by simp [Mc.start])
    have g := good_run st wi (L.take pre.length) (.start st) (good_start st)
    have hmn : (run st wi (.start st) (L.take pre.length)).1 = runM st wi (L.take pre.length) := rfl
    rw [hmn] at bd g
    rw [hnext]
    generalize runM st wi (L.take pre.length) = m at *
    generalize L[pre.length] = s at *
    have b1 : m.nw ≤ 70 := by have := bd.1; simp [Mc.start] at this; omega
    have b2 : m.nr ≤ 70 := by have := bd.2.1; simp [Mc.start] at this; omega
    have b3 := bd.2.2.1
    have b4 := bd.2.2.2
    have qok := qOf_ok (st := st) (wi := wi) (m := m) (by omega) (by omega) (by omega) (by omega) (by omega)
    rw [show Ed.d (m.edge st wi s) = .tuple [.str (sideS (m.edge st wi s).side), .int (m.edge st wi s).read, .int (m.edge st wi s).known, .int (m.edge st wi s).now] from rfl]
    rw [show (qOf st wi m).h = [.ins "Queue" (qOf st wi m).f, .lst ((qOf st wi m).sent.map tD), .lst ((qOf st wi m).got.map tD), .dct []] from rfl]
    simp only [List.cons_append, List.nil_append]
    walk_at "ev"
    refine okO_mk (q_call (xs := []) (t := [vd m]) (stored_ok (qOf st wi m))) ?_
    walk_at "ev"
    rw [show (qOf st wi m).h ++ [vd m] = [.ins "Queue" (qOf st wi m).f, .lst ((qOf st wi m).sent.map tD), .lst ((qOf st wi m).got.map tD), .dct [], vd m] from rfl]
    refine ite_mk (fun hc => ?_) (fun hc => ?_)
    · walk_at "ev"
      exact outD_d rfl
    · have hc := of_decide_eq_false hc
      have hc : m.nw ≤ m.nr + 14 := by
        simp [qOf] at hc; omega
      walk_at "ev"
      refine word_at16 _ ?_
      cases s with
      | true =>
        rw [show sideS (m.edge st wi true).side = ⟨#[119]⟩ from rfl]
        have hr : (m.edge st wi true).read = lastOf wi m.nr m.br := rfl
        rw [hr]
        walk_at "ev"
        rw [natD_drop _ _ st b3]
        refine ite_no (by simp [qOf, Mc.edge]) ?_
        walk_at "ev"
        have hv : (m.step st wi true).vw = (lastOf wi m.nr m.br :: m.vw).dropLast := rfl
        have hv2 : (m.step st wi true).vr = m.vr := rfl
        have hm := hull_may 8 (word W16 m.nr) ((m.br.take wi).map (word W16)) (fun w hw => by
          rcases List.mem_cons.mp hw with rfl | hw
          · exact word_len _
          · obtain ⟨k, _, rfl⟩ := List.mem_map.mp hw; exact word_len _)
        have hgl : (qOf st wi m).got.length = m.nr := by simp [qOf]
        have he : ((qOf st wi m).got.length :: (qOf st wi m).gb).map (word (qOf st wi m).R) = word W16 m.nr :: (m.br.take wi).map (word W16) := by rw [hgl]; rfl
        have hmem : word W16 (lastOf wi m.nr m.br) ∈ word W16 m.nr :: (m.br.take wi).map (word W16) := by
          rw [← List.map_cons]; exact List.mem_map_of_mem (lastOf_mem wi m.nr m.br)
        have hw := write_edge_ok (qOf st wi m) qok (word W16 (lastOf wi m.nr m.br)) [48] (by rw [word_len]; omega) (by rw [he]; exact hm.2 _ hmem) (by rw [he, hm.1]; omega)
        rw [q_write] at hw
        refine okO_mk (q_call (xs := [tD (word W16 (lastOf wi m.nr m.br)), tD [48]]) (t := [vd (m.step st wi true)]) hw) ?_
        rw [show (qOf st wi (m.step st wi true)).h ++ [vd (m.step st wi true)] = [.ins "Queue" (qOf st wi (m.step st wi true)).f, .lst ((qOf st wi (m.step st wi true)).sent.map tD), .lst ((qOf st wi (m.step st wi true)).got.map tD), .dct [], .dct [(.inr "w", .d (.list ((m.step st wi true).vw.map natD))), (.inr "r", .d (.list ((m.step st wi true).vr.map natD)))]] from rfl]
        generalize m.step st wi true = m' at *
        walk_at "ev"
        refine ⟨?_, by rw [List.length_map, hv]; simp only [sizeLine, List.length_dropLast, List.length_cons]; omega⟩
        refine okO_mk (words_comp _ _ _ rfl (by simp)) ?_
        refine ne_same _ _ ?_
        walk_at "ev"
        exact ⟨_, _, _, _, _, _, _, rfl, rfl⟩
      | false =>
        rw [show sideS (m.edge st wi false).side = ⟨#[114]⟩ from rfl]
        have hr : (m.edge st wi false).read = lastOf wi m.nw m.bw := rfl
        rw [hr]
        walk_at "ev"
        rw [natD_drop _ _ st b4]
        refine ite_no (by simp [qOf, Mc.edge]) ?_
        walk_at "ev"
        have hv : (m.step st wi false).vr = (lastOf wi m.nw m.bw :: m.vr).dropLast := rfl
        have hv2 : (m.step st wi false).vw = m.vw := rfl
        have hm := hull_may 8 (word W16 m.nw) ((m.bw.take wi).map (word W16)) (fun w hw => by
          rcases List.mem_cons.mp hw with rfl | hw
          · exact word_len _
          · obtain ⟨k, _, rfl⟩ := List.mem_map.mp hw; exact word_len _)
        have hgl : (qOf st wi m).sent.length = m.nw := by simp [qOf]
        have he : ((qOf st wi m).sent.length :: (qOf st wi m).sb).map (word (qOf st wi m).R) = word W16 m.nw :: (m.bw.take wi).map (word W16) := by rw [hgl]; rfl
        have hmem : word W16 (lastOf wi m.nw m.bw) ∈ word W16 m.nw :: (m.bw.take wi).map (word W16) := by
          rw [← List.map_cons]; exact List.mem_map_of_mem (lastOf_mem wi m.nw m.bw)
        have hbk : ∀ k ∈ m.nw :: m.bw.take wi, k ≤ m.nw := by
          intro k hk
          rcases List.mem_cons.mp hk with rfl | hk
          · exact Nat.le_refl _
          · exact (g.b k (List.mem_cons_of_mem _ (List.mem_of_mem_take hk))).2
        have hcell := q_cells (st := st) (wi := wi) hbk
        have hw := read_edge_ok (qOf st wi m) qok (word W16 (lastOf wi m.nw m.bw)) [48] (by rw [word_len]; omega) (by simp) (fun k hk => by rw [hgl]; exact hbk k (List.mem_cons_of_mem _ hk)) (by rw [he]; exact hm.2 _ hmem) (by rw [he, hm.1]; omega) (fun _ => by rw [hcell]; exact ⟨rfl, by simp⟩)
        rw [q_read g hc, q_tk g hc] at hw
        have hkn := good_known g st wi
        have hnow : (m.edge st wi false).now = m.nr := rfl
        rw [hnow]
        by_cases q : m.nr < (m.edge st wi false).known
        · have hq := q
          rw [if_pos (decide_eq_true q)] at hw
          refine okO_mk (q_call (xs := [tD (word W16 (lastOf wi m.nw m.bw)), tD [48]]) (t := [vd (m.step st wi false)]) hw) ?_
          rw [show (qOf st wi (m.step st wi false)).h ++ [vd (m.step st wi false)] = [.ins "Queue" (qOf st wi (m.step st wi false)).f, .lst ((qOf st wi (m.step st wi false)).sent.map tD), .lst ((qOf st wi (m.step st wi false)).got.map tD), .dct [], .dct [(.inr "w", .d (.list ((m.step st wi false).vw.map natD))), (.inr "r", .d (.list ((m.step st wi false).vr.map natD)))]] from rfl]
          generalize m.step st wi false = m' at *
          generalize (m.edge st wi false).known = kn at *
          have hd : decide ((kn : Int) ≤ (m.nr : Int)) = false := decide_eq_false (by omega)
          walk_at "ev"
          rw [hd]
          walk_at "ev"
          refine ⟨?_, by rw [List.length_map, hv]; simp only [sizeLine, List.length_dropLast, List.length_cons]; omega⟩
          refine okO_mk (words_comp _ _ _ rfl (by simp)) ?_
          refine ne_same _ _ ?_
          walk_at "ev"
          exact ⟨_, _, _, _, _, _, _, rfl, rfl⟩
        · have hq := q
          rw [if_neg (by simpa using q)] at hw
          refine okO_mk (q_call (xs := [tD (word W16 (lastOf wi m.nw m.bw)), tD [48]]) (t := [vd (m.step st wi false)]) hw) ?_
          rw [show (qOf st wi (m.step st wi false)).h ++ [vd (m.step st wi false)] = [.ins "Queue" (qOf st wi (m.step st wi false)).f, .lst ((qOf st wi (m.step st wi false)).sent.map tD), .lst ((qOf st wi (m.step st wi false)).got.map tD), .dct [], .dct [(.inr "w", .d (.list ((m.step st wi false).vw.map natD))), (.inr "r", .d (.list ((m.step st wi false).vr.map natD)))]] from rfl]
          generalize m.step st wi false = m' at *
          generalize (m.edge st wi false).known = kn at *
          have hd : decide ((kn : Int) ≤ (m.nr : Int)) = true := decide_eq_true (by omega)
          walk_at "ev"
          rw [hd]
          walk_at "ev"
          refine ⟨?_, by rw [List.length_map, hv]; simp only [sizeLine, List.length_dropLast, List.length_cons]; omega⟩
          refine okO_mk (words_comp _ _ _ rfl (by simp)) ?_
          refine ne_same _ _ ?_
          walk_at "ev"
          exact ⟨_, _, _, _, _, _, _, rfl, rfl⟩
  · rintro env cs ⟨k1, k2, k3, k4, k5, k6, k7, rfl, -⟩
    walk_at "ev"
    exact outD_d rfl

theorem eqv_ints : ∀ l : List Int, PyData.eqvAll (l.map PyData.int) (l.map PyData.int) = true
  | [] => by rw [List.map_nil, PyData.eqvAll.eq_def]
  | w :: ws => by
    rw [List.map_cons, PyData.eqvAll.eq_def]
    simp only [eqv_int, eqv_ints ws, decide_true, Bool.and_self]
theorem eqv_listI (l : List Int) : PyData.eqv (.list (l.map PyData.int)) (.list (l.map PyData.int)) = true := by
  rw [PyData.eqv.eq_def]; exact eqv_ints l
theorem depth_ints : ∀ l : List Int, PyData.depthAll (l.map PyData.int) = 0
  | [] => by rw [List.map_nil, PyData.depthAll.eq_def]
  | w :: ws => by
    rw [List.map_cons, PyData.depthAll.eq_def]
    simp only [depth_ints ws]
    rw [PyData.depth.eq_def]; rfl
theorem shallow_ints (l : List Int) (x : D) : shallow (.list (l.map PyData.int)) x = true := by
  unfold shallow
  have : (PyData.list (l.map PyData.int)).depth ≤ 60 := by
    rw [PyData.depth.eq_def]
    simp only [depth_ints]
    omega
  simp [this]
def gapI (E : List Ed) : List Int := (E.filter (·.side)).map fun e => (e.now : Int) - e.known
theorem gapD_I (E : List Ed) : gapD E = (gapI E).map PyData.int := by
  unfold gapD gapI
  rw [List.map_map]; rfl
theorem den_frz1 {np nN : Nat} {body : S} {xs : List A} {x : D} {ds : List D} {ds' : List D} (hl : xs.length = np) (h : okS body (startE nN xs) [.lst ds] fun o _ c => o = .rt (.d x) ∧ c = [.lst ds']) : den np nN .frz body xs [.lst ds] = some (.d x, [.lst ds']) := by
  obtain ⟨o, e1, c1, h1, rfl, rfl⟩ := h
  unfold den
  rw [if_pos hl, h1]
  rfl
theorem same_ints : ∀ l : List Int, sameDs (l.map PyData.int) (l.map PyData.int) = true
  | [] => by rw [List.map_nil, sameDs.eq_def]
  | w :: ws => by
    rw [List.map_cons, sameDs.eq_def]
    simp only [same_ints ws, Bool.and_true]
    rw [sameD.eq_def]
    simp
theorem whole_ok (l : List Int) (hl : l.length ≤ 100000) : d_law_whole_numbers [.loc 0] [.lst (l.map PyData.int)] = some (.d (.bool true), [.lst (l.map PyData.int)]) := by
  refine den_frz1 (body := b_law_whole_numbers) (np := 1) (nN := 2) rfl ?_
  walk_at "start"
  unfold b_law_whole_numbers
  walk_at "ev"
  refine ⟨?_, by simp only [List.length_map, sizeLine]; omega⟩
  refine okO_mk (Fn.comp_map (lk := some (0, l.map PyData.int)) (cs := [.lst (l.map PyData.int)]) (fun _ => false) (fun _ => .none) (same_ints l) _ ?_) ?_
  · intro x hx
    obtain ⟨i, _, rfl⟩ := List.mem_map.mp hx
    simp only [wipeE, List.set_cons_zero, List.set_cons_succ]
    walk_at "ev"
    exact ⟨rfl, rfl, fun h => by cases h⟩
  · rw [show (l.map PyData.int).filter (fun _ => false) = [] from List.filter_eq_nil_iff.mpr (by simp)]
    walk_at "ev"
    exact ⟨rfl, rfl⟩
theorem gapI_len (E : List Ed) : (gapI E).length ≤ E.length := by
  unfold gapI
  rw [List.length_map]
  exact List.length_filter_le _ _
theorem runs_len (bs : List Bool) (n : Nat) (hb : bs.length ≤ 206) (hn : n ≤ 40) : (List.replicate n bs).flatten.length ≤ 8240 := by
  simp
  calc n * bs.length ≤ 40 * 206 := Nat.mul_le_mul hn hb
    _ = 8240 := rfl
theorem ne_ints (l : List Int) (n : Nat) (cs : Cs) (h : lstAt cs n = some (l.map PyData.int)) {QB : Bool → Prop} (q : QB false) : okO (cNe (.loc n) (.d (.list (l.map PyData.int))) cs) QB :=
  v_ne (a := .list (l.map PyData.int)) (b := .list (l.map PyData.int)) (by show (lstAt cs n).bind _ = _; rw [h]; rfl) rfl (by rw [eqv_listI]; exact q) (shallow_ints _ _)
theorem eq_ints (l : List Int) (n : Nat) (cs : Cs) (h : lstAt cs n = some (l.map PyData.int)) {QB : Bool → Prop} (q : QB true) : okO (cEq (.loc n) (.d (.list (l.map PyData.int))) cs) QB :=
  v_eq (a := .list (l.map PyData.int)) (b := .list (l.map PyData.int)) (by show (lstAt cs n).bind _ = _; rw [h]; rfl) rfl (by rw [eqv_listI]; exact q) (shallow_ints _ _)
theorem gaps_right_ok (bs : List Bool) (st wi n : Nat) (hb : bs.length ≤ 206) (hn : n ≤ 40) (hst : st ≤ 10) (hwi : wi ≤ 10) :
    d_law_gaps_right [.d (.str (txt (bs.map code))), .d (.int st), .d (.int wi), .d (.int n), .d (.list ((gapI (runE st wi (List.replicate n bs).flatten)).map PyData.int))] [] = some (.d (.bool true), []) := by
  refine den_frz (body := b_law_gaps_right) (np := 5) (nN := 6) rfl ?_
  have hL := latest_ok bs st wi n hb hn hst hwi
  rw [gapD_I] at hL
  have hE : (runE st wi (List.replicate n bs).flatten).length ≤ 8240 := by
    rw [show (runE st wi (List.replicate n bs).flatten).length = (List.replicate n bs).flatten.length from run_len _ _ _ _]
    exact runs_len bs n hb hn
  have hG := gapI_len (runE st wi (List.replicate n bs).flatten)
  generalize gapI (runE st wi (List.replicate n bs).flatten) = G at *
  walk_at "start"
  unfold b_law_gaps_right
  walk_at "ev"
  refine okO_mk (call_new rfl rfl hL) ?_
  simp only [List.length_nil, List.nil_append]
  walk_at "ev"
  refine okO_mk (call_one (n := 0) rfl (whole_ok G (by omega))) ?_
  simp only [List.set_cons_zero]
  walk_at "ev"
  refine ne_ints G 0 _ rfl ?_
  walk_at "ev"
  refine okO_mk (call_new rfl rfl hL) ?_
  simp only [List.length_cons, List.length_nil, List.cons_append, List.nil_append, Nat.reduceAdd]
  walk_at "ev"
  refine eq_ints G 1 _ rfl ?_
  walk_at "ev"
  exact outD_d rfl
theorem gap_prefix (st wi : Nat) (bs : List Bool) (n : Nat) (hn : n ≤ 40) : (gapI (runE st wi (List.replicate 40 bs).flatten)).take (n * (bs.filter id).length) = gapI (runE st wi (List.replicate n bs).flatten) := by
  have e : (List.replicate 40 bs).flatten = (List.replicate n bs).flatten ++ (List.replicate (40 - n) bs).flatten := by
    rw [← List.flatten_append, List.replicate_append_replicate]
    congr 2; omega
  have sides : ∀ (m : Mc) (l : List Bool), ((run st wi m l).2.filter (·.side)).length = (l.filter id).length := by
    intro m l
    induction l generalizing m with
    | nil => rfl
    | cons s l ih =>
      simp only [run]
      have hs : (m.edge st wi s).side = s := rfl
      rw [List.filter_cons, List.filter_cons, hs]
      cases s with
      | true => simp [ih]
      | false => simpa using ih _
  have cnt : ∀ k : Nat, ((List.replicate k bs).flatten.filter id).length = k * (bs.filter id).length := by
    intro k
    induction k with
    | zero => simp
    | succ k ih => rw [List.replicate_succ, List.flatten_cons, List.filter_append, List.length_append, ih, Nat.succ_mul, Nat.add_comm]
  unfold gapI runE
  rw [e, run_app]
  simp only [List.filter_append, List.map_append]
  rw [List.take_append_of_le_length (by rw [List.length_map, sides, cnt]; exact Nat.le_refl _), List.take_of_length_le (by rw [List.length_map, sides, cnt]; exact Nat.le_refl _)]
theorem count_w (bs : List Bool) : Txt.count (txt (bs.map code)) "w" = ((bs.filter id).length : Int) := by
  have : ("w" : Str) = ⟨#[119]⟩ := rfl
  rw [this, count_txt, List.filter_map, List.length_map]
  congr 3
  funext b
  cases b <;> rfl
theorem nat_of (i b : Int) (h : 0 ≤ i ∧ i < b) : ∃ n : Nat, i = (n : Int) ∧ (n : Int) < b := ⟨i.toNat, by omega, by omega⟩
theorem law_true (ns : List Int) : ∃ cs', d_law [.ro (ns.map PyData.int)] [] = some (.d (.bool true), cs') := by
  refine ⟨[], den_frz (body := b_law) (np := 1) (nN := 11) rfl ?_⟩
  walk_at "start"
  unfold b_law
  walk_at "ev"
  refine okO_mk (call_flat rfl rfl (cell_ok ns 0)) ?_
  walk_at "ev"
  obtain ⟨l, e1, l1, l2⟩ := numbers_ok (ns.getD 0 0) 5040 14 (by omega) (by omega) (by omega)
  refine okO_mk (call_flat rfl rfl e1) ?_
  walk_at "ev"
  obtain ⟨a, b, c, l', rfl⟩ : ∃ a b c l', l = a :: b :: c :: l' := by
    match l, l1 with
    | a :: b :: c :: l', _ => exact ⟨a, b, c, l', rfl⟩
  obtain ⟨w, e2, w1, w2⟩ := schedule_ok a b c l' (by simp at l1; omega)
  refine okO_mk (call_flat rfl rfl e2) ?_
  obtain ⟨bs, rfl⟩ := wr_code w w1
  have hb : bs.length ≤ 206 := by simpa using w2
  walk_at "ev"
  refine okO_mk (call_flat rfl rfl (cell_ok ns 1)) ?_
  walk_at "ev"
  obtain ⟨d, e3, d1, d2⟩ := numbers_ok (ns.getD 1 0) 5040 4 (by omega) (by omega) (by omega)
  refine okO_mk (call_flat rfl rfl e3) ?_
  obtain ⟨x0, x1, x2, x3, rfl⟩ : ∃ x0 x1 x2 x3, d = [x0, x1, x2, x3] := by
    match d, d1 with
    | [a, b, c, e], _ => exact ⟨a, b, c, e, rfl⟩
  simp only [List.map_cons, List.map_nil]
  walk_at "ev"
  obtain ⟨st, hs1, hs2⟩ := nat_of _ _ (mod_in x0 4 (by decide))
  obtain ⟨wi, hw1, hw2⟩ := nat_of _ _ (mod_in x1 4 (by decide))
  rw [hs1, hw1]
  refine okO_mk (call_flat rfl rfl (edges_ok bs st wi 40 hb (by omega) (by omega) (by omega))) ?_
  have hE : (runE st wi (List.replicate 40 bs).flatten).length ≤ 8240 := by
    rw [show (runE st wi (List.replicate 40 bs).flatten).length = (List.replicate 40 bs).flatten.length from run_len _ _ _ _]
    exact runs_len bs 40 hb (by omega)
  walk_at "ev"
  refine okO_mk (call_flat rfl rfl (gaps_ok _ (by omega))) ?_
  walk_at "ev"
  refine okO_mk (x := (.d (.int ((bs.filter id).length : Nat)), [])) (by show some (A.d (.int (Txt.count (txt (bs.map code)) "w")), _) = _; rw [count_w]) ?_
  walk_at "ev"
  have hwr : (bs.filter id).length ≤ 206 := Nat.le_trans (List.length_filter_le _ _) hb
  obtain ⟨n1, hn1, hn2⟩ := nat_of _ _ (mod_in x2 41 (by decide))
  obtain ⟨n2, hn3, hn4⟩ := nat_of _ _ (mod_in x3 5 (by decide))
  rw [hn1, hn3]
  refine okS_forL (fun pre env cs => ∃ k : Option A, env = [some (A.ro (ns.map PyData.int)), some (.d (.list (.int a :: .int b :: .int c :: l'.map PyData.int))), some (.d (.str (txt (bs.map code)))), some (.d (.list [.int x0, .int x1, .int x2, .int x3])), some (.d (.int st)), some (.d (.int wi)),
      some (.d (.list ((runE st wi (List.replicate 40 bs).flatten).map Ed.d))), some (.d (.list (gapD (runE st wi (List.replicate 40 bs).flatten)))), some (.d (.int ((bs.filter id).length : Nat))), k, none] ∧ cs = [])
    ⟨none, rfl, rfl⟩ (fun _ _ _ _ => rfl) ?_ ?_
  · rintro pre x post env cs e ⟨k, rfl, rfl⟩
    obtain ⟨n, hn, rfl⟩ : ∃ n : Nat, n ≤ 40 ∧ x = .int n := by
      have : x ∈ [PyData.int (n1 : Int), PyData.int (n2 : Int)] := by rw [e]; simp
      simp only [List.mem_cons, List.not_mem_nil, or_false] at this
      rcases this with rfl | rfl
      · exact ⟨n1, by omega, rfl⟩
      · exact ⟨n2, by omega, rfl⟩
    walk_at "ev"
    refine v_mulI ?_ (.inr ⟨by simp only [B64]; omega, by simp only [B64]; omega⟩)
    walk_at "ev"
    have hcut : cutD (gapD (runE st wi (List.replicate 40 bs).flatten)) none (some ((n : Int) * ((bs.filter id).length : Nat))) = (gapI (runE st wi (List.replicate n bs).flatten)).map PyData.int := by
      have : (n : Int) * ((bs.filter id).length : Nat) = ((n * (bs.filter id).length : Nat) : Int) := by simp
      rw [this, cut_take, gapD_I, ← List.map_take, gap_prefix st wi bs n hn]
    rw [hcut]
    refine okO_mk (call_flat rfl rfl (gaps_right_ok bs st wi n hb hn (by omega) (by omega))) ?_
    walk_at "ev"
    exact ⟨_, rfl, rfl⟩
  · rintro env cs ⟨k, rfl, rfl⟩
    walk_at "ev"
    have hL := latest_ok bs st wi 40 hb (by omega) (by omega) (by omega)
    rw [gapD_I] at hL ⊢
    have hG := gapI_len (runE st wi (List.replicate 40 bs).flatten)
    generalize gapI (runE st wi (List.replicate 40 bs).flatten) = G at *
    refine okO_mk (call_new rfl rfl hL) ?_
    simp only [List.length_nil, List.nil_append]
    walk_at "ev"
    refine okO_mk (call_one (n := 0) rfl (whole_ok G (by omega))) ?_
    simp only [List.set_cons_zero]
    walk_at "ev"
    refine ne_ints G 0 _ rfl ?_
    walk_at "ev"
    rw [show (some (70 : Int)) = some ((70 : Nat) : Int) from rfl, cut_take, ← List.map_take, runE_take]
    refine okO_mk (call_flat rfl rfl (queue_right_ok _ st wi (by rw [List.length_take]; omega) (by omega) (by omega))) ?_
    exact outD_d rfl

end K62
end
section
namespace K62
open PySem PySem.Spec PyProof.Rows L2 Fn
abbrev endR : PySem.W.OpenRow := PySem.W.OpenLaw.row PySem.Challenge.rw_betweentwoclocks_k62_gaps_of_the_latest
abbrev endH : PySem.W.Hook := hookX 6 facts fns
def endOb (s : PySem.W.SharedT) : AlX := obsXG 6 facts fns (HandSHeadRun.getT s)
theorem endOb_eq (s : PySem.W.SharedT) : endOb s = endH.obs s.abs := obsXG_eq (HandSHeadRun.getT_eq s)
def endLoose : List PySem.Str := ["_wall", "__name__", "ROUNDS", "latest_gaps", "ClockError", "hull", "is_held", "BadRing", "check_ring", "DoubleWord", "BadReading", "check_words", "_may_be_read", "Queue", "_law_cell", "_law_numbers", "_law_schedule", "_law_edges", "_law_gaps", "_law_stretch", "_law_whole_numbers", "_law_gaps_right", "_law_queue_right"]
theorem endRun (w : World) : HandSHeadRun.RunEq endR (PySem.W.view endR.prog [28]) endH endOb 4000 endLoose w := by
  intro os
  kernel_rfl
end K62
open PySem PySem.W PySem.Calls PyProof.Rows
theorem K62.holds_of (hl : ∀ ns : List Int, ns.length ≤ 63 → ∃ cs', K62.d_law [.ro (ns.map PyData.int)] [] = some (.d (.bool true), cs')) : PySem.Challenge.rw_betweentwoclocks_k62_gaps_of_the_latest.Holds := by
  w_on; o_law
  refine HandSHeadRun.head_any (r := OpenLaw.row PySem.Challenge.rw_betweentwoclocks_k62_gaps_of_the_latest) (q := view (OpenLaw.row PySem.Challenge.rw_betweentwoclocks_k62_gaps_of_the_latest).prog [28]) (H := K62.endH) (ob := K62.endOb) (M := 4000) (loose := K62.endLoose) (d := HandSHeadRun.topDef (OpenLaw.row PySem.Challenge.rw_betweentwoclocks_k62_gaps_of_the_latest).prog 28) (kwd := []) K62.endOb_eq
    (by kernel_rfl) (fun s => by kernel_rfl) K62.endRun (by kernel_rfl) (by kernel_rfl) (by kernel_rfl) (by rfl) (by first | assumption | decide +kernel) (by decide +kernel) ⟨rfl, rfl, rfl, rfl, rfl, by decide +kernel⟩ ?hw ?hc
  case hw => w_witness2
  case hc =>
    refine L2.walk_ofE (l := PySem.Challenge.rw_betweentwoclocks_k62_gaps_of_the_latest) (n := 63) (k := 6) (x := "script") (CX := L2.CX0) rfl (by decide) (by kernel_rfl) ⟨rfl, by decide, by decide⟩ ?F (fun _ _ _ _ z => z)
    intro w mg fa h Y G hmg0
    obtain ⟨K, KX, c⟩ := Y
    have hmg : mg ("law" : PySem.Str) = some (.ref fa) := by
      have e : (HandSHeadRun.topDef (OpenLaw.row PySem.Challenge.rw_betweentwoclocks_k62_gaps_of_the_latest).prog 28).name = ("law" : PySem.Str) := by kernel_rfl
      rw [← e]
      exact hmg0
    obtain ⟨T⟩ := K62.told KX G c
    have e := hmg.symm.trans T.g_law
    cases e
    have b := L2.FunD.bindsA (ps := ["script"]) T.F_law fun _ _ _ _ _ _ us hl => match us, hl with | [_], _ => rfl
    exact ⟨K, T.fd_law, Fn.spD K K62.d_law, KX, fun s v => b s [v] rfl, fun H a ns hn _ hS => let ⟨_, e⟩ := hl ns hn; Fn.law_sp hS e, fun base _ _ => K62.ok_law T⟩
end
theorem PySem.Challenge.cw_betweentwoclocks_k62_gaps_of_the_latest_holds : PySem.Challenge.rw_betweentwoclocks_k62_gaps_of_the_latest.Holds := by
  exact K62.holds_of fun ns hn => K62.law_true ns
