import PyProof.Rows.All
import Wide.All
import OpenK.AllK
import Wide.FinOn
import HandS.ForMost
import HandS.Exc
import HandS.ExcOwn
import HandS.TryOnly
import HandS.Defaults
import HandS.IsInst
import HandS.Wide
import HandS.TupAny
import HandS.TupLe
import HandS.Walk
import HandS.WideBits
import HandS.Deep
import HandS.Flow
import HandS.CallSlots
import HandS.Comp
import HandS.Style
import HandS.List
import HandS.HeadEnd
import HandS.HeadHook1
import HandS.HeadHook2
import HandS.Head0
import HandS.Head1
import HandS.Head2
import KE.KStateDown
import Lean
import PySem.Challenge.RW_postalike_k01_words_of_any_kind
set_option Elab.async false
set_option linter.all false
set_option maxRecDepth 100000
set_option maxHeartbeats 0
/-! AMa: the abstract machine's values, and how they lie in the tracked heap. -/
namespace AM
open PySem PySem.Spec PyProof.Rows L2

/-- a value of the abstract machine: tuples are trees; lst, dic: a list, a dict that is never changed again; ref: an object of the machine's own heap; glo: a def or class of the module -/
inductive AV where
  | non | bl (b : Bool) | int (i : Int) | str (s : Str) | ty (n : String)
  | tup (xs : List AV) | lst (xs : List AV) | dic (ks : List Key) (vs : List AV)
  | ext (xs : List AV) | ref (n : Nat) | glo (x : Str)
/-- an object of the machine's heap -/
inductive AO where
  | lst (xs : List AV) | dic (ks : List Key) (vs : List AV) | ins (c : Str) (fs : List (Str × AV))
abbrev AH := List AO
abbrev Env := List (Option AV)
inductive Res (α : Type) where
  | ok (a : α) (h : AH) | exc (c : Str) (fs : List (Str × AV)) (h : AH) | stk
def Res.bind {α β : Type} (r : Res α) (f : α → AH → Res β) : Res β := match r with
  | .ok a h => f a h
  | .exc c fs h => .exc c fs h
  | .stk => .stk
/-- an expression's meaning -/
abbrev ME := AM.Env → AH → Res AV
abbrev MEs := AM.Env → AH → Res (List AV)
def retM (v : AV) : ME := fun _ h => .ok v h
def bindM (m : ME) (f : AV → ME) : ME := fun ρ h => (m ρ h).bind fun v h1 => f v ρ h1

/-! ### how they lie -/
/-- what is fixed: the written part, where the module's defs and classes stand; hid: objects in the making that no value of the machine's shows -/
structure Gh where
  K : PySem.W.Frag
  ga : Str → Option Addr
  hid : List Addr
def Gh.hide (G : Gh) (l : List Addr) : Gh := { G with hid := l }
/-- neither the machine's own nor hidden -/
def Off_ (G : Gh) (ι : List Addr) (a : Addr) : Prop := a ∉ ι ∧ a ∉ G.hid
/-- at a stands u, and the machine's own objects (at ι) are others -/
def Fz (G : Gh) (ι : List Addr) (H : Hp) (a : Addr) (u : HO) : Prop := Off_ G ι a ∧ Rd H a u
def RL (G : Gh) (ι : List Addr) (H : Hp) (a : Addr) (xs : List V) : Prop := Off_ G ι a ∧ H a = some (.lst xs)
def RE_ (G : Gh) (ι : List Addr) (H : Hp) (a : Addr) (xs : List V) : Prop :=
  Fz G ι H a (.lst xs) ∨ ∃ (o : Obj) (its : Array Value) (n : Nat), G.K.lookup a = some o ∧ o.cls = .type "list" ∧ o.dict = none ∧ o.data = .seq its n ∧ its.size ≤ sizeLine ∧ Vals xs its.toList
def RT (G : Gh) (ι : List Addr) (H : Hp) (a : Addr) (xs : List V) : Prop :=
  Fz G ι H a (.tup xs) ∨ ∃ (o : Obj) (its : Array Value) (n : Nat), G.K.lookup a = some o ∧ o.cls = .type "tuple" ∧ o.data = .seq its n ∧ its.size ≤ sizeLine ∧ Vals xs its.toList
theorem RL.sq {G : Gh} {ι : List Addr} {H : Hp} {a : Addr} {xs : List V} (r : RL G ι H a xs) : SqL G.K H a xs := .inl (.inl r.2)
theorem RE_.sq {G : Gh} {ι : List Addr} {H : Hp} {a : Addr} {xs : List V} (r : RE_ G ι H a xs) : SqL G.K H a xs := by
  rcases r with r | r
  · exact .inl r.2
  · exact .inr r
theorem RT.sq {G : Gh} {ι : List Addr} {H : Hp} {a : Addr} {xs : List V} (r : RT G ι H a xs) : SqT G.K H a xs := by
  rcases r with r | r
  · exact .inl r.2
  · exact .inr r
mutual
inductive RV (G : Gh) (ι : List Addr) (H : Hp) : AV → V → Prop
  | non : RV G ι H .non .non
  | bl (b : Bool) : RV G ι H (.bl b) (.bl b)
  | int (i : Int) : RV G ι H (.int i) (.int i)
  | str (s : Str) : RV G ι H (.str s) (.str s)
  | ty (n : String) : RV G ι H (.ty n) (.ty n)
  | tup {xs : List AV} {a : Addr} {vs : List V} : RT G ι H a vs → RVs G ι H xs vs → RV G ι H (.tup xs) (.ref a)
  | lst {xs : List AV} {a : Addr} {vs : List V} : RL G ι H a vs → RVs G ι H xs vs → RV G ι H (.lst xs) (.ref a)
  | ext {xs : List AV} {a : Addr} {vs : List V} : RE_ G ι H a vs → RVs G ι H xs vs → RV G ι H (.ext xs) (.ref a)
  | dic {ks : List Key} {xs : List AV} {a : Addr} {kvs : List (Key × V)} : Fz G ι H a (.dK kvs) → kvs.map (·.1) = ks → RVs G ι H xs (kvs.map (·.2)) → RV G ι H (.dic ks xs) (.ref a)
  | ref {n : Nat} {a : Addr} : ι[n]? = some a → RV G ι H (.ref n) (.ref a)
  | glo {x : Str} {a : Addr} : G.ga x = some a → RV G ι H (.glo x) (.ref a)
inductive RVs (G : Gh) (ι : List Addr) (H : Hp) : List AV → List V → Prop
  | nil : RVs G ι H [] []
  | cons {x : AV} {v : V} {xs : List AV} {vs : List V} : RV G ι H x v → RVs G ι H xs vs → RVs G ι H (x :: xs) (v :: vs)
end
inductive RFs (G : Gh) (ι : List Addr) (H : Hp) : List (Str × AV) → List (Str × V) → Prop
  | nil : RFs G ι H [] []
  | cons {f : Str} {x : AV} {v : V} {xs : List (Str × AV)} {vs : List (Str × V)} : RV G ι H x v → RFs G ι H xs vs → RFs G ι H ((f, x) :: xs) ((f, v) :: vs)
def RO (G : Gh) (ι : List Addr) (H : Hp) : AO → HO → Prop
  | .lst xs, u => ∃ vs, u = .lst vs ∧ RVs G ι H xs vs
  | .dic ks xs, u => ∃ kvs : List (Key × V), u = .dK kvs ∧ kvs.map (·.1) = ks ∧ RVs G ι H xs (kvs.map (·.2))
  | .ins c fs, u => ∃ C dx fs', u = .ins C dx fs' ∧ G.ga c = some C ∧ RFs G ι H fs fs'
structure RH (G : Gh) (ι : List Addr) (H : Hp) (h : AH) : Prop where
  len : ι.length = h.length
  nd : ι.Nodup
  hd : ∀ a ∈ G.hid, a ∉ ι ∧ ∃ o, H a = some o
  at_ : ∀ (n : Nat) (o : AO) (a : Addr), h[n]? = some o → ι[n]? = some a → ∃ u, H a = some u ∧ RO G ι H o u
def RS (G : Gh) (ι : List Addr) (H : Hp) (ρ : AM.Env) (σ : L2.St) : Prop :=
  ρ.length = σ.length ∧ ∀ (i : Nat) (v : AV), ρ[i]? = some (some v) → ∃ u, σ[i]? = some (some u) ∧ RV G ι H v u
/-- from one state to a later one: new objects may have come; what isn't the machine's own stands -/
def Ext (ι : List Addr) (H : Hp) (ι' : List Addr) (H' : Hp) : Prop := ∃ nw, ι' = ι ++ nw ∧ ∀ a o, a ∉ ι → H a = some o → H' a = some o ∧ a ∉ nw

section
variable {G : Gh} {ι ι1 ι2 : List Addr} {H H1 H2 : Hp}
theorem Ext.refl : Ext ι H ι H := ⟨[], by simp, fun a o _ e => ⟨e, by simp⟩⟩
theorem Ext.trans (a : Ext ι H ι1 H1) (b : Ext ι1 H1 ι2 H2) : Ext ι H ι2 H2 := by
  obtain ⟨n1, rfl, k1⟩ := a
  obtain ⟨n2, rfl, k2⟩ := b
  refine ⟨n1 ++ n2, by simp, fun a o ha e => ?_⟩
  obtain ⟨e1, m1⟩ := k1 a o ha e
  obtain ⟨e2, m2⟩ := k2 a o (by simp [ha, m1]) e1
  exact ⟨e2, by simp [m1, m2]⟩
theorem Fz.mono {a : Addr} {u : HO} (x : Ext ι H ι1 H1) (f : Fz G ι H a u) : Fz G ι1 H1 a u := by
  obtain ⟨nw, rfl, k⟩ := x
  obtain ⟨⟨h1, h0⟩, h2⟩ := f
  rcases h2 with h2 | ⟨o, h2⟩
  · obtain ⟨e, m⟩ := k a _ h1 h2
    exact ⟨⟨by simp [h1, m], h0⟩, .inl e⟩
  · obtain ⟨e, m⟩ := k a _ h1 h2
    exact ⟨⟨by simp [h1, m], h0⟩, .inr ⟨o, e⟩⟩
theorem RL.mono {a : Addr} {xs : List V} (x : Ext ι H ι1 H1) (r : RL G ι H a xs) : RL G ι1 H1 a xs := by
  obtain ⟨nw, rfl, k⟩ := x
  obtain ⟨⟨h1, h0⟩, h2⟩ := r
  obtain ⟨e, m⟩ := k a _ h1 h2
  exact ⟨⟨by simp [h1, m], h0⟩, e⟩
theorem RE_.mono {a : Addr} {xs : List V} (x : Ext ι H ι1 H1) (r : RE_ G ι H a xs) : RE_ G ι1 H1 a xs := by
  rcases r with r | r
  · exact .inl (r.mono x)
  · exact .inr r
theorem RT.mono {a : Addr} {xs : List V} (x : Ext ι H ι1 H1) (r : RT G ι H a xs) : RT G ι1 H1 a xs := by
  rcases r with r | r
  · exact .inl (r.mono x)
  · exact .inr r
theorem Ext.ix {n : Nat} {a : Addr} (x : Ext ι H ι1 H1) (e : ι[n]? = some a) : ι1[n]? = some a := by
  obtain ⟨nw, rfl, _⟩ := x
  obtain ⟨h, e'⟩ := List.getElem?_eq_some_iff.mp e
  rw [List.getElem?_append_left h]
  exact e
mutual
theorem RV.mono (x : Ext ι H ι1 H1) : ∀ {v : AV} {u : V}, RV G ι H v u → RV G ι1 H1 v u
  | _, _, .non => .non
  | _, _, .bl b => .bl b
  | _, _, .int i => .int i
  | _, _, .str s => .str s
  | _, _, .ty n => .ty n
  | _, _, .tup t r => .tup (t.mono x) (RVs.mono x r)
  | _, _, .lst t r => .lst (t.mono x) (RVs.mono x r)
  | _, _, .ext t r => .ext (t.mono x) (RVs.mono x r)
  | _, _, .dic f e r => .dic (f.mono x) e (RVs.mono x r)
  | _, _, .ref e => .ref (x.ix e)
  | _, _, .glo e => .glo e
theorem RVs.mono (x : Ext ι H ι1 H1) : ∀ {v : List AV} {u : List V}, RVs G ι H v u → RVs G ι1 H1 v u
  | _, _, .nil => .nil
  | _, _, .cons r t => .cons (RV.mono x r) (RVs.mono x t)
end
theorem RFs.mono (x : Ext ι H ι1 H1) : ∀ {v : List (Str × AV)} {u : List (Str × V)}, RFs G ι H v u → RFs G ι1 H1 v u
  | _, _, .nil => .nil
  | _, _, .cons r t => .cons (RV.mono x r) (RFs.mono x t)
theorem RO.mono (x : Ext ι H ι1 H1) {o : AO} {u : HO} (r : RO G ι H o u) : RO G ι1 H1 o u := by
  cases o with
  | lst xs => obtain ⟨vs, e, q⟩ := r; exact ⟨vs, e, q.mono x⟩
  | dic ks xs => obtain ⟨kvs, e, e2, q⟩ := r; exact ⟨kvs, e, e2, q.mono x⟩
  | ins c fs => obtain ⟨C, dx, fs', e, e2, q⟩ := r; exact ⟨C, dx, fs', e, e2, q.mono x⟩
theorem RS.mono {ρ : AM.Env} {σ : L2.St} (x : Ext ι H ι1 H1) (r : RS G ι H ρ σ) : RS G ι1 H1 ρ σ :=
  ⟨r.1, fun i v e => by
    obtain ⟨u, e1, q⟩ := r.2 i v e
    exact ⟨u, e1, q.mono x⟩⟩
theorem RVs.length : ∀ {xs : List AV} {vs : List V}, RVs G ι H xs vs → xs.length = vs.length
  | _, _, .nil => rfl
  | _, _, .cons _ t => by simp [RVs.length t]
theorem RVs.get : ∀ {xs : List AV} {vs : List V} {i : Nat} {x : AV}, RVs G ι H xs vs → xs[i]? = some x → ∃ v, vs[i]? = some v ∧ RV G ι H x v
  | _, _, _, _, .nil, e => by simp at e
  | _, _, 0, _, .cons r _, e => by simp at e; subst e; exact ⟨_, rfl, r⟩
  | _, _, i + 1, x, .cons _ t, e => by
    obtain ⟨v, e1, r⟩ := RVs.get (i := i) (x := x) t (by simpa using e)
    exact ⟨v, by simpa using e1, r⟩
theorem RVs.getV : ∀ {xs : List AV} {vs : List V} {i : Nat} {v : V}, RVs G ι H xs vs → vs[i]? = some v → ∃ x, xs[i]? = some x ∧ RV G ι H x v
  | _, _, _, _, .nil, e => by simp at e
  | _, _, 0, _, .cons r _, e => by simp at e; subst e; exact ⟨_, rfl, r⟩
  | _, _, i + 1, v, .cons _ t, e => by
    obtain ⟨x, e1, r⟩ := RVs.getV (i := i) (v := v) t (by simpa using e)
    exact ⟨x, by simpa using e1, r⟩
theorem RVs.append : ∀ {xs ys : List AV} {vs ws : List V}, RVs G ι H xs vs → RVs G ι H ys ws → RVs G ι H (xs ++ ys) (vs ++ ws)
  | _, _, _, _, .nil, s => s
  | _, _, _, _, .cons r t, s => .cons r (RVs.append t s)
theorem RVs.drop : ∀ {xs : List AV} {vs : List V} (n : Nat), RVs G ι H xs vs → RVs G ι H (xs.drop n) (vs.drop n)
  | _, _, 0, r => by simpa using r
  | _, _, _ + 1, .nil => by simpa using RVs.nil
  | _, _, n + 1, .cons _ t => by simpa using RVs.drop n t
theorem RVs.take : ∀ {xs : List AV} {vs : List V} (n : Nat), RVs G ι H xs vs → RVs G ι H (xs.take n) (vs.take n)
  | _, _, 0, _ => by simpa using RVs.nil
  | _, _, _ + 1, .nil => by simpa using RVs.nil
  | _, _, n + 1, .cons r t => by simpa using RVs.cons r (RVs.take n t)
theorem RVs.set {x : AV} {v : V} (r : RV G ι H x v) : ∀ {xs : List AV} {vs : List V} (i : Nat), RVs G ι H xs vs → RVs G ι H (xs.set i x) (vs.set i v)
  | _, _, _, .nil => by simpa using RVs.nil
  | _, _, 0, .cons _ t => by simpa using RVs.cons r t
  | _, _, i + 1, .cons q t => by simpa using RVs.cons q (RVs.set r i t)
theorem RVs.bls : ∀ {bs : List Bool} {vs : List V}, RVs G ι H (bs.map AV.bl) vs → vs = bs.map V.bl
  | [], _, .nil => rfl
  | b :: bs, _, .cons r t => by cases r; rw [RVs.bls t]; rfl
theorem RVs.ints : ∀ {bs : List Int} {vs : List V}, RVs G ι H (bs.map AV.int) vs → vs = bs.map V.int
  | [], _, .nil => rfl
  | b :: bs, _, .cons r t => by cases r; rw [RVs.ints t]; rfl
theorem RVs.strs : ∀ {bs : List Str} {vs : List V}, RVs G ι H (bs.map AV.str) vs → vs = bs.map V.str
  | [], _, .nil => rfl
  | b :: bs, _, .cons r t => by cases r; rw [RVs.strs t]; rfl
theorem RVs.ofInts : ∀ (bs : List Int), RVs G ι H (bs.map AV.int) (bs.map V.int)
  | [] => .nil
  | b :: bs => .cons (.int b) (RVs.ofInts bs)
theorem RVs.ofStrs : ∀ (bs : List Str), RVs G ι H (bs.map AV.str) (bs.map V.str)
  | [] => .nil
  | b :: bs => .cons (.str b) (RVs.ofStrs bs)
/-- a new object that the machine leaves as it is -/
theorem Ext.fresh {p : Addr} {u : HO} (n : H p = none) : Ext ι H ι (upd H p u) :=
  ⟨[], by simp, fun a o _ e => ⟨by rw [upd_ne (ne_of_none e n)]; exact e, by simp⟩⟩
theorem RH.in_ {h : AH} (r : RH G ι H h) {a : Addr} (ha : a ∈ ι) : ∃ (n : Nat) (o : AO) (u : HO), ι[n]? = some a ∧ h[n]? = some o ∧ H a = some u ∧ RO G ι H o u := by
  obtain ⟨n, hn, e⟩ := List.mem_iff_getElem.mp ha
  have hn2 : n < h.length := by rw [← r.len]; exact hn
  have e1 : ι[n]? = some a := by rw [List.getElem?_eq_getElem hn, e]
  obtain ⟨u, e2, q⟩ := r.at_ n h[n] a (by simp [hn2]) e1
  exact ⟨n, _, u, e1, by simp [hn2], e2, q⟩
theorem RH.notin {h : AH} (r : RH G ι H h) {p : Addr} (n : H p = none) : p ∉ ι := fun hp => by
  obtain ⟨_, _, u, _, _, e, _⟩ := r.in_ hp
  rw [n] at e
  cases e
theorem RH.off {h : AH} (r : RH G ι H h) {p : Addr} (n : H p = none) : Off_ G ι p := ⟨r.notin n, fun z => by
  obtain ⟨_, o, e⟩ := r.hd p z
  rw [n] at e
  cases e⟩
theorem RH.fresh {h : AH} (r : RH G ι H h) {p : Addr} {u : HO} (n : H p = none) : RH G ι (upd H p u) h :=
  ⟨r.len, r.nd, fun a ha => by
    obtain ⟨h1, o, e⟩ := r.hd a ha
    exact ⟨h1, o, by rw [upd_ne (ne_of_none e n)]; exact e⟩, fun i o a e1 e2 => by
    obtain ⟨v, e3, q⟩ := r.at_ i o a e1 e2
    exact ⟨v, by rw [upd_ne (ne_of_none e3 n)]; exact e3, q.mono (Ext.fresh n)⟩⟩
theorem Fz.new {h : AH} (r : RH G ι H h) {p : Addr} {u : HO} (n : H p = none) : Fz G ι (upd H p u) p u := ⟨r.off n, .inl upd_same⟩
theorem RL.new {h : AH} (r : RH G ι H h) {p : Addr} {vs : List V} (n : H p = none) : RL G ι (upd H p (.lst vs)) p vs := ⟨r.off n, upd_same⟩
theorem RT.new {h : AH} (r : RH G ι H h) {p : Addr} {vs : List V} (n : H p = none) : RT G ι (upd H p (.tup vs)) p vs := .inl (Fz.new r n)
/-- a new object of the machine's own -/
theorem Ext.alloc {h : AH} (r : RH G ι H h) {p : Addr} {u : HO} (n : H p = none) : Ext ι H (ι ++ [p]) (upd H p u) :=
  ⟨[p], rfl, fun a o ha e => ⟨by rw [upd_ne (ne_of_none e n)]; exact e, by simpa using ne_of_none e n⟩⟩
theorem RH.alloc {h : AH} (r : RH G ι H h) {p : Addr} {u : HO} {o : AO} (n : H p = none) (q : RO G ι H o u) : RH G (ι ++ [p]) (upd H p u) (h ++ [o]) := by
  have x : Ext ι H (ι ++ [p]) (upd H p u) := Ext.alloc r n
  refine ⟨by simp [r.len], ?_, fun a ha => ?_, fun i o' a e1 e2 => ?_⟩
  rotate_left
  · obtain ⟨h1, o, e⟩ := r.hd a ha
    exact ⟨by simpa [h1] using ne_of_none e n, o, by rw [upd_ne (ne_of_none e n)]; exact e⟩
  rotate_left
  · rw [List.nodup_append]
    refine ⟨r.nd, by simp, fun a ha b hb => ?_⟩
    have hb' : b = p := by simpa using hb
    rw [hb']
    intro z
    exact r.notin n (z ▸ ha)
  · by_cases hi : i < ι.length
    · rw [List.getElem?_append_left hi] at e2
      rw [List.getElem?_append_left (by rw [← r.len]; exact hi)] at e1
      obtain ⟨v, e3, q'⟩ := r.at_ i o' a e1 e2
      exact ⟨v, by rw [upd_ne (ne_of_none e3 n)]; exact e3, q'.mono x⟩
    · have hi2 : i = ι.length := by
        have := (List.getElem?_eq_some_iff.mp e2).1
        simp at this
        omega
      subst hi2
      rw [List.getElem?_append_right (Nat.le_refl _)] at e2
      rw [List.getElem?_append_right (by rw [← r.len]; exact Nat.le_refl _), r.len] at e1
      simp at e1 e2
      subst e1 e2
      exact ⟨u, upd_same, q.mono x⟩
/-- an object of the machine's own is changed -/
theorem Ext.write {n : Nat} {a : Addr} {u : HO} (e : ι[n]? = some a) : Ext ι H ι (upd H a u) :=
  ⟨[], by simp, fun b o hb q => ⟨by
    have hne : b ≠ a := fun z => hb (by rw [z]; exact List.mem_of_getElem? e)
    rw [upd_ne hne]; exact q, by simp⟩⟩
theorem RH.write {h : AH} (r : RH G ι H h) {n : Nat} {a : Addr} {u : HO} {o : AO} (e : ι[n]? = some a) (q : RO G ι H o u) : RH G ι (upd H a u) (h.set n o) := by
  have x : Ext ι H ι (upd H a u) := Ext.write e
  refine ⟨by simp [r.len], r.nd, fun b hb => ?_, fun i o' b e1 e2 => ?_⟩
  · obtain ⟨h1, o, e3⟩ := r.hd b hb
    have hne : b ≠ a := fun z => h1 (by rw [z]; exact List.mem_of_getElem? e)
    exact ⟨h1, o, by rw [upd_ne hne]; exact e3⟩
  by_cases hi : i = n
  · subst hi
    rw [e] at e2
    cases e2
    have hl : i < h.length := by rw [← r.len]; exact (List.getElem?_eq_some_iff.mp e).1
    rw [List.getElem?_set_self hl] at e1
    cases e1
    exact ⟨u, upd_same, q.mono x⟩
  · rw [List.getElem?_set_ne (Ne.symm hi)] at e1
    obtain ⟨v, e3, q'⟩ := r.at_ i o' b e1 e2
    refine ⟨v, ?_, q'.mono x⟩
    rw [upd_ne]
    · exact e3
    · intro z
      subst z
      exact hi (nodup_ix' r.nd e2 e)
where
  nodup_ix' {l : List Addr} (hN : l.Nodup) {i j : Nat} {x : Addr} (a : l[i]? = some x) (b : l[j]? = some x) : i = j := by
    obtain ⟨h1, e1⟩ := List.getElem?_eq_some_iff.mp a
    obtain ⟨h2, e2⟩ := List.getElem?_eq_some_iff.mp b
    exact (List.getElem_inj hN).mp (e1.trans e2.symm)
end
/-! ### from one look at the heap to another -/
structure Mv (G : Gh) (ι : List Addr) (H : Hp) (G' : Gh) (ι' : List Addr) (H' : Hp) : Prop where
  K : G'.K = G.K
  ga : G'.ga = G.ga
  ix : ∀ (n : Nat) (a : Addr), ι[n]? = some a → ι'[n]? = some a
  at_ : ∀ a o, Off_ G ι a → H a = some o → H' a = some o ∧ Off_ G' ι' a
section
variable {G G' : Gh} {ι ι' : List Addr} {H H' : Hp}
theorem Fz.move {a : Addr} {u : HO} (x : Mv G ι H G' ι' H') (f : Fz G ι H a u) : Fz G' ι' H' a u := by
  obtain ⟨h1, h2⟩ := f
  rcases h2 with h2 | ⟨o, h2⟩
  · obtain ⟨e, m⟩ := x.at_ a _ h1 h2
    exact ⟨m, .inl e⟩
  · obtain ⟨e, m⟩ := x.at_ a _ h1 h2
    exact ⟨m, .inr ⟨o, e⟩⟩
theorem RL.move {a : Addr} {xs : List V} (x : Mv G ι H G' ι' H') (f : RL G ι H a xs) : RL G' ι' H' a xs := by
  obtain ⟨e, m⟩ := x.at_ a _ f.1 f.2
  exact ⟨m, e⟩
theorem RE_.move {a : Addr} {xs : List V} (x : Mv G ι H G' ι' H') (r : RE_ G ι H a xs) : RE_ G' ι' H' a xs := by
  rcases r with r | r
  · exact .inl (r.move x)
  · exact .inr (by rw [x.K]; exact r)
theorem RT.move {a : Addr} {xs : List V} (x : Mv G ι H G' ι' H') (r : RT G ι H a xs) : RT G' ι' H' a xs := by
  rcases r with r | r
  · exact .inl (r.move x)
  · exact .inr (by rw [x.K]; exact r)
mutual
theorem RV.move (x : Mv G ι H G' ι' H') : ∀ {v : AV} {u : V}, RV G ι H v u → RV G' ι' H' v u
  | _, _, .non => .non
  | _, _, .bl b => .bl b
  | _, _, .int i => .int i
  | _, _, .str s => .str s
  | _, _, .ty n => .ty n
  | _, _, .tup t r => .tup (t.move x) (RVs.move x r)
  | _, _, .lst t r => .lst (t.move x) (RVs.move x r)
  | _, _, .ext t r => .ext (t.move x) (RVs.move x r)
  | _, _, .dic f e r => .dic (f.move x) e (RVs.move x r)
  | _, _, .ref e => .ref (x.ix _ _ e)
  | _, _, .glo e => .glo (by rw [x.ga]; exact e)
theorem RVs.move (x : Mv G ι H G' ι' H') : ∀ {v : List AV} {u : List V}, RVs G ι H v u → RVs G' ι' H' v u
  | _, _, .nil => .nil
  | _, _, .cons r t => .cons (RV.move x r) (RVs.move x t)
end
theorem RFs.move (x : Mv G ι H G' ι' H') : ∀ {v : List (Str × AV)} {u : List (Str × V)}, RFs G ι H v u → RFs G' ι' H' v u
  | _, _, .nil => .nil
  | _, _, .cons r t => .cons (RV.move x r) (RFs.move x t)
theorem RO.move (x : Mv G ι H G' ι' H') {o : AO} {u : HO} (r : RO G ι H o u) : RO G' ι' H' o u := by
  cases o with
  | lst xs => obtain ⟨vs, e, q⟩ := r; exact ⟨vs, e, q.move x⟩
  | dic ks xs => obtain ⟨kvs, e, e2, q⟩ := r; exact ⟨kvs, e, e2, q.move x⟩
  | ins c fs => obtain ⟨C, dx, fs', e, e2, q⟩ := r; exact ⟨C, dx, fs', e, by rw [x.ga]; exact e2, q.move x⟩
theorem RS.move {ρ : AM.Env} {σ : L2.St} (x : Mv G ι H G' ι' H') (r : RS G ι H ρ σ) : RS G' ι' H' ρ σ :=
  ⟨r.1, fun i v e => by
    obtain ⟨u, e1, q⟩ := r.2 i v e
    exact ⟨u, e1, q.move x⟩⟩
/-- one object more is hidden: it is new -/
theorem Mv.hide {D : Addr} (n : H D = none) : Mv G ι H (G.hide (D :: G.hid)) ι H := ⟨rfl, rfl, fun _ _ e => e, fun a o h e => ⟨e, h.1, by
  show a ∉ D :: G.hid
  simp only [List.mem_cons, not_or]
  exact ⟨ne_of_none e n, h.2⟩⟩⟩
theorem Mv.show_ {D : Addr} : Mv (G.hide (D :: G.hid)) ι H G ι H := ⟨rfl, rfl, fun _ _ e => e, fun a o h e => ⟨e, h.1, fun z => h.2 (List.mem_cons_of_mem D z)⟩⟩
/-- a hidden object is changed -/
theorem Mv.hidW {D : Addr} {u : HO} (hD : D ∈ G.hid) : Mv G ι H G ι (upd H D u) := ⟨rfl, rfl, fun _ _ e => e, fun a o h e => ⟨by
  rw [upd_ne fun z => h.2 (by rw [z]; exact hD)]
  exact e, h⟩⟩
theorem RH.hidW {h : AH} {D : Addr} {u : HO} (r : RH G ι H h) (hD : D ∈ G.hid) : RH G ι (upd H D u) h := by
  refine ⟨r.len, r.nd, fun a ha => ⟨(r.hd a ha).1, ?_⟩, fun n o a e1 e2 => ?_⟩
  · by_cases z : a = D
    · rw [z]; exact ⟨u, upd_same⟩
    · rw [upd_ne z]; exact (r.hd a ha).2
  · obtain ⟨v, e3, q⟩ := r.at_ n o a e1 e2
    refine ⟨v, ?_, q.move (Mv.hidW hD)⟩
    rw [upd_ne]
    · exact e3
    · intro z
      subst z
      exact (r.hd _ hD).1 (List.mem_of_getElem? e2)
theorem RH.hide {h : AH} {D : Addr} {u : HO} (r : RH G ι H h) (n : H D = none) : RH (G.hide (D :: G.hid)) ι (upd H D u) h := by
  have x : Mv G ι H (G.hide (D :: G.hid)) ι (upd H D u) := ⟨rfl, rfl, fun _ _ e => e, fun a o h e => ⟨by rw [upd_ne (ne_of_none e n)]; exact e, ((Mv.hide n).at_ a o h e).2⟩⟩
  refine ⟨r.len, r.nd, fun a ha => ?_, fun k o a e1 e2 => ?_⟩
  · rcases List.mem_cons.mp (show a ∈ D :: G.hid from ha) with z | z
    · subst z
      exact ⟨r.notin n, u, upd_same⟩
    · obtain ⟨h1, o, e⟩ := r.hd a z
      exact ⟨h1, o, by rw [upd_ne (ne_of_none e n)]; exact e⟩
  · obtain ⟨v, e3, q⟩ := r.at_ k o a e1 e2
    exact ⟨v, by rw [upd_ne (ne_of_none e3 n)]; exact e3, q.move x⟩
theorem RH.show_ {h : AH} {D : Addr} (r : RH (G.hide (D :: G.hid)) ι H h) : RH G ι H h :=
  ⟨r.len, r.nd, fun a ha => r.hd a (List.mem_cons_of_mem D ha), fun n o a e1 e2 => by
    obtain ⟨v, e3, q⟩ := r.at_ n o a e1 e2
    exact ⟨v, e3, q.move Mv.show_⟩⟩
end
end AM
/-! AMb: judgements by the machine's meanings; operators by values. -/
namespace AM
open PySem PySem.Spec PyProof.Rows L2

/-- an exception that flies: its class, its own dict -/
def RX (G : Gh) (ι : List Addr) (H : Hp) (c : Str) (fs : List (Str × AV)) (C : Addr) (d : Option Addr) : Prop :=
  G.ga c = some C ∧ ((d = none ∧ fs = []) ∨ ∃ dx fs', d = some dx ∧ Fz G ι H dx (.xd fs') ∧ RFs G ι H fs fs')
/-- what is wanted behind an end of the machine -/
def Post {α β : Type} (G : Gh) (R : List Addr → Hp → α → β → Prop) (W : WX) (σ : L2.St) (ι : List Addr) (H : Hp) (Q : β → Hp → Prop) : Res α → Prop
  | .ok a h' => ∀ ι' H' u, Ext ι H ι' H' → RH G ι' H' h' → R ι' H' a u → Q u H'
  | .exc c fs h' => ∀ ι' H' C d, Ext ι H ι' H' → RH G ι' H' h' → RX G ι' H' c fs C d → W (.ref C) d σ H'
  | .stk => False
section
variable {α β γ δ : Type} {G : Gh} {R : List Addr → Hp → α → β → Prop} {R' : List Addr → Hp → γ → δ → Prop} {W : WX} {σ : L2.St} {ι ι1 : List Addr} {H H1 : Hp} {Q : β → Hp → Prop} {Q' : δ → Hp → Prop}
theorem Post.ext (x : Ext ι H ι1 H1) {r : Res α} (p : Post G R W σ ι H Q r) : Post G R W σ ι1 H1 Q r := by
  cases r with
  | ok a h => exact fun ι' H' u x' => p ι' H' u (x.trans x')
  | exc c fs h => exact fun ι' H' C d x' => p ι' H' C d (x.trans x')
  | stk => exact p
theorem Post.bind {r : Res α} {f : α → AH → Res γ} {K : β → Hp → Prop} (p : Post G R' W σ ι H Q' (r.bind f))
    (k : ∀ ι1 H1 a u h1, Ext ι H ι1 H1 → RH G ι1 H1 h1 → R ι1 H1 a u → Post G R' W σ ι1 H1 Q' (f a h1) → K u H1) : Post G R W σ ι H K r := by
  cases r with
  | ok a h => exact fun ι' H' u x rh r => k ι' H' a u h x rh r (Post.ext x p)
  | exc c fs h => exact p
  | stk => exact p
theorem Post.bindE {r : Res α} {f : α → AH → Res γ} {K : β → Hp → Prop} (p : Post G R' W σ ι H Q' (r.bind f))
    (k : ∀ ι1 H1 a u h1, r = .ok a h1 → Ext ι H ι1 H1 → RH G ι1 H1 h1 → R ι1 H1 a u → Post G R' W σ ι1 H1 Q' (f a h1) → K u H1) : Post G R W σ ι H K r := by
  cases r with
  | ok a h => exact fun ι' H' u x rh r => k ι' H' a u h rfl x rh r (Post.ext x p)
  | exc c fs h => exact p
  | stk => exact p
/-- an end at once -/
theorem Post.now {a : α} {u : β} {h : AH} (p : Post G R W σ ι H Q (.ok a h)) (rh : RH G ι H h) (r : R ι H a u) : Q u H := p ι H u Ext.refl rh r
theorem Post.at {a : α} {u : β} {h : AH} (p : Post G R W σ ι H Q (.ok a h)) (x : Ext ι H ι1 H1) (rh : RH G ι1 H1 h) (r : R ι1 H1 a u) : Q u H1 := p ι1 H1 u x rh r
end
/-- readings by the machine's meanings -/
def RE (G : Gh) (W : WX) (m : ME) : TE := fun σ H Q => ∃ ι ρ h, RH G ι H h ∧ RS G ι H ρ σ ∧ Post G (RV G) W σ ι H Q (m ρ h)
def RA (G : Gh) (W : WX) (m : MEs) : TA := fun σ H Q => ∃ ι ρ h, RH G ι H h ∧ RS G ι H ρ σ ∧ Post G (RVs G) W σ ι H Q (m ρ h)
def RB : List Addr → Hp → Bool → Bool → Prop := fun _ _ a b => a = b
def RTt (G : Gh) (W : WX) (m : AM.Env → AH → Res Bool) : TT := fun σ H Q => ∃ ι ρ h, RH G ι H h ∧ RS G ι H ρ σ ∧ Post G RB W σ ι H Q (m ρ h)
theorem PE_imp {X : Cx} {e : Expr} {t t' : TE} (h : PE X e t) (i : ∀ σ H Q, t' σ H Q → t σ H Q) : PE X e t' := ⟨fun pins s σ H Q I q => h.run pins s σ H Q I (i σ H Q q)⟩
theorem PT_imp {X : Cx} {e : Expr} {t t' : TT} (h : PT X e t) (i : ∀ σ H Q, t' σ H Q → t σ H Q) : PT X e t' := ⟨fun pins s σ H Q I q => h.run pins s σ H Q I (i σ H Q q)⟩
theorem PW_imp {X : Cx} {e : Expr} {t t' : TT} (h : PW X e t) (i : ∀ σ H Q, t' σ H Q → t σ H Q) : PW X e t' := ⟨fun w pins s σ H Q I q => h.run w pins s σ H Q I (i σ H Q q)⟩
theorem PA_imp {X : Cx} {e : List Expr} {t t' : TA} (h : PA X e t) (i : ∀ σ H Q, t' σ H Q → t σ H Q) : PA X e t' := ⟨fun pos pins s σ H Q I q => h.run pos pins s σ H Q I (i σ H Q q)⟩
theorem PS_imp {X : Cx} {e : Stmt} {t t' : TS} (h : PS X e t) (i : ∀ D σ H, t' D σ H → t D σ H) : PS X e t' := ⟨fun pins s σ H D I q => h.run pins s σ H D I (i D σ H q)⟩
theorem PSs_imp {X : Cx} {e : List Stmt} {t t' : TS} (h : PSs X e t) (i : ∀ D σ H, t' D σ H → t D σ H) : PSs X e t' := ⟨fun pins s σ H D I q => h.run pins s σ H D I (i D σ H q)⟩
theorem PE_stk {X : Cx} {e : Expr} {G : Gh} {W : WX} {m : ME} (hm : ∀ ρ h, m ρ h = .stk) : PE X e (RE G W m) := ⟨fun pins s σ H Q I q => by
  obtain ⟨ι, ρ, h, _, _, p⟩ := q
  rw [hm] at p
  exact p.elim⟩

/-! ### operators by values -/
/-- a two-place operator of the machine -/
abbrev Op2 := AV → AV → AH → Res AV
/-- what a rule's reading r asks is answered by the machine's f -/
def OpAns (G : Gh) (f : Op2) (r : R2) : Prop := ∀ (W : WX) (σ : L2.St) (ι : List Addr) (H : Hp) (h : AH) (v w : AV) (u1 u2 : V) (Q : VK), RH G ι H h → RV G ι H v u1 → RV G ι H w u2 → Post G (RV G) W σ ι H Q (f v w h) → r u1 u2 H Q
def bin2 (a b : ME) (f : Op2) : ME := fun ρ h => (a ρ h).bind fun v h1 => (b ρ h1).bind fun w h2 => f v w h2
section
variable {X : Cx} {G : Gh} {W : WX} {a b : Expr} {ma mb : ME} {f : Op2} {r : R2} {pos : Pos}
theorem RE.two {tt : TE} (i : ∀ σ H Q, RE G W ma σ H (fun x H1 => RE G W mb σ H1 fun y H2 => r x y H2 Q) → tt σ H Q) (ans : OpAns G f r) : ∀ σ H Q, RE G W (bin2 ma mb f) σ H Q → tt σ H Q := fun σ H Q ⟨ι, ρ, h, rh, rs, p⟩ =>
  i σ H Q ⟨ι, ρ, h, rh, rs, Post.bind p fun ι1 H1 v u1 h1 x1 rh1 rv1 p1 => ⟨ι1, ρ, h1, rh1, rs.mono x1, Post.bind p1 fun ι2 H2 w u2 h2 x2 rh2 rv2 p2 => ans W σ ι2 H2 h2 v w u1 u2 Q rh2 (rv1.mono x2) rv2 p2⟩⟩
theorem re_op {op : Operator} (ho : OpR X (binaryOp op) r) (ans : OpAns G f r) (ha : PE X a (RE G W ma)) (hb : PE X b (RE G W mb)) : PE X (.BinOp a op b pos) (RE G W (bin2 ma mb f)) :=
  PE_imp (pe_op ho ha hb) (RE.two (fun _ _ _ z => z) ans)
theorem re_cmp {op : CmpOp} (ho : OpR X (compareOp op) r) (ans : OpAns G f r) (hm : behindInMarks op b = false) (ha : PE X a (RE G W ma)) (hb : PE X b (RE G W mb)) : PE X (.Compare a [op] [b] pos) (RE G W (bin2 ma mb f)) :=
  PE_imp (pe_cmpR ho ha hb hm) (RE.two (fun _ _ _ z => z) ans)
end
section
variable {G : Gh} {f f' : Op2} {r r' : R2}
theorem OpAns.or (h : ∀ v w, f v w = f' v w ∨ f v w = fun _ => .stk) : True := trivial
end
/-! ### the operators -/
def lenOk (n : Nat) : Bool := Nat.ble n sizeLine
theorem lenOk_le {n : Nat} (h : lenOk n = true) : n ≤ sizeLine := Nat.le_of_ble_eq_true h
/-- + -/
def addO : Op2 := fun v w h => match v, w with
  | .int i, .int j => .ok (.int (i + j)) h
  | .str x, .str y => if lenOk (x.length + y.length) then .ok (.str (x ++ y)) h else .stk
  | .tup xs, .tup ys => if lenOk (xs.length + ys.length) then .ok (.tup (xs ++ ys)) h else .stk
  | .lst xs, .lst ys => if lenOk (xs.length + ys.length) then .ok (.lst (xs ++ ys)) h else .stk
  | _, _ => .stk
def subO : Op2 := fun v w h => match v, w with
  | .int i, .int j => .ok (.int (i - j)) h
  | _, _ => .stk
instance {x : Str} {n : Int} : Decidable (MulOk x n) := by unfold MulOk; infer_instance
def rMulS : R2 := fun x y H Q => ∃ a n, x = .str a ∧ y = .int n ∧ MulOk a n ∧ Q (.str (Txt.mul a n)) H
theorem op_mulS {X : Cx} : OpR X (binaryOp .Mult) rMulS := by
  intro pins s σ H x y v u Q I rx ry h
  obtain ⟨a, n, rfl, rfl, hm, q⟩ := h
  obtain ⟨t, rfl⟩ := rx
  obtain ⟨t', rfl⟩ := ry
  exact SB.mul hm fun t2 k => ⟨.str _, H, I.tok _, ⟨_, rfl⟩, q⟩
def mulO : Op2 := fun v w h => match v, w with
  | .int i, .int j => if i.natAbs.log2 + j.natAbs.log2 < 1000000 then .ok (.int (i * j)) h else .stk
  | .str x, .int n => if MulOk x n then .ok (.str (Txt.mul x n)) h else .stk
  | _, _ => .stk
def modO : Op2 := fun v w h => match v, w with
  | .int i, .int j => if 0 < j then .ok (.int (i % j)) h else .stk
  | _, _ => .stk
def divO : Op2 := fun v w h => match v, w with
  | .int i, .int j => if 0 < j ∧ j.natAbs.log2 < 9000 then .ok (.int (i / j)) h else .stk
  | _, _ => .stk
def powO : Op2 := fun v w h => match v, w with
  | .int i, .int j => if 0 ≤ j ∧ j ≤ 1000000 ∧ i.natAbs < 2 ^ 64 then .ok (.int (i ^ j.toNat)) h else .stk
  | _, _ => .stk
def binO (op : Operator) : Op2 := match op with
  | .Add => addO | .Sub => subO | .Mult => mulO | .Mod => modO | .FloorDiv => divO | .Pow => powO
  | _ => fun _ _ _ => .stk
section
variable {X : Cx} {G : Gh}
theorem inv_int {ι : List Addr} {H : Hp} {i : Int} {u : V} (r : RV G ι H (.int i) u) : u = .int i := by cases r; rfl
theorem inv_str {ι : List Addr} {H : Hp} {i : Str} {u : V} (r : RV G ι H (.str i) u) : u = .str i := by cases r; rfl
theorem ans_int {g : Int → Int → V} {k : Int → Int → AV} {c : Int → Int → Bool} (hg : ∀ ι H i j, RV G ι H (k i j) (g i j)) :
    OpAns G (fun v w h => match v, w with | .int i, .int j => if c i j = true then .ok (k i j) h else .stk | _, _ => .stk) (rI (fun i j => c i j = true) g) := by
  intro W σ ι H h v w u1 u2 Q rh r1 r2 p
  cases r1 with
  | int i => cases r2 with
    | int j =>
      by_cases q : c i j = true
      · have p : Post G (RV G) W σ ι H Q (if c i j = true then .ok (k i j) h else .stk) := p
        rw [if_pos q] at p
        exact ⟨i, j, rfl, rfl, q, p.now rh (hg ι H i j)⟩
      · have p : Post G (RV G) W σ ι H Q (if c i j = true then .ok (k i j) h else .stk) := p
        rw [if_neg q] at p
        exact p.elim
    | _ => exact p.elim
  | _ => exact False.elim (by cases r2 <;> exact p)
theorem ans_add : OpAns G addO (fun x y H Q => rI0 (fun i j => .int (i + j)) x y H Q ∨ (∃ i j, x = .str i ∧ y = .str j ∧ i.length + j.length ≤ sizeLine ∧ Q (.str (i ++ j)) H) ∨ rCatA G.K x y H Q ∨ rCat x y H Q) := by
  intro W σ ι H h v w u1 u2 Q rh r1 r2 p
  cases r1 with
  | int i => cases r2 with
    | int j => exact .inl ⟨i, j, rfl, rfl, p.now rh (.int _)⟩
    | _ => exact p.elim
  | str x => cases r2 with
    | str y =>
      by_cases q : lenOk (x.length + y.length) = true
      · have p : Post G (RV G) W σ ι H Q (if lenOk (x.length + y.length) = true then .ok (.str (x ++ y)) h else .stk) := p
        rw [if_pos q] at p
        exact .inr (.inl ⟨x, y, rfl, rfl, lenOk_le q, p.now rh (.str _)⟩)
      · have p : Post G (RV G) W σ ι H Q (if lenOk (x.length + y.length) = true then .ok (.str (x ++ y)) h else .stk) := p
        rw [if_neg q] at p
        exact p.elim
    | _ => exact p.elim
  | @tup xs a vs t1 q1 => cases r2 with
    | @tup ys b ws t2 q2 =>
      by_cases q : lenOk (xs.length + ys.length) = true
      · have p : Post G (RV G) W σ ι H Q (if lenOk (xs.length + ys.length) = true then .ok (.tup (xs ++ ys)) h else .stk) := p
        rw [if_pos q] at p
        refine .inr (.inr (.inl ⟨a, b, vs, ws, rfl, rfl, t1.sq, t2.sq, by rw [← q1.length, ← q2.length]; exact lenOk_le q, fun e => ?_, fun e1 e2 => ?_, fun e1 e2 pp np => ?_⟩))
        · subst e
          cases q1
          exact p.now rh (.tup t2 q2)
        · subst e2
          cases q2
          rw [List.append_nil] at p
          exact p.now rh (.tup t1 q1)
        · exact p.at (Ext.fresh np) (rh.fresh np) (.tup (RT.new rh np) ((q1.append q2).mono (Ext.fresh np)))
      · have p : Post G (RV G) W σ ι H Q (if lenOk (xs.length + ys.length) = true then .ok (.tup (xs ++ ys)) h else .stk) := p
        rw [if_neg q] at p
        exact p.elim
    | _ => exact p.elim
  | @lst xs a vs t1 q1 => cases r2 with
    | @lst ys b ws t2 q2 =>
      by_cases q : lenOk (xs.length + ys.length) = true
      · have p : Post G (RV G) W σ ι H Q (if lenOk (xs.length + ys.length) = true then .ok (.lst (xs ++ ys)) h else .stk) := p
        rw [if_pos q] at p
        refine .inr (.inr (.inr ⟨a, b, vs, ws, rfl, rfl, t1.2, t2.2, by rw [← q1.length, ← q2.length]; exact lenOk_le q, fun pp np => ?_⟩))
        exact p.at (Ext.fresh np) (rh.fresh np) (.lst (RL.new rh np) ((q1.append q2).mono (Ext.fresh np)))
      · have p : Post G (RV G) W σ ι H Q (if lenOk (xs.length + ys.length) = true then .ok (.lst (xs ++ ys)) h else .stk) := p
        rw [if_neg q] at p
        exact p.elim
    | _ => exact p.elim
  | _ => exact False.elim (by cases r2 <;> exact p)
theorem opR_add (hK : X.K = G.K) : OpR X (binaryOp .Add) (fun x y H Q => rI0 (fun i j => .int (i + j)) x y H Q ∨ (∃ i j, x = .str i ∧ y = .str j ∧ i.length + j.length ≤ sizeLine ∧ Q (.str (i ++ j)) H) ∨ rCatA G.K x y H Q ∨ rCat x y H Q) :=
  op_add.or (op_add_str.or ((hK ▸ op_catA : OpR X (binaryOp .Add) (rCatA G.K)).or op_cat))
instance {i j : Int} : Decidable (CMulW i j) := inferInstanceAs (Decidable (i.natAbs.log2 + j.natAbs.log2 < 1000000))
instance {i j : Int} : Decidable (CDivW i j) := inferInstanceAs (Decidable (0 < j ∧ j.natAbs.log2 < 9000))
instance {i j : Int} : Decidable (CPow i j) := inferInstanceAs (Decidable (0 ≤ j ∧ j ≤ 1000000 ∧ i.natAbs < 2 ^ 64))
/-- an operator on ints under a test -/
theorem re_int {f : Op2} {g : Int → Int → Int} {C : Int → Int → Prop} [∀ i j, Decidable (C i j)]
    (hf : ∀ i j h, f (.int i) (.int j) h = if C i j then .ok (.int (g i j)) h else .stk) (hn : ∀ v w h, (∀ i j, ¬ (v = .int i ∧ w = .int j)) → f v w h = .stk) : OpAns G f (rI C fun i j => .int (g i j)) := by
  intro W σ ι H h v w u1 u2 Q rh r1 r2 p
  by_cases z : ∃ i j, v = .int i ∧ w = .int j
  · obtain ⟨i, j, rfl, rfl⟩ := z
    rw [hf] at p
    rw [inv_int r1, inv_int r2]
    by_cases q : C i j
    · rw [if_pos q] at p
      exact ⟨i, j, rfl, rfl, q, p.now rh (.int _)⟩
    · rw [if_neg q] at p
      exact p.elim
  · rw [hn v w h fun i j e => z ⟨i, j, e⟩] at p
    exact p.elim
theorem notInts {f : Op2} (h1 : ∀ v w h, (∀ i, v ≠ .int i) → f v w h = .stk) (h2 : ∀ i w h, (∀ j, w ≠ .int j) → f (.int i) w h = .stk) : ∀ v w h, (∀ i j, ¬ (v = .int i ∧ w = .int j)) → f v w h = .stk := fun v w h z => by
  by_cases q : ∃ i, v = .int i
  · obtain ⟨i, rfl⟩ := q
    exact h2 i w h fun j e => z i j ⟨rfl, e⟩
  · exact h1 v w h fun i e => q ⟨i, e⟩
def binB (op : Operator) : Bool := match op with
  | .Add => true | .Sub => true | .Mult => true | .Mod => true | .FloorDiv => true | .Pow => true
  | _ => false
theorem ans_binO {op : Operator} (hK : X.K = G.K) (hb : binB op = true) : ∃ r, OpR X (binaryOp op) r ∧ OpAns G (binO op) r := by
  cases op with
  | Add => exact ⟨_, opR_add hK, ans_add⟩
  | Sub => exact ⟨_, op_sub, fun W σ ι H h v w u1 u2 Q rh r1 r2 p => by
      cases r1 with
      | int i => cases r2 with
        | int j => exact ⟨i, j, rfl, rfl, p.now rh (.int _)⟩
        | _ => exact p.elim
      | _ => exact False.elim (by cases r2 <;> exact p)⟩
  | Mult =>
    refine ⟨_, (op_mulW (X := X)).or op_mulS, fun W σ ι H h v w u1 u2 Q rh r1 r2 p => ?_⟩
    cases r1 with
    | int i => cases r2 with
      | int j =>
        have p : Post G (RV G) W σ ι H Q (if i.natAbs.log2 + j.natAbs.log2 < 1000000 then .ok (.int (i * j)) h else .stk) := p
        by_cases q : i.natAbs.log2 + j.natAbs.log2 < 1000000
        · rw [if_pos q] at p
          exact .inl ⟨i, j, rfl, rfl, q, p.now rh (.int _)⟩
        · rw [if_neg q] at p
          exact p.elim
      | _ => exact p.elim
    | str x => cases r2 with
      | int j =>
        have p : Post G (RV G) W σ ι H Q (if MulOk x j then .ok (.str (Txt.mul x j)) h else .stk) := p
        by_cases q : MulOk x j
        · rw [if_pos q] at p
          exact .inr ⟨x, j, rfl, rfl, q, p.now rh (.str _)⟩
        · rw [if_neg q] at p
          exact p.elim
      | _ => exact p.elim
    | _ => exact False.elim (by cases r2 <;> exact p)
  | Mod => exact ⟨_, op_mod (X := X), re_int (C := fun _ j => 0 < j) (fun i j h => rfl) (notInts (fun v w h z => by cases v <;> first | rfl | exact absurd rfl (z _)) (fun i w h z => by cases w <;> first | rfl | exact absurd rfl (z _)))⟩
  | FloorDiv => exact ⟨_, op_fdivW (X := X), re_int (C := CDivW) (fun i j h => rfl) (notInts (fun v w h z => by cases v <;> first | rfl | exact absurd rfl (z _)) (fun i w h z => by cases w <;> first | rfl | exact absurd rfl (z _)))⟩
  | Pow => exact ⟨_, op_pow (X := X), re_int (C := CPow) (fun i j h => rfl) (notInts (fun v w h z => by cases v <;> first | rfl | exact absurd rfl (z _)) (fun i w h z => by cases w <;> first | rfl | exact absurd rfl (z _)))⟩
  | _ => cases hb
end
end AM
/-! AMc: comparisons, calls of built-ins, displays, by values. -/
namespace AM
open PySem PySem.Spec PyProof.Rows L2

/-! ### data -/
mutual
def toD : AV → Option PyData
  | .non => some .none
  | .bl b => some (.bool b)
  | .int i => some (.int i)
  | .str s => some (.str s)
  | .tup xs => match toDs xs with
    | some ds => some (.tuple ds)
    | none => none
  | .lst xs => match toDs xs with
    | some ds => some (.list ds)
    | none => none
  | .ext xs => match toDs xs with
    | some ds => some (.list ds)
    | none => none
  | .ty _ => none
  | .dic _ _ => none
  | .ref _ => none
  | .glo _ => none
def toDs : List AV → Option (List PyData)
  | [] => some []
  | x :: xs => match toD x, toDs xs with
    | some d, some ds => some (d :: ds)
    | _, _ => none
end
section
variable {G : Gh} {ι : List Addr} {H : Hp}
mutual
theorem toD_ok : ∀ (v : AV) (u : V) (d : PyData), RV G ι H v u → toD v = some d → Dp G.K H u d
  | .non, _, d, r, e => by cases r; cases (Option.some.inj (show some PyData.none = some d from e)); exact .non
  | .bl b, _, d, r, e => by cases r; cases (Option.some.inj (show some (PyData.bool b) = some d from e)); exact .bl b
  | .int b, _, d, r, e => by cases r; cases (Option.some.inj (show some (PyData.int b) = some d from e)); exact .int b
  | .str b, _, d, r, e => by cases r; cases (Option.some.inj (show some (PyData.str b) = some d from e)); exact .str b
  | .tup xs, _, d, r, e => by
    cases r with
    | tup t q =>
      unfold toD at e
      cases q2 : toDs xs with
      | none => rw [q2] at e; cases e
      | some ds =>
        rw [q2] at e
        cases e
        exact .tup t.sq (toDs_ok xs _ ds q q2)
  | .lst xs, _, d, r, e => by
    cases r with
    | lst t q =>
      unfold toD at e
      cases q2 : toDs xs with
      | none => rw [q2] at e; cases e
      | some ds =>
        rw [q2] at e
        cases e
        exact .lst t.sq (toDs_ok xs _ ds q q2)
  | .ext xs, _, d, r, e => by
    cases r with
    | ext t q =>
      unfold toD at e
      cases q2 : toDs xs with
      | none => rw [q2] at e; cases e
      | some ds =>
        rw [q2] at e
        cases e
        exact .lst t.sq (toDs_ok xs _ ds q q2)
  | .ty _, _, _, _, e => by unfold toD at e; cases e
  | .dic _ _, _, _, _, e => by unfold toD at e; cases e
  | .ref _, _, _, _, e => by unfold toD at e; cases e
  | .glo _, _, _, _, e => by unfold toD at e; cases e
theorem toDs_ok : ∀ (v : List AV) (u : List V) (d : List PyData), RVs G ι H v u → toDs v = some d → DpAll G.K H u d
  | [], _, d, r, e => by
    cases r
    unfold toDs at e
    cases e
    exact .nil
  | x :: xs, _, d, r, e => by
    cases r with
    | cons r t =>
      unfold toDs at e
      cases q1 : toD x with
      | none => rw [q1] at e; cases e
      | some d1 =>
        cases q2 : toDs xs with
        | none => rw [q1, q2] at e; cases e
        | some ds =>
          rw [q1, q2] at e
          cases e
          exact .cons (toD_ok x _ d1 r q1) (toDs_ok xs _ ds t q2)
end
end
/-- == -/
def eqB (v w : AV) : Option Bool := match v, w with
  | .str x, .str y => some (decide (x = y))
  | v, w => match toD v, toD w with
    | some d, some e => if SeqAt.shaped d && SeqAt.shaped e then some (PyData.eqv d e) else none
    | _, _ => none
def resB (o : Option Bool) (h : AH) : Res AV := match o with
  | some b => .ok (.bl b) h
  | none => .stk
def resBn (o : Option Bool) (h : AH) : Res AV := match o with
  | some b => .ok (.bl (!b)) h
  | none => .stk
def eqO : Op2 := fun v w h => resB (eqB v w) h
def neO : Op2 := fun v w h => resBn (eqB v w) h
theorem eqB_cases {v w : AV} {b : Bool} (e : eqB v w = some b) : (∃ x y, v = .str x ∧ w = .str y ∧ b = decide (x = y)) ∨ ∃ d d', toD v = some d ∧ toD w = some d' ∧ SeqAt.shaped d = true ∧ SeqAt.shaped d' = true ∧ b = PyData.eqv d d' := by
  unfold eqB at e
  split at e
  · exact .inl ⟨_, _, rfl, rfl, (Option.some.inj e).symm⟩
  · rename_i v' w' _
    cases q1 : toD v with
    | none => rw [q1] at e; cases e
    | some d =>
      cases q2 : toD w with
      | none => rw [q1, q2] at e; cases e
      | some d' =>
        rw [q1, q2] at e
        by_cases c : (SeqAt.shaped d && SeqAt.shaped d') = true
        · have e : (if (SeqAt.shaped d && SeqAt.shaped d') = true then some (PyData.eqv d d') else none) = some b := e
          rw [if_pos c] at e
          obtain ⟨c1, c2⟩ := Bool.and_eq_true_iff.mp c
          exact .inr ⟨d, d', rfl, rfl, c1, c2, (Option.some.inj e).symm⟩
        · have e : (if (SeqAt.shaped d && SeqAt.shaped d') = true then some (PyData.eqv d d') else none) = some b := e
          rw [if_neg c] at e
          cases e
section
variable {G : Gh}
theorem ans_eq : OpAns G eqO (fun x y H Q => rEq x y H Q ∨ rEqD G.K x y H Q) := by
  intro W σ ι H h v w u1 u2 Q rh r1 r2 p
  have p : Post G (RV G) W σ ι H Q (resB (eqB v w) h) := p
  cases e : eqB v w with
  | none => rw [e] at p; exact p.elim
  | some b =>
    rw [e] at p
    have q := Post.now (a := AV.bl b) p rh (.bl b)
    rcases eqB_cases e with ⟨x, y, rfl, rfl, rfl⟩ | ⟨d, d', e1, e2, s1, s2, rfl⟩
    · rw [inv_str r1, inv_str r2]
      refine .inl ⟨rfl, ?_⟩
      have z : decide (V.str x = V.str y) = decide (x = y) := by rw [dec_str]; exact Bool.beq_eq_decide_eq x y
      rw [z]
      exact q
    · exact .inr ⟨d, d', toD_ok v u1 d r1 e1, toD_ok w u2 d' r2 e2, s1, s2, q⟩
theorem ans_ne : OpAns G neO (fun x y H Q => rNe x y H Q ∨ rNeD G.K x y H Q) := by
  intro W σ ι H h v w u1 u2 Q rh r1 r2 p
  have p : Post G (RV G) W σ ι H Q (resBn (eqB v w) h) := p
  cases e : eqB v w with
  | none => rw [e] at p; exact p.elim
  | some b =>
    rw [e] at p
    have q := Post.now (a := AV.bl (!b)) p rh (.bl (!b))
    rcases eqB_cases e with ⟨x, y, rfl, rfl, rfl⟩ | ⟨d, d', e1, e2, s1, s2, rfl⟩
    · rw [inv_str r1, inv_str r2]
      refine .inl ⟨rfl, ?_⟩
      have z : decide (V.str x = V.str y) = decide (x = y) := by rw [dec_str]; exact Bool.beq_eq_decide_eq x y
      rw [z]
      exact q
    · exact .inr ⟨d, d', toD_ok v u1 d r1 e1, toD_ok w u2 d' r2 e2, s1, s2, q⟩
end
/-! ### < and its kin -/
def ltO : Op2 := fun v w h => match v, w with
  | .int i, .int j => .ok (.bl (decide (i < j))) h
  | .str x, .str y => .ok (.bl (decide (x.cps.toList < y.cps.toList))) h
  | _, _ => .stk
def leO : Op2 := fun v w h => match v, w with
  | .int i, .int j => .ok (.bl (decide (i ≤ j))) h
  | _, _ => .stk
def gtO : Op2 := fun v w h => match v, w with
  | .int i, .int j => .ok (.bl (decide (j < i))) h
  | _, _ => .stk
def geO : Op2 := fun v w h => match v, w with
  | .int i, .int j => .ok (.bl (decide (j ≤ i))) h
  | _, _ => .stk
def isO : Op2 := fun v w h => match w with
  | .non => (match v with
    | .non => .ok (.bl true) h
    | .glo _ => .stk
    | _ => .ok (.bl false) h)
  | .bl b => (match v with
    | .bl a => .ok (.bl (decide (a = b))) h
    | _ => .stk)
  | _ => .stk
def isNotO : Op2 := fun v w h => match w with
  | .non => (match v with
    | .non => .ok (.bl false) h
    | .glo _ => .stk
    | _ => .ok (.bl true) h)
  | .bl b => (match v with
    | .bl a => .ok (.bl (!decide (a = b))) h
    | _ => .stk)
  | _ => .stk
/-- in -/
def inB (v w : AV) : Option Bool := match w with
  | .str z => (match v with
    | .str x => some (!(Builtin.Str.occurrences z x 0 z.length 1).isEmpty)
    | _ => none)
  | .lst xs => (match toD v, toDs xs with
    | some d, some ds => if SeqAt.shaped d && SeqAt.shaped (.list ds) then some (ds.any fun z => PyData.eqv z d) else none
    | _, _ => none)
  | _ => none
def inO : Op2 := fun v w h => resB (inB v w) h
def notInO : Op2 := fun v w h => resBn (inB v w) h
section
variable {X : Cx} {G : Gh}
theorem ans_ltI : OpAns G ltO (fun x y H Q => rI0 (fun i j => .bl (decide (i < j))) x y H Q ∨ ∃ i j, x = .str i ∧ y = .str j ∧ Q (.bl (decide (i.cps.toList < j.cps.toList))) H) := by
  intro W σ ι H h v w u1 u2 Q rh r1 r2 p
  cases r1 with
  | int i => cases r2 with
    | int j => exact .inl ⟨i, j, rfl, rfl, p.now rh (.bl _)⟩
    | _ => exact p.elim
  | str i => cases r2 with
    | str j => exact .inr ⟨i, j, rfl, rfl, p.now rh (.bl _)⟩
    | _ => exact p.elim
  | _ => exact False.elim (by cases r2 <;> exact p)
theorem ans_leI : OpAns G leO (rI0 fun i j => .bl (decide (i ≤ j))) := by
  intro W σ ι H h v w u1 u2 Q rh r1 r2 p
  cases r1 with
  | int i => cases r2 with
    | int j => exact ⟨i, j, rfl, rfl, p.now rh (.bl _)⟩
    | _ => exact p.elim
  | _ => exact False.elim (by cases r2 <;> exact p)
theorem ans_gtI : OpAns G gtO (rI0 fun i j => .bl (decide (j < i))) := by
  intro W σ ι H h v w u1 u2 Q rh r1 r2 p
  cases r1 with
  | int i => cases r2 with
    | int j => exact ⟨i, j, rfl, rfl, p.now rh (.bl _)⟩
    | _ => exact p.elim
  | _ => exact False.elim (by cases r2 <;> exact p)
theorem ans_geI : OpAns G geO (rI0 fun i j => .bl (decide (j ≤ i))) := by
  intro W σ ι H h v w u1 u2 Q rh r1 r2 p
  cases r1 with
  | int i => cases r2 with
    | int j => exact ⟨i, j, rfl, rfl, p.now rh (.bl _)⟩
    | _ => exact p.elim
  | _ => exact False.elim (by cases r2 <;> exact p)
def rIsA : R2 := fun x y H Q => (y = .non ∧ Q (.bl (decide (x = .non))) H) ∨ ∃ a b, x = .bl a ∧ y = .bl b ∧ Q (.bl (decide (a = b))) H
def rIsNotA : R2 := fun x y H Q => (y = .non ∧ Q (.bl (!decide (x = .non))) H) ∨ ∃ a b, x = .bl a ∧ y = .bl b ∧ Q (.bl (!decide (a = b))) H
theorem ans_is : OpAns G isO rIsA := by
  intro W σ ι H h v w u1 u2 Q rh r1 r2 p
  cases r2 with
  | non => cases r1 with
    | non => exact .inl ⟨rfl, p.now rh (.bl _)⟩
    | glo => exact p.elim
    | _ => exact .inl ⟨rfl, p.now rh (.bl false)⟩
  | bl b => cases r1 with
    | bl a => exact .inr ⟨a, b, rfl, rfl, p.now rh (.bl _)⟩
    | _ => exact p.elim
  | _ => exact p.elim
theorem ans_isNot : OpAns G isNotO rIsNotA := by
  intro W σ ι H h v w u1 u2 Q rh r1 r2 p
  cases r2 with
  | non => cases r1 with
    | non => exact .inl ⟨rfl, p.now rh (.bl _)⟩
    | glo => exact p.elim
    | _ => exact .inl ⟨rfl, p.now rh (.bl true)⟩
  | bl b => cases r1 with
    | bl a => exact .inr ⟨a, b, rfl, rfl, p.now rh (.bl _)⟩
    | _ => exact p.elim
  | _ => exact p.elim
theorem inB_cases {v w : AV} {b : Bool} (e : inB v w = some b) : (∃ x z, v = .str x ∧ w = .str z ∧ b = !(Builtin.Str.occurrences z x 0 z.length 1).isEmpty) ∨
    ∃ xs d ds, w = .lst xs ∧ toD v = some d ∧ toDs xs = some ds ∧ SeqAt.shaped d = true ∧ SeqAt.shaped (.list ds) = true ∧ b = ds.any fun z => PyData.eqv z d := by
  unfold inB at e
  split at e
  · split at e
    · exact .inl ⟨_, _, rfl, rfl, (Option.some.inj e).symm⟩
    · cases e
  · rename_i xs
    cases q1 : toD v with
    | none => rw [q1] at e; cases e
    | some d =>
      cases q2 : toDs xs with
      | none => rw [q1, q2] at e; cases e
      | some ds =>
        rw [q1, q2] at e
        have e : (if (SeqAt.shaped d && SeqAt.shaped (.list ds)) = true then some (ds.any fun z => PyData.eqv z d) else none) = some b := e
        by_cases c : (SeqAt.shaped d && SeqAt.shaped (.list ds)) = true
        · rw [if_pos c] at e
          obtain ⟨c1, c2⟩ := Bool.and_eq_true_iff.mp c
          exact .inr ⟨xs, d, ds, rfl, rfl, q2, c1, c2, (Option.some.inj e).symm⟩
        · rw [if_neg c] at e
          cases e
  · cases e
def rInA (K : PySem.W.Frag) : R2 := fun x y H Q => (∃ i j, x = .str i ∧ y = .str j ∧ Q (.bl (!(Builtin.Str.occurrences j i 0 j.length 1).isEmpty)) H) ∨ rInD K x y H Q
def rNotInA (K : PySem.W.Frag) : R2 := fun x y H Q => (∃ i j, x = .str i ∧ y = .str j ∧ Q (.bl (!(!(Builtin.Str.occurrences j i 0 j.length 1).isEmpty))) H) ∨ rNotInD K x y H Q
theorem lst_list {ι : List Addr} {H : Hp} {xs : List AV} {u : V} {ds : List PyData} (r : RV G ι H (.lst xs) u) (e : toDs xs = some ds) : Dp G.K H u (.list ds) := by
  refine toD_ok (.lst xs) u (.list ds) r ?_
  unfold toD
  rw [e]
theorem ans_in : OpAns G inO (rInA G.K) := by
  intro W σ ι H h v w u1 u2 Q rh r1 r2 p
  have p : Post G (RV G) W σ ι H Q (resB (inB v w) h) := p
  cases e : inB v w with
  | none => rw [e] at p; exact p.elim
  | some b =>
    rw [e] at p
    have q := Post.now (a := AV.bl b) p rh (.bl b)
    rcases inB_cases e with ⟨x, z, rfl, rfl, rfl⟩ | ⟨xs, d, ds, rfl, e1, e2, s1, s2, rfl⟩
    · rw [inv_str r1, inv_str r2]
      exact .inl ⟨x, z, rfl, rfl, q⟩
    · exact .inr ⟨d, ds, toD_ok v u1 d r1 e1, lst_list r2 e2, s1, s2, q⟩
theorem ans_notIn : OpAns G notInO (rNotInA G.K) := by
  intro W σ ι H h v w u1 u2 Q rh r1 r2 p
  have p : Post G (RV G) W σ ι H Q (resBn (inB v w) h) := p
  cases e : inB v w with
  | none => rw [e] at p; exact p.elim
  | some b =>
    rw [e] at p
    have q := Post.now (a := AV.bl (!b)) p rh (.bl (!b))
    rcases inB_cases e with ⟨x, z, rfl, rfl, rfl⟩ | ⟨xs, d, ds, rfl, e1, e2, s1, s2, rfl⟩
    · rw [inv_str r1, inv_str r2]
      exact .inl ⟨x, z, rfl, rfl, q⟩
    · exact .inr ⟨d, ds, toD_ok v u1 d r1 e1, lst_list r2 e2, s1, s2, q⟩
def cmpO (op : CmpOp) : Op2 := match op with
  | .Eq => eqO | .NotEq => neO | .Lt => ltO | .LtE => leO | .Gt => gtO | .GtE => geO | .Is => isO | .IsNot => isNotO | .In => inO | .NotIn => notInO
theorem ans_cmpO (hK : X.K = G.K) (hu : X.A.units + 65 < cLine) (op : CmpOp) : ∃ r, OpR X (compareOp op) r ∧ OpAns G (cmpO op) r := by
  have hu64 : X.A.units + 64 < cLine := by omega
  cases op with
  | Eq => exact ⟨_, op_eq.or (hK ▸ op_eqD hu64), ans_eq⟩
  | NotEq => exact ⟨_, op_ne.or (hK ▸ op_neD hu64), ans_ne⟩
  | Lt => exact ⟨_, op_lt.or op_lt_str, ans_ltI⟩
  | LtE => exact ⟨_, op_le, ans_leI⟩
  | Gt => exact ⟨_, op_gt, ans_gtI⟩
  | GtE => exact ⟨_, op_ge, ans_geI⟩
  | Is => exact ⟨_, op_isN.or op_is_bl, ans_is⟩
  | IsNot => exact ⟨_, op_notN.or op_isnot_bl, ans_isNot⟩
  | In => exact ⟨_, op_in_str.or (hK ▸ op_inD hu), ans_in⟩
  | NotIn => exact ⟨_, op_notin_str.or (hK ▸ op_notInD hu), ans_notIn⟩
end
end AM
/-! AMd: calls of built-ins, subscripts, slices, truth, by values. -/
namespace AM
open PySem PySem.Spec PyProof.Rows L2

abbrev OpN := List AV → AH → Res AV
def CallAns (G : Gh) (f : OpN) (r : List V → Hp → VK → Prop) : Prop := ∀ (W : WX) (σ : L2.St) (ι : List Addr) (H : Hp) (h : AH) (vs : List AV) (us : List V) (Q : VK), RH G ι H h → RVs G ι H vs us → Post G (RV G) W σ ι H Q (f vs h) → r us H Q
theorem CallR.or {X : Cx} {f : Value} {r r' : List V → Hp → VK → Prop} (a : CallR X f r) (b : CallR X f r') : CallR X f (fun xs H Q => r xs H Q ∨ r' xs H Q) := fun pins s σ H xs us Q I rv q => by
  rcases q with q | q
  · exact a pins s σ H xs us Q I rv q
  · exact b pins s σ H xs us Q I rv q
section
variable {G : Gh} {ι : List Addr} {H : Hp} {W : WX} {σ : L2.St} {Q : VK} {h : AH}
theorem inv1 {x : AV} {us : List V} (r : RVs G ι H [x] us) : ∃ u, us = [u] ∧ RV G ι H x u := by
  cases r with
  | cons r t => cases t; exact ⟨_, rfl, r⟩
theorem inv2 {x y : AV} {us : List V} (r : RVs G ι H [x, y] us) : ∃ u w, us = [u, w] ∧ RV G ι H x u ∧ RV G ι H y w := by
  cases r with
  | cons r t =>
    obtain ⟨w, rfl, q⟩ := inv1 t
    exact ⟨_, w, rfl, r, q⟩
theorem ifP {α : Type} {c : Prop} [Decidable c] {R : List Addr → Hp → AV → V → Prop} {x : Res AV} (p : Post G R W σ ι H Q (if c then x else .stk)) : c ∧ Post G R W σ ι H Q x := by
  by_cases q : c
  · rw [if_pos q] at p
    exact ⟨q, p⟩
  · rw [if_neg q] at p
    exact p.elim
end

/-! ### len, all, any, sum -/
def lenA (v : AV) (h : AH) : Option Nat := match v with
  | .str z => if lenOk z.length then some z.length else none
  | .tup xs => some xs.length
  | .lst xs => some xs.length
  | .ext xs => some xs.length
  | .ref n => (match h[n]? with
    | some (.lst xs) => some xs.length
    | _ => none)
  | _ => none
def lenF : OpN := fun vs h => match vs with
  | [v] => (match lenA v h with
    | some n => .ok (.int n) h
    | none => .stk)
  | _ => .stk
theorem lenA_ok {G : Gh} {ι : List Addr} {H : Hp} {h : AH} {v : AV} {u : V} {n : Nat} (rh : RH G ι H h) (r : RV G ι H v u) (e : lenA v h = some n) : LenV G.K u H n := by
  cases r with
  | str z =>
    have e : (if lenOk z.length then some z.length else none) = some n := e
    by_cases c : lenOk z.length = true
    · rw [if_pos c] at e
      exact ⟨lenOk_le c, (Option.some.inj e).symm⟩
    · rw [if_neg c] at e
      cases e
  | tup t q => exact .inr ⟨_, t.sq, by rw [← q.length]; exact (Option.some.inj e).symm⟩
  | lst t q => exact .inl ⟨_, t.sq, by rw [← q.length]; exact (Option.some.inj e).symm⟩
  | ext t q => exact .inl ⟨_, t.sq, by rw [← q.length]; exact (Option.some.inj e).symm⟩
  | @ref k a ea =>
    have e : (match h[k]? with | some (.lst xs) => some xs.length | _ => none) = some n := e
    split at e
    · rename_i xs q
      obtain ⟨u, hu, ro⟩ := rh.at_ k _ a q ea
      obtain ⟨vs, rfl, rv⟩ := ro
      exact .inl ⟨vs, SqL.of hu, by rw [← rv.length]; exact (Option.some.inj e).symm⟩
    · cases e
  | _ => cases e
def blsOf : List AV → Option (List Bool)
  | [] => some []
  | .bl b :: r => (blsOf r).map (b :: ·)
  | _ :: _ => none
def intsOf : List AV → Option (List Int)
  | [] => some []
  | .int b :: r => (intsOf r).map (b :: ·)
  | _ :: _ => none
def strsOf : List AV → Option (List Str)
  | [] => some []
  | .str b :: r => (strsOf r).map (b :: ·)
  | _ :: _ => none
theorem blsOf_ok : ∀ {xs : List AV} {bs : List Bool}, blsOf xs = some bs → xs = bs.map AV.bl
  | [], bs, e => by cases e; rfl
  | .bl b :: r, bs, e => by
    unfold blsOf at e
    obtain ⟨bs', e1, rfl⟩ := Option.map_eq_some_iff.mp e
    rw [blsOf_ok e1]; rfl
  | .non :: _, _, e => by cases e
  | .int _ :: _, _, e => by cases e
  | .str _ :: _, _, e => by cases e
  | .ty _ :: _, _, e => by cases e
  | .tup _ :: _, _, e => by cases e
  | .lst _ :: _, _, e => by cases e
  | .dic _ _ :: _, _, e => by cases e
  | .ext _ :: _, _, e => by cases e
  | .ref _ :: _, _, e => by cases e
  | .glo _ :: _, _, e => by cases e
theorem intsOf_ok : ∀ {xs : List AV} {bs : List Int}, intsOf xs = some bs → xs = bs.map AV.int
  | [], bs, e => by cases e; rfl
  | .int b :: r, bs, e => by
    unfold intsOf at e
    obtain ⟨bs', e1, rfl⟩ := Option.map_eq_some_iff.mp e
    rw [intsOf_ok e1]; rfl
  | .non :: _, _, e => by cases e
  | .bl _ :: _, _, e => by cases e
  | .str _ :: _, _, e => by cases e
  | .ty _ :: _, _, e => by cases e
  | .tup _ :: _, _, e => by cases e
  | .lst _ :: _, _, e => by cases e
  | .dic _ _ :: _, _, e => by cases e
  | .ext _ :: _, _, e => by cases e
  | .ref _ :: _, _, e => by cases e
  | .glo _ :: _, _, e => by cases e
theorem strsOf_ok : ∀ {xs : List AV} {bs : List Str}, strsOf xs = some bs → xs = bs.map AV.str
  | [], bs, e => by cases e; rfl
  | .str b :: r, bs, e => by
    unfold strsOf at e
    obtain ⟨bs', e1, rfl⟩ := Option.map_eq_some_iff.mp e
    rw [strsOf_ok e1]; rfl
  | .non :: _, _, e => by cases e
  | .bl _ :: _, _, e => by cases e
  | .int _ :: _, _, e => by cases e
  | .ty _ :: _, _, e => by cases e
  | .tup _ :: _, _, e => by cases e
  | .lst _ :: _, _, e => by cases e
  | .dic _ _ :: _, _, e => by cases e
  | .ext _ :: _, _, e => by cases e
  | .ref _ :: _, _, e => by cases e
  | .glo _ :: _, _, e => by cases e
theorem blsOf_map (bs : List Bool) : blsOf (bs.map AV.bl) = some bs := by
  induction bs with
  | nil => rfl
  | cons b r ih => show (blsOf (r.map AV.bl)).map (b :: ·) = _; rw [ih]; rfl
theorem intsOf_map (bs : List Int) : intsOf (bs.map AV.int) = some bs := by
  induction bs with
  | nil => rfl
  | cons b r ih => show (intsOf (r.map AV.int)).map (b :: ·) = _; rw [ih]; rfl
theorem strsOf_map (bs : List Str) : strsOf (bs.map AV.str) = some bs := by
  induction bs with
  | nil => rfl
  | cons b r ih => show (strsOf (r.map AV.str)).map (b :: ·) = _; rw [ih]; rfl
/-- the items of a list that is never changed again -/
def lstOf : AV → Option (List AV)
  | .lst xs => some xs
  | .ext xs => some xs
  | _ => none
theorem lstOf_ok {G : Gh} {ι : List Addr} {H : Hp} {v : AV} {u : V} {xs : List AV} (r : RV G ι H v u) (e : lstOf v = some xs) : ∃ a vs, u = .ref a ∧ SqL G.K H a vs ∧ RVs G ι H xs vs := by
  cases r with
  | lst t q => cases e; exact ⟨_, _, rfl, t.sq, q⟩
  | ext t q => cases e; exact ⟨_, _, rfl, t.sq, q⟩
  | _ => cases e
def onLst (g : List AV → Option AV) : OpN := fun vs h => match vs with
  | [v] => (match (lstOf v).bind g with
    | some w => .ok w h
    | none => .stk)
  | _ => .stk
def allF : OpN := onLst fun xs => (blsOf xs).map fun bs => .bl (bs.all id)
def anyF : OpN := onLst fun xs => (blsOf xs).map fun bs => .bl (bs.any id)
def sumF : OpN := onLst fun xs => (intsOf xs).map fun bs => .int bs.sum
theorem onLst_inv {G : Gh} {g : List AV → Option AV} {W : WX} {σ : L2.St} {ι : List Addr} {H : Hp} {h : AH} {vs : List AV} {us : List V} {Q : VK} (r : RVs G ι H vs us) (p : Post G (RV G) W σ ι H Q (onLst g vs h)) :
    ∃ v u xs w, vs = [v] ∧ us = [u] ∧ RV G ι H v u ∧ lstOf v = some xs ∧ g xs = some w ∧ Post G (RV G) W σ ι H Q (.ok w h) := by
  match vs, r, p with
  | [v], r, p =>
    obtain ⟨u, rfl, q⟩ := inv1 r
    have p : Post G (RV G) W σ ι H Q (match (lstOf v).bind g with | some w => .ok w h | none => .stk) := p
    cases e : lstOf v with
    | none => rw [e] at p; exact p.elim
    | some xs =>
      rw [e] at p
      have p : Post G (RV G) W σ ι H Q (match g xs with | some w => .ok w h | none => .stk) := p
      cases e2 : g xs with
      | none => rw [e2] at p; exact p.elim
      | some w =>
        rw [e2] at p
        exact ⟨v, u, xs, w, rfl, rfl, q, e, e2, p⟩
  | [], _, p => exact p.elim
  | _ :: _ :: _, _, p => exact p.elim
section
variable {G : Gh}
theorem ans_len : CallAns G lenF (fun xs H Q => ∃ x n, xs = [x] ∧ LenV G.K x H n ∧ Q (.int n) H) := by
  intro W σ ι H h vs us Q rh r p
  match vs, r, p with
  | [v], r, p =>
    obtain ⟨u, rfl, q⟩ := inv1 r
    have p : Post G (RV G) W σ ι H Q (match lenA v h with | some n => .ok (.int n) h | none => .stk) := p
    cases e : lenA v h with
    | none => rw [e] at p; exact p.elim
    | some n =>
      rw [e] at p
      exact ⟨u, n, rfl, lenA_ok rh q e, Post.now (a := AV.int n) p rh (.int _)⟩
  | [], _, p => exact p.elim
  | _ :: _ :: _, _, p => exact p.elim
theorem ans_all : CallAns G allF (rAll G.K) := by
  intro W σ ι H h vs us Q rh r p
  obtain ⟨v, u, xs, w, rfl, rfl, rv, e1, e2, p⟩ := onLst_inv r p
  obtain ⟨bs, e3, rfl⟩ := Option.map_eq_some_iff.mp e2
  obtain ⟨a, ws, rfl, sq, q⟩ := lstOf_ok rv e1
  rw [blsOf_ok e3] at q
  rw [q.bls] at sq
  exact ⟨a, bs, rfl, sq, p.now rh (.bl _)⟩
theorem ans_any : CallAns G anyF (rAny G.K) := by
  intro W σ ι H h vs us Q rh r p
  obtain ⟨v, u, xs, w, rfl, rfl, rv, e1, e2, p⟩ := onLst_inv r p
  obtain ⟨bs, e3, rfl⟩ := Option.map_eq_some_iff.mp e2
  obtain ⟨a, ws, rfl, sq, q⟩ := lstOf_ok rv e1
  rw [blsOf_ok e3] at q
  rw [q.bls] at sq
  exact ⟨a, bs, rfl, sq, p.now rh (.bl _)⟩
theorem ans_sum : CallAns G sumF (rSum G.K) := by
  intro W σ ι H h vs us Q rh r p
  obtain ⟨v, u, xs, w, rfl, rfl, rv, e1, e2, p⟩ := onLst_inv r p
  obtain ⟨bs, e3, rfl⟩ := Option.map_eq_some_iff.mp e2
  obtain ⟨a, ws, rfl, sq, q⟩ := lstOf_ok rv e1
  rw [intsOf_ok e3] at q
  rw [q.ints] at sq
  exact ⟨a, bs, rfl, sq, p.now rh (.int _)⟩
end
/-! ### ints -/
def absF : OpN := fun vs h => match vs with
  | [.int i] => .ok (.int (if i < 0 then -i else i)) h
  | _ => .stk
def maxF : OpN := fun vs h => match vs with
  | [.int i, .int j] => .ok (.int (if j > i then j else i)) h
  | _ => .stk
def minF : OpN := fun vs h => match vs with
  | [.int i, .int j] => .ok (.int (if j < i then j else i)) h
  | _ => .stk
def divmodF : OpN := fun vs h => match vs with
  | [.int i, .int j] => if 0 < j ∧ Builtin.divisionGoesByPylong i j = false then .ok (.tup [.int (i / j), .int (i % j)]) h else .stk
  | _ => .stk
def strF : OpN := fun vs h => match vs with
  | [.int i] => if i.natAbs.log2 < 1920 then .ok (.str (toString i)) h else .stk
  | _ => .stk
def intF : OpN := fun vs h => match vs with
  | [.int i] => .ok (.int i) h
  | [.bl k] => .ok (.int (if k then 1 else 0)) h
  | _ => .stk
def tupleF : OpN := fun vs h => match vs with
  | [.tup xs] => .ok (.tup xs) h
  | [.lst xs] => .ok (.tup xs) h
  | [.ref n] => (match h[n]? with
    | some (.lst xs) => .ok (.tup xs) h
    | _ => .stk)
  | _ => .stk
def listF : OpN := fun vs h => match vs with
  | [.tup xs] => .ok (.lst xs) h
  | [.lst xs] => .ok (.lst xs) h
  | [.ref n] => (match h[n]? with
    | some (.lst xs) => .ok (.lst xs) h
    | _ => .stk)
  | _ => .stk
section
variable {G : Gh}
theorem ans_abs : CallAns G absF (fun xs H Q => ∃ i, xs = [.int i] ∧ Q (.int (if i < 0 then -i else i)) H) := by
  intro W σ ι H h vs us Q rh r p
  unfold absF at p
  split at p
  · obtain ⟨u, rfl, q⟩ := inv1 r
    rw [inv_int q]
    exact ⟨_, rfl, p.now rh (.int _)⟩
  · exact p.elim
theorem ans_max : CallAns G maxF (fun xs H Q => ∃ i j, xs = [.int i, .int j] ∧ Q (.int (if j > i then j else i)) H) := by
  intro W σ ι H h vs us Q rh r p
  unfold maxF at p
  split at p
  · obtain ⟨u, w, rfl, q1, q2⟩ := inv2 r
    rw [inv_int q1, inv_int q2]
    exact ⟨_, _, rfl, p.now rh (.int _)⟩
  · exact p.elim
theorem ans_min : CallAns G minF (fun xs H Q => ∃ i j, xs = [.int i, .int j] ∧ Q (.int (if j < i then j else i)) H) := by
  intro W σ ι H h vs us Q rh r p
  unfold minF at p
  split at p
  · obtain ⟨u, w, rfl, q1, q2⟩ := inv2 r
    rw [inv_int q1, inv_int q2]
    exact ⟨_, _, rfl, p.now rh (.int _)⟩
  · exact p.elim
theorem ans_divmod : CallAns G divmodF (fun xs H Q => ∃ i j, xs = [.int i, .int j] ∧ CDivP i j ∧ ∀ p, H p = none → Q (.ref p) (upd H p (.tup [.int (i / j), .int (i % j)]))) := by
  intro W σ ι H h vs us Q rh r p
  unfold divmodF at p
  split at p
  · obtain ⟨u, w, rfl, q1, q2⟩ := inv2 r
    rw [inv_int q1, inv_int q2]
    obtain ⟨c, p⟩ := ifP (α := AV) p
    exact ⟨_, _, rfl, c, fun pp np => p.at (Ext.fresh np) (rh.fresh np) (.tup (RT.new rh np) (.cons (.int _) (.cons (.int _) .nil)))⟩
  · exact p.elim
theorem ans_str : CallAns G strF (fun xs H Q => ∃ i, xs = [.int i] ∧ i.natAbs.log2 < 1920 ∧ Q (.str (toString i)) H) := by
  intro W σ ι H h vs us Q rh r p
  unfold strF at p
  split at p
  · obtain ⟨u, rfl, q⟩ := inv1 r
    rw [inv_int q]
    obtain ⟨c, p⟩ := ifP (α := AV) p
    exact ⟨_, rfl, c, p.now rh (.str _)⟩
  · exact p.elim
theorem ans_int1 : CallAns G intF (fun xs H Q => (∃ i, xs = [.int i] ∧ Q (.int i) H) ∨ ∃ k, xs = [.bl k] ∧ Q (.int (if k then 1 else 0)) H) := by
  intro W σ ι H h vs us Q rh r p
  unfold intF at p
  split at p
  · obtain ⟨u, rfl, q⟩ := inv1 r
    rw [inv_int q]
    exact .inl ⟨_, rfl, p.now rh (.int _)⟩
  · obtain ⟨u, rfl, q⟩ := inv1 r
    cases q
    exact .inr ⟨_, rfl, p.now rh (.int _)⟩
  · exact p.elim
theorem refLst {ι : List Addr} {H : Hp} {h : AH} {n : Nat} {u : V} {xs : List AV} (rh : RH G ι H h) (r : RV G ι H (.ref n) u) (e : h[n]? = some (.lst xs)) : ∃ a vs, u = .ref a ∧ ι[n]? = some a ∧ H a = some (.lst vs) ∧ RVs G ι H xs vs := by
  cases r with
  | ref ea =>
    obtain ⟨u, hu, ro⟩ := rh.at_ n _ _ e ea
    obtain ⟨vs, rfl, rv⟩ := ro
    exact ⟨_, vs, rfl, ea, hu, rv⟩
theorem ans_tuple : CallAns G tupleF (fun xs H Q => ∃ p ys, xs = [.ref p] ∧ ((SqL G.K H p ys ∧ ∀ l, H l = none → Q (.ref l) (upd H l (.tup ys))) ∨ (SqT G.K H p ys ∧ Q (.ref p) H))) := by
  intro W σ ι H h vs us Q rh r p
  unfold tupleF at p
  split at p
  · obtain ⟨u, rfl, q⟩ := inv1 r
    cases q with
    | tup t q => exact ⟨_, _, rfl, .inr ⟨t.sq, p.now rh (.tup t q)⟩⟩
  · obtain ⟨u, rfl, q⟩ := inv1 r
    cases q with
    | lst t q => exact ⟨_, _, rfl, .inl ⟨t.sq, fun l nl => p.at (Ext.fresh nl) (rh.fresh nl) (.tup (RT.new rh nl) (q.mono (Ext.fresh nl)))⟩⟩
  · split at p
    · rename_i e
      obtain ⟨u, rfl, q⟩ := inv1 r
      obtain ⟨a, ws, rfl, _, hu, rv⟩ := refLst rh q e
      exact ⟨_, _, rfl, .inl ⟨SqL.of hu, fun l nl => p.at (Ext.fresh nl) (rh.fresh nl) (.tup (RT.new rh nl) (rv.mono (Ext.fresh nl)))⟩⟩
    · exact p.elim
  · exact p.elim
theorem ans_list : CallAns G listF (fun xs H Q => ∃ p ys, xs = [.ref p] ∧ (SqL G.K H p ys ∨ SqT G.K H p ys) ∧ ∀ l, H l = none → Q (.ref l) (upd H l (.lst ys))) := by
  intro W σ ι H h vs us Q rh r p
  unfold listF at p
  split at p
  · obtain ⟨u, rfl, q⟩ := inv1 r
    cases q with
    | tup t q => exact ⟨_, _, rfl, .inr t.sq, fun l nl => p.at (Ext.fresh nl) (rh.fresh nl) (.lst (RL.new rh nl) (q.mono (Ext.fresh nl)))⟩
  · obtain ⟨u, rfl, q⟩ := inv1 r
    cases q with
    | lst t q => exact ⟨_, _, rfl, .inl t.sq, fun l nl => p.at (Ext.fresh nl) (rh.fresh nl) (.lst (RL.new rh nl) (q.mono (Ext.fresh nl)))⟩
  · split at p
    · rename_i e
      obtain ⟨u, rfl, q⟩ := inv1 r
      obtain ⟨a, ws, rfl, _, hu, rv⟩ := refLst rh q e
      exact ⟨_, _, rfl, .inl (SqL.of hu), fun l nl => p.at (Ext.fresh nl) (rh.fresh nl) (.lst (RL.new rh nl) (rv.mono (Ext.fresh nl)))⟩
    · exact p.elim
  · exact p.elim
end
/-! ### isinstance -/
def tyNm (v : AV) (h : AH) : Option String := match v with
  | .non => some "NoneType"
  | .bl _ => some "bool"
  | .int _ => some "int"
  | .str _ => some "str"
  | .tup _ => some "tuple"
  | .lst _ => some "list"
  | .ext _ => some "list"
  | .dic _ _ => some "dict"
  | .ref n => (match h[n]? with
    | some (.lst _) => some "list"
    | some (.dic _ _) => some "dict"
    | _ => none)
  | _ => none
def isiF : OpN := fun vs h => match vs with
  | [v, .ty n] => (match (tyNm v h).bind fun t => kitB t n with
    | some b => .ok (.bl b) h
    | none => .stk)
  | _ => .stk
theorem tyNm_ok {G : Gh} {ι : List Addr} {H : Hp} {h : AH} {v : AV} {u : V} {n : String} (rh : RH G ι H h) (r : RV G ι H v u) (e : tyNm v h = some n) : TyX G.K H u (.type n) := by
  cases r with
  | non => cases e; exact .base .non
  | bl b => cases e; exact .base (.bl b)
  | int b => cases e; exact .base (.int b)
  | str b => cases e; exact .base (.str b)
  | tup t q =>
    cases e
    rcases t with ⟨_, t | ⟨o, t⟩⟩ | ⟨o, its, n, h1, h2, _⟩
    · exact .base (.tup t)
    · exact .fTuple t
    · exact .kTuple h1 h2
  | lst t q => cases e; exact .base (.lst t.2)
  | ext t q =>
    cases e
    rcases t with ⟨_, t | ⟨o, t⟩⟩ | ⟨o, its, n, h1, h2, _⟩
    · exact .base (.lst t)
    · exact .base (.frz t)
    · exact .kList h1 h2
  | dic t _ _ =>
    cases e
    rcases t with ⟨_, t | ⟨o, t⟩⟩
    · exact .base (.dK t)
    · exact .fDict t
  | @ref k a ea =>
    have e : (match h[k]? with | some (.lst _) => some "list" | some (.dic _ _) => some "dict" | _ => none) = some n := e
    split at e
    · rename_i xs q
      obtain ⟨u, hu, ro⟩ := rh.at_ k _ a q ea
      obtain ⟨vs, rfl, rv⟩ := ro
      cases e
      exact .base (.lst hu)
    · rename_i ks xs q
      obtain ⟨u, hu, ro⟩ := rh.at_ k _ a q ea
      obtain ⟨vs, rfl, rv⟩ := ro
      cases e
      exact .base (.dK hu)
    · cases e
  | _ => cases e
theorem ans_isi {G : Gh} : CallAns G isiF (rIsi G.K) := by
  intro W σ ι H h vs us Q rh r p
  unfold isiF at p
  split at p
  · rename_i v n
    obtain ⟨u, w, rfl, q1, q2⟩ := inv2 r
    cases q2
    cases e : tyNm v h with
    | none => rw [e] at p; exact p.elim
    | some t =>
      rw [e] at p
      have p : Post G (RV G) W σ ι H Q (match kitB t n with | some b => .ok (.bl b) h | none => .stk) := p
      cases e2 : kitB t n with
      | none => rw [e2] at p; exact p.elim
      | some b =>
        rw [e2] at p
        exact ⟨_, _, _, _, b, rfl, .ty n, tyNm_ok rh q1 e, kit_ty e2, p.now rh (.bl b)⟩
  · exact p.elim

/-! ### subscripts, slices, truth -/
def idxO : Op2 := fun v w h => match w with
  | .int i => (match v with
    | .tup xs => (match atI xs i with
      | some x => .ok x h
      | none => .stk)
    | .lst xs => (match atI xs i with
      | some x => .ok x h
      | none => .stk)
    | .ext xs => (match atI xs i with
      | some x => .ok x h
      | none => .stk)
    | .str z => if lenOk z.length then (match atI z.cps.toList i with
      | some c => .ok (.str ⟨#[c]⟩) h
      | none => .stk) else .stk
    | .ref n => (match h[n]? with
      | some (.lst xs) => (match atI xs i with
        | some x => .ok x h
        | none => .stk)
      | _ => .stk)
    | _ => .stk)
  | _ => .stk
theorem atI_rel {G : Gh} {ι : List Addr} {H : Hp} {xs : List AV} {vs : List V} {i : Int} {x : AV} (r : RVs G ι H xs vs) (e : atI xs i = some x) : ∃ v, atI vs i = some v ∧ RV G ι H x v := by
  unfold atI at e ⊢
  rw [← r.length]
  cases q : ixN xs.length i with
  | none => rw [q] at e; cases e
  | some j =>
    rw [q] at e
    exact r.get (i := j) e
theorem ans_idx {G : Gh} : OpAns G idxO (rIx G.K) := by
  intro W σ ι H h v w u1 u2 Q rh r1 r2 p
  unfold idxO at p
  split at p
  · rename_i i
    rw [inv_int r2]
    split at p
    · split at p
      · rename_i e
        cases r1 with
        | tup t q =>
          obtain ⟨y, e2, ry⟩ := atI_rel q e
          exact .inr (.inl ⟨_, _, i, y, rfl, rfl, t.sq, e2, p.now rh ry⟩)
      · exact p.elim
    · split at p
      · rename_i e
        cases r1 with
        | lst t q =>
          obtain ⟨y, e2, ry⟩ := atI_rel q e
          exact .inl ⟨_, _, i, y, rfl, rfl, t.sq, e2, p.now rh ry⟩
      · exact p.elim
    · split at p
      · rename_i e
        cases r1 with
        | ext t q =>
          obtain ⟨y, e2, ry⟩ := atI_rel q e
          exact .inl ⟨_, _, i, y, rfl, rfl, t.sq, e2, p.now rh ry⟩
      · exact p.elim
    · obtain ⟨c, p⟩ := ifP (α := AV) p
      split at p
      · rename_i e
        rw [inv_str r1]
        exact .inr (.inr ⟨_, i, _, rfl, rfl, lenOk_le c, e, p.now rh (.str _)⟩)
      · exact p.elim
    · split at p
      · rename_i e0
        split at p
        · rename_i e
          obtain ⟨a, ws, rfl, _, hu, rv⟩ := refLst rh r1 e0
          obtain ⟨y, e2, ry⟩ := atI_rel rv e
          exact .inl ⟨_, _, i, y, rfl, rfl, SqL.of hu, e2, p.now rh ry⟩
        · exact p.elim
      · exact p.elim
    · exact p.elim
  · exact p.elim
/-- the items of xs[lo:hi] -/
def cutA {α : Type} (xs : List α) (lo hi : Option Int) : List α := (xs.drop (HT.sIx xs.length 0 lo)).take (HT.sIx xs.length xs.length hi - HT.sIx xs.length 0 lo)
def sliceF (v : AV) (lo hi : Option Int) (h : AH) : Res AV := match v with
  | .tup xs => .ok (.tup (cutA xs lo hi)) h
  | .lst xs => .ok (.lst (cutA xs lo hi)) h
  | .ext xs => .ok (.lst (cutA xs lo hi)) h
  | .str z => if lenOk z.length then .ok (.str (cutS z lo hi)) h else .stk
  | .ref n => (match h[n]? with
    | some (.lst xs) => .ok (.lst (cutA xs lo hi)) h
    | _ => .stk)
  | _ => .stk
def rSlAny (K : PySem.W.Frag) : V → Option Int → Option Int → Hp → VK → Prop := fun x lo hi H Q => rSlA K x lo hi H Q ∨ rSlL K x lo hi H Q ∨ rSlS x lo hi H Q
theorem cut_rel {G : Gh} {ι : List Addr} {H : Hp} {xs : List AV} {vs : List V} (r : RVs G ι H xs vs) (lo hi : Option Int) : RVs G ι H (cutA xs lo hi) (cutV vs lo hi) := by
  unfold cutA cutV
  rw [← r.length]
  exact (r.drop _).take _
theorem ans_slice {G : Gh} {W : WX} {σ : L2.St} {ι : List Addr} {H : Hp} {h : AH} {v : AV} {u : V} {lo hi : Option Int} {Q : VK} (rh : RH G ι H h) (r : RV G ι H v u) (p : Post G (RV G) W σ ι H Q (sliceF v lo hi h)) : rSlAny G.K u lo hi H Q := by
  unfold sliceF at p
  split at p
  · rename_i xs
    cases r with
    | @tup _ a vs t q =>
      refine .inl ⟨_, _, rfl, t.sq, fun c => ?_, fun c pp np => p.at (Ext.fresh np) (rh.fresh np) (.tup (RT.new rh np) ((cut_rel q lo hi).mono (Ext.fresh np)))⟩
      have e : cutA xs lo hi = xs := by
        unfold cutA
        rw [q.length, c.1, c.2]
        simp [← q.length]
      rw [e] at p
      exact p.now rh (.tup t q)
  · cases r with
    | lst t q => exact .inr (.inl ⟨_, _, rfl, t.sq, fun pp np => p.at (Ext.fresh np) (rh.fresh np) (.lst (RL.new rh np) ((cut_rel q lo hi).mono (Ext.fresh np)))⟩)
  · cases r with
    | ext t q => exact .inr (.inl ⟨_, _, rfl, t.sq, fun pp np => p.at (Ext.fresh np) (rh.fresh np) (.lst (RL.new rh np) ((cut_rel q lo hi).mono (Ext.fresh np)))⟩)
  · obtain ⟨c, p⟩ := ifP (α := AV) p
    rw [inv_str r]
    exact .inr (.inr ⟨_, rfl, lenOk_le c, p.now rh (.str _)⟩)
  · split at p
    · rename_i e
      obtain ⟨a, ws, rfl, _, hu, rv⟩ := refLst rh r e
      exact .inr (.inl ⟨_, _, rfl, SqL.of hu, fun pp np => p.at (Ext.fresh np) (rh.fresh np) (.lst (RL.new rh np) ((cut_rel rv lo hi).mono (Ext.fresh np)))⟩)
    · exact p.elim
  · exact p.elim
def truA (v : AV) (h : AH) : Option Bool := match v with
  | .non => some false
  | .bl b => some b
  | .int i => some (i != 0)
  | .str z => if lenOk z.length then some ((z.length : Int) != 0) else none
  | .tup xs => some (!xs.isEmpty)
  | .lst xs => some (!xs.isEmpty)
  | .ext xs => some (!xs.isEmpty)
  | .ref n => (match h[n]? with
    | some (.lst xs) => some (!xs.isEmpty)
    | _ => none)
  | _ => none
theorem isEmpty_rel {G : Gh} {ι : List Addr} {H : Hp} {xs : List AV} {vs : List V} (r : RVs G ι H xs vs) : xs.isEmpty = vs.isEmpty := by
  cases r <;> rfl
theorem truA_ok {G : Gh} {ι : List Addr} {H : Hp} {h : AH} {v : AV} {u : V} {b : Bool} (rh : RH G ι H h) (r : RV G ι H v u) (e : truA v h = some b) : TruV G.K u H b := by
  cases r with
  | non => cases e; rfl
  | bl b => cases e; rfl
  | int i => cases e; rfl
  | str z =>
    have e : (if lenOk z.length then some ((z.length : Int) != 0) else none) = some b := e
    by_cases c : lenOk z.length = true
    · rw [if_pos c] at e
      exact ⟨lenOk_le c, (Option.some.inj e).symm⟩
    · rw [if_neg c] at e
      cases e
  | tup t q => cases e; exact .inr (.inl ⟨_, t.sq, by rw [isEmpty_rel q]⟩)
  | lst t q => cases e; exact .inl ⟨_, t.sq, by rw [isEmpty_rel q]⟩
  | ext t q => cases e; exact .inl ⟨_, t.sq, by rw [isEmpty_rel q]⟩
  | @ref k a ea =>
    have e : (match h[k]? with | some (.lst xs) => some (!xs.isEmpty) | _ => none) = some b := e
    split at e
    · rename_i xs q
      obtain ⟨u, hu, ro⟩ := rh.at_ k _ a q ea
      obtain ⟨vs, rfl, rv⟩ := ro
      cases e
      exact .inl ⟨vs, SqL.of hu, by rw [isEmpty_rel rv]⟩
    · cases e
  | _ => cases e
end AM
/-! AMe: the machine's meaning of expressions. -/
namespace AM
open PySem PySem.Spec PyProof.Rows L2

/-- what is known where an expression stands: the def's slots, the block's scope, the module's names, the built-ins not hidden, the defs' parameters, how keywords bind, which list displays are the machine's own objects -/
structure DC where
  N : List Str
  sc : Scope
  glob : Str → Option AV
  free : Str → Bool
  fn : Str → Option (List Str)
  kw : Str → Nat → List Str → Option (List Nat)
  hp : Pos → Bool
def visB (sc : Scope) (x : Str) : Bool := match sc.names.lookup x with
  | some .local => true
  | some .cell => true
  | some .free => true
  | _ => false
def glB (sc : Scope) (x : Str) : Bool := match sc.names.lookup x with
  | some .globalImplicit => true
  | _ => false
def locB (sc : Scope) (x : Str) : Bool := match sc.names.lookup x with
  | some .local => true
  | some .cell => true
  | _ => false
def dun (x : Str) : Bool := (x == ("__debug__" : Str)) || (x == ("__classdict__" : Str)) || (x == ("__name__" : Str))
def idxOf (x : Str) : List Str → Option Nat
  | [] => none
  | y :: r => if y = x then some 0 else (idxOf x r).map (· + 1)
/-- the built-in types as values -/
def btyOf (x : Str) : Option String :=
  if x = "str" then some "str" else if x = "int" then some "int" else if x = "bool" then some "bool" else if x = "tuple" then some "tuple" else if x = "list" then some "list" else if x = "dict" then some "dict" else none
def constM : Const → ME
  | .none => retM .non
  | .bool b => retM (.bl b)
  | .int i => retM (.int i)
  | .str s => retM (.str s)
  | _ => fun _ _ => .stk
def slotM (i : Nat) : ME := fun ρ h => match ρ[i]? with
  | some (some v) => .ok v h
  | _ => .stk
def nameM (d : DC) (x : Str) : ME :=
  if dun x then fun _ _ => .stk else
  if visB d.sc x then (match idxOf x d.N with
    | some i => slotM i
    | none => fun _ _ => .stk)
  else if glB d.sc x then (match d.glob x with
    | some v => retM v
    | none => if d.free x then (match btyOf x with
      | some n => retM (.ty n)
      | none => fun _ _ => .stk) else fun _ _ => .stk)
  else fun _ _ => .stk
def isStar : Expr → Bool
  | .Starred _ _ => true
  | _ => false
def isSl : Expr → Bool
  | .Slice _ _ _ _ => true
  | _ => false
/-- tests read otherwise than by their value's truth -/
def isTst : Expr → Bool
  | .UnaryOp .Not _ _ => true
  | .BoolOp _ _ _ => true
  | .IfExp _ _ _ _ => true
  | .Compare _ _ _ _ => true
  | _ => false
def isIf : Expr → Bool
  | .IfExp _ _ _ _ => true
  | _ => false
def evsM (f : Expr → ME) : List Expr → MEs
  | [] => fun _ h => .ok [] h
  | e :: es => if isStar e then fun _ _ => .stk else fun ρ h => (f e ρ h).bind fun v h1 => (evsM f es ρ h1).bind fun vs h2 => .ok (v :: vs) h2
def plainAll (es : List Expr) : Bool := es.all fun e => !isStar e
def argsM (f : Expr → ME) (es : List Expr) : MEs := if plainAll es then evsM f es else fun _ _ => .stk
/-- a value's truth -/
def truR (v : AV) (h : AH) : Res Bool := match truA v h with
  | some b => .ok b h
  | none => .stk
def tstM (m : ME) : AM.Env → AH → Res Bool := fun ρ h => (m ρ h).bind truR
def notM (m : ME) : ME := fun ρ h => (m ρ h).bind fun v h1 => (truR v h1).bind fun b h2 => .ok (.bl (!b)) h2
def negM (m : ME) : ME := fun ρ h => (m ρ h).bind fun v h1 => match v with
  | .int i => .ok (.int (-i)) h1
  | _ => .stk
def andM (a b : ME) : ME := fun ρ h => (a ρ h).bind fun v h1 => (truR v h1).bind fun t h2 => if t then b ρ h2 else .ok v h2
def orM (a b : ME) : ME := fun ρ h => (a ρ h).bind fun v h1 => (truR v h1).bind fun t h2 => if t then .ok v h2 else b ρ h2
def boolM (f : Expr → ME) (op : BoolOp) : List Expr → ME
  | [] => fun _ _ => .stk
  | [e] => if isIf e then fun _ _ => .stk else f e
  | e :: es => if isIf e then fun _ _ => .stk else match op with
    | .And => andM (f e) (boolM f op es)
    | .Or => orM (f e) (boolM f op es)
def chainM (a b c : ME) (f g : Op2) : ME := fun ρ h => (a ρ h).bind fun v h1 => (b ρ h1).bind fun w h2 => (f v w h2).bind fun t h3 => match t with
  | .bl true => (c ρ h3).bind fun z h4 => g w z h4
  | .bl false => .ok (.bl false) h3
  | _ => .stk
def iteM (c : AM.Env → AH → Res Bool) (a b : ME) : ME := fun ρ h => (c ρ h).bind fun t h1 => if t then a ρ h1 else b ρ h1
def tupM (es : MEs) : ME := fun ρ h => (es ρ h).bind fun vs h1 => if lenOk vs.length then .ok (.tup vs) h1 else .stk
def lstM (es : MEs) : ME := fun ρ h => (es ρ h).bind fun vs h1 => if lenOk vs.length then .ok (.lst vs) h1 else .stk
/-- a list that is the machine's own object -/
def newM (es : MEs) : ME := fun ρ h => (es ρ h).bind fun vs h1 => if lenOk vs.length then .ok (.ref h1.length) (h1 ++ [.lst vs]) else .stk
def partM (f : Expr → ME) : Option Expr → AM.Env → AH → Res (Option Int)
  | none => fun _ h => .ok none h
  | some e => fun ρ h => (f e ρ h).bind fun v h1 => match v with
    | .int i => .ok (some i) h1
    | _ => .stk
def sliceM (m : ME) (lo hi : AM.Env → AH → Res (Option Int)) : ME := fun ρ h => (m ρ h).bind fun v h1 => (lo ρ h1).bind fun l h2 => (hi ρ h2).bind fun u h3 => sliceF v l u h3
/-- a built-in that is called by its name -/
inductive Bif where
  | len | all | any | sum | abs | max | min | divmod | isinstance | str | int | tuple | list
def bifOf (x : Str) : Option Bif :=
  if x = "len" then some .len else if x = "all" then some .all else if x = "any" then some .any else if x = "sum" then some .sum else if x = "abs" then some .abs else
  if x = "max" then some .max else if x = "min" then some .min else if x = "divmod" then some .divmod else if x = "isinstance" then some .isinstance else
  if x = "str" then some .str else if x = "int" then some .int else if x = "tuple" then some .tuple else if x = "list" then some .list else none
def bifF : Bif → OpN
  | .len => lenF | .all => allF | .any => anyF | .sum => sumF | .abs => absF | .max => maxF | .min => minF | .divmod => divmodF | .isinstance => isiF
  | .str => strF | .int => intF | .tuple => tupleF | .list => listF
def callM (f : OpN) (es : MEs) : ME := fun ρ h => (es ρ h).bind fun vs h1 => f vs h1
def pick {α : Type} (ord : List Nat) (l : List α) : List α := ord.filterMap fun i => l[i]?
def kwNames (kws : List Keyword) : List Str := kws.filterMap (·.arg)
def callKM (f : OpN) (ord : List Nat) (es ks : MEs) : ME := fun ρ h => (es ρ h).bind fun vs h1 => (ks ρ h1).bind fun zs h2 => f (pick ord (vs ++ zs)) h2
def kwsM (f : Expr → ME) : List Keyword → MEs
  | [] => fun _ h => .ok [] h
  | k :: ks => fun ρ h => (f k.value ρ h).bind fun v h1 => (kwsM f ks ρ h1).bind fun vs h2 => .ok (v :: vs) h2
def ucM (f : Expr → ME) (d : DC) (F : Str → OpN) (x : Str) (args : List Expr) (kws : List Keyword) : ME :=
  if dun x || !(glB d.sc x) then fun _ _ => .stk else
  match kws with
  | [] => (match d.fn x with
    | some ps => if Nat.beq args.length ps.length then callM (F x) (argsM f args) else fun _ _ => .stk
    | none => if d.free x then (match bifOf x with
      | some b => if args.isEmpty then fun _ _ => .stk else callM (bifF b) (argsM f args)
      | none => fun _ _ => .stk) else fun _ _ => .stk)
  | _ :: _ => if kws.all (·.arg.isSome) then (match d.kw x args.length (kwNames kws) with
    | some ord => callKM (F x) ord (argsM f args) (kwsM f kws)
    | none => fun _ _ => .stk) else fun _ _ => .stk
/-- a receiver that super() is not -/
def plainO : Expr → Bool
  | .Call _ [] [] _ => false
  | _ => true
/-! ### methods of texts -/
inductive Smt where
  | upper | join
def smtOf (x : Str) : Option Smt := if x = "upper" then some .upper else if x = "join" then some .join else none
def upperF : AV → OpN := fun v vs h => match v, vs with
  | .str a, [] => if a.length ≤ 5592405 then .ok (.str (Txt.upper a)) h else .stk
  | _, _ => .stk
def joinF : AV → OpN := fun v vs h => match v, vs with
  | .str a, [w] => (match w with
    | .lst xs => (match strsOf xs with
      | some ys => if (ys.map (·.length)).sum + ys.length * a.length ≤ 16777216 then .ok (.str (Txt.join a ys)) h else .stk
      | none => .stk)
    | .tup xs => (match strsOf xs with
      | some ys => if (ys.map (·.length)).sum + ys.length * a.length ≤ 16777216 then .ok (.str (Txt.join a ys)) h else .stk
      | none => .stk)
    | _ => .stk)
  | _, _ => .stk
def smt0 (f : AV → OpN) (o : ME) : ME := fun ρ h => (o ρ h).bind fun v h1 => match v with
  | .str _ => f v [] h1
  | _ => .stk
def smt1 (f : AV → OpN) (o e : ME) : ME := fun ρ h => (o ρ h).bind fun v h1 => match v with
  | .str _ => (e ρ h1).bind fun w h2 => f v [w] h2
  | _ => .stk
def smtM (f : Expr → ME) (m : Smt) (o : Expr) (args : List Expr) : ME := match args with
  | [] => (match m with
    | .upper => smt0 upperF (f o)
    | _ => fun _ _ => .stk)
  | [e] => if isStar e then fun _ _ => .stk else (match m with
    | .join => smt1 joinF (f o) (f e)
    | _ => fun _ _ => .stk)
  | _ => fun _ _ => .stk
/-! ### targets of fors -/
def bindTs (f : Expr → AV → AM.Env → Option AM.Env) : List Expr → List AV → AM.Env → Option AM.Env
  | [], [], ρ => some ρ
  | e :: es, v :: vs, ρ => if isStar e then none else (f e v ρ).bind fun ρ1 => bindTs f es vs ρ1
  | _, _, _ => none
/-- a name, or a tuple of such -/
def bindT (d : DC) : Nat → Expr → AV → AM.Env → Option AM.Env
  | 0, _, _, _ => none
  | n + 1, e, v, ρ => match e with
    | .Name x _ => if locB d.sc x then (idxOf x d.N).map fun i => ρ.set i (some v) else none
    | .Tuple es _ _ => (match v with
      | .tup xs => bindTs (bindT d n) es xs ρ
      | _ => none)
    | _ => none
def tslotsL (f : Expr → List Nat) : List Expr → List Nat
  | [] => []
  | e :: es => f e ++ tslotsL f es
def tslots (d : DC) : Nat → Expr → List Nat
  | 0, _ => []
  | n + 1, e => match e with
    | .Name x _ => (idxOf x d.N).toList
    | .Tuple es _ _ => tslotsL (tslots d n) es
    | _ => []
/-! ### what a for walks -/
def signs (z : Str) : List AV := z.cps.toList.map fun c => .str ⟨#[c]⟩
def itemsOf (v : AV) : Option (List AV) := match v with
  | .lst xs => some xs
  | .ext xs => some xs
  | .tup xs => some xs
  | .str z => some (signs z)
  | _ => none
def itemsR (v : AV) (h : AH) : Res (List AV) := match itemsOf v with
  | some xs => .ok xs h
  | none => .stk
def ranges (lo : Int) (n : Nat) : List AV := (List.range n).map fun i => .int (lo + (i : Nat))
def small62 (i : Int) : Bool := decide (-(2 ^ 62) ≤ i) && decide (i < 2 ^ 62)
def rangeR : List AV → AH → Res (List AV) := fun vs h => match vs with
  | [.int j] => if small62 j then .ok (ranges 0 j.toNat) h else .stk
  | [.int i, .int j] => if small62 i && small62 j then .ok (ranges i (j - i).toNat) h else .stk
  | _ => .stk
def enumI : Nat → List AV → List AV
  | _, [] => []
  | i, x :: xs => .tup [.int (i : Nat), x] :: enumI (i + 1) xs
def zipI : List AV → List AV → List AV
  | x :: xs, y :: ys => .tup [x, y] :: zipI xs ys
  | _, _ => []
def enumR : List AV → AH → Res (List AV) := fun vs h => match vs with
  | [v] => (match lstOf v with
    | some xs => .ok (enumI 0 xs) h
    | none => .stk)
  | _ => .stk
def isTup : Expr → Bool
  | .Tuple _ _ _ => true
  | _ => false
def isSet : Expr → Bool
  | .Set _ _ _ => true
  | _ => false
/-- the items of the iterable, tg the target -/
def itM (f : Expr → ME) (d : DC) (tg it : Expr) : AM.Env → AH → Res (List AV) :=
  if isSet it then fun _ _ => .stk else
  match it with
  | .Call (.Name x _) args [] _ =>
    if x = "range" then (if glB d.sc x && d.free x && (Nat.beq args.length 1 || Nat.beq args.length 2) then fun ρ h => (argsM f args ρ h).bind rangeR else fun _ _ => .stk)
    else if x = "enumerate" then (if glB d.sc x && d.free x && isTup tg && Nat.beq args.length 1 then fun ρ h => (argsM f args ρ h).bind enumR else fun _ _ => .stk)
    else fun ρ h => (f it ρ h).bind itemsR
  | _ => fun ρ h => (f it ρ h).bind itemsR
/-! ### comprehensions -/
def noX {α : Type} : Res α → Res α
  | .ok a h => .ok a h
  | _ => .stk
def wipeA (ρ : AM.Env) : List Nat → AM.Env
  | [] => ρ
  | v :: vs => (wipeA ρ vs).set v none
/-- [elt for target in items if ..]: ρ the names with the block's own ones forgotten -/
def compL (asg : AV → AM.Env → Option AM.Env) (test : AM.Env → AH → Res Bool) (elt : ME) (ρ : AM.Env) : List AV → List AV → AH → Res (List AV)
  | [], acc, h => .ok acc h
  | a :: r, acc, h => match asg a ρ with
    | none => .stk
    | some ρ1 => (noX (test ρ1 h)).bind fun b h1 => if b then (noX (elt ρ1 h1)).bind fun v h2 => if acc.length < sizeLine then compL asg test elt ρ r (acc ++ [v]) h2 else .stk else compL asg test elt ρ r acc h1
def testsM (f : Expr → ME) : List Expr → AM.Env → AH → Res Bool
  | [] => fun _ h => .ok true h
  | [e] => if isIf e then fun _ _ => .stk else tstM (f e)
  | _ => fun _ _ => .stk
/-- the block's own names with their slots -/
def ownOf (N : List Str) (sc : Scope) : List (Str × Nat) := sc.names.filterMap fun y => match y.2 with
  | .local => (idxOf y.1 N).map fun i => (y.1, i)
  | .cell => (idxOf y.1 N).map fun i => (y.1, i)
  | _ => none
def subB (xs ys : List Nat) : Bool := xs.all fun x => ys.any fun y => Nat.beq x y
def compM (f fi : Expr → ME) (d : DC) (n : Nat) (elt tg it : Expr) (ifs : List Expr) (sc : Scope) : ME := fun ρ h =>
  let own := (ownOf d.N sc).map (·.2)
  if blkC d.N d.sc sc (ownOf d.N sc) && subB (tslots { d with sc := sc } n tg) own then
    (itM f d tg it ρ h).bind fun xs h1 => (compL (bindT { d with sc := sc } n tg) (testsM fi ifs) (fi elt) (wipeA ρ own) xs [] h1).bind fun ys h2 => .ok (.lst ys) h2
  else .stk
/-! ### all expressions -/
def ev (F : Str → OpN) : Nat → DC → Expr → ME
  | 0, _, _ => fun _ _ => .stk
  | n + 1, d, e => match e with
    | .Constant c _ _ => constM c
    | .Name x _ => nameM d x
    | .BinOp a op b _ => if binB op then bin2 (ev F n d a) (ev F n d b) (binO op) else fun _ _ => .stk
    | .UnaryOp .USub a _ => negM (ev F n d a)
    | .Dict [] [] _ => fun _ h => .ok (.dic [] []) h
    | .UnaryOp .Not a _ => if isIf a then fun _ _ => .stk else notM (ev F n d a)
    | .Compare a [op] [b] _ => if behindInMarks op b then fun _ _ => .stk else bin2 (ev F n d a) (ev F n d b) (cmpO op)
    | .Compare a [op, op'] [b, c] _ => if lastMarks [op, op'] [b, c] then fun _ _ => .stk else chainM (ev F n d a) (ev F n d b) (ev F n d c) (cmpO op) (cmpO op')
    | .BoolOp op es _ => boolM (ev F n d) op es
    | .IfExp c a b _ => if isIf c then fun _ _ => .stk else iteM (tstM (ev F n d c)) (ev F n d a) (ev F n d b)
    | .Tuple es _ _ => tupM (evsM (ev F n d) es)
    | .List es pos => if d.hp pos then newM (evsM (ev F n d) es) else lstM (evsM (ev F n d) es)
    | .Subscript a i _ => (match i with
      | .Slice lo hi none _ => sliceM (ev F n d a) (partM (ev F n d) lo) (partM (ev F n d) hi)
      | _ => if isSl i then fun _ _ => .stk else bin2 (ev F n d a) (ev F n d i) idxO)
    | .Call (.Name x _) args kws _ => ucM (ev F n d) d F x args kws
    | .Call (.Attribute o m apos) args [] pos => (match smtOf m with
      | some s => if (apos.endLine == pos.line) && plainO o then smtM (ev F n d) s o args else fun _ _ => .stk
      | none => fun _ _ => .stk)
    | .ListComp elt [⟨tg, it, ifs, 0⟩] sc _ => compM (ev F n d) (ev F n { d with sc := sc }) d n elt tg it ifs sc
    | _ => fun _ _ => .stk
end AM
/-! AMf: the meaning of expressions is what the model does. -/
namespace AM
open PySem PySem.Spec PyProof.Rows L2

structure XOk (X : Cx) (G : Gh) (d : DC) : Prop where
  N : X.N = d.N
  nd : d.N.Nodup
  K : X.K = G.K
  calm : X.calm = true
  hu : X.A.units + 65 < cLine
  vis : ∀ x, visB d.sc x = true → Vis X.env.scope x
  loc : ∀ x, locB d.sc x = true → Loc X.env.scope x ∧ (X.fn x = true ∨ X.env.scope.names.lookup x = some .local)
  gl : ∀ x, glB d.sc x = true → Gl X x
  cf : ∀ x, (d.sc.names.lookup x = some .cell ∨ d.sc.names.lookup x = some .free) → (X.env.scope.names.lookup x = some .cell ∨ X.env.scope.names.lookup x = some .free)
  free : ∀ x, d.free x = true → X.mg x = none
  glob : ∀ x v, d.glob x = some v → ∃ (u : Value) (w : V), X.mg x = some u ∧ RelV w u ∧ ∀ l ι H, RV (G.hide l) ι H v w
/-- a def's promise by the machine's meaning -/
def spA (G : Gh) (n : Nat) (f : OpN) : Sp := fun vs H Q E => ∃ l ι h avs, RH (G.hide l) ι H h ∧ RVs (G.hide l) ι H avs vs ∧ avs.length = n ∧ Post (G.hide l) (RV (G.hide l)) (fun C d _ H => E C d H) [] ι H Q (f avs h)
structure FOk (X : Cx) (G : Gh) (d : DC) (F : Str → OpN) : Prop where
  pos : ∀ x ps, d.fn x = some ps → ∃ (f : Addr) (fd : FuncData) (k : Nat), X.mg x = some (.ref f) ∧ PySem.W.keepIn X.K (.ref f) = true ∧ FnOk X.prog X.w X.K X.mg X.base (L2.CX X.prog X.w) k f fd ps (spA G ps.length (F x)) ∧ Room k X.A ∧ Binds X.K fd ps []
  kw : ∀ x n ks ord, d.kw x n ks = some ord → ∃ (f : Addr) (fd : FuncData) (k : Nat) (ps : List Str), X.mg x = some (.ref f) ∧ PySem.W.keepIn X.K (.ref f) = true ∧ FnOk X.prog X.w X.K X.mg X.base (L2.CX X.prog X.w) k f fd ps (spA G ps.length (F x)) ∧ Room k X.A ∧ (∀ i ∈ ord, i < n + ks.length) ∧ ord.length = ps.length ∧
    ∀ (s : Shared) (us ws : List Value), X.K.In s.heap → us.length = n → ws.length = ks.length → (pick ord (us ++ ws)).length = ps.length → BindsTo s fd ⟨us, ks.zip ws⟩ (ps.zip (pick ord (us ++ ws)))
theorem Post.slots {α β : Type} {G : Gh} {R : List Addr → Hp → α → β → Prop} {W W' : WX} {σ σ' : L2.St} {ι : List Addr} {H : Hp} {Q : β → Hp → Prop} {r : Res α} (p : Post G R W σ ι H Q r) (i : ∀ C d H, W C d σ H → W' C d σ' H) : Post G R W' σ' ι H Q r := by
  cases r with
  | ok a h => exact p
  | exc c fs h => exact fun ι' H' C d x rh rx => i _ _ _ (p ι' H' C d x rh rx)
  | stk => exact p
theorem RVs.vals_len {G : Gh} {ι : List Addr} {H : Hp} {xs : List AV} {vs : List V} (r : RVs G ι H xs vs) : vs.length = xs.length := r.length.symm
theorem pick_rel {G : Gh} {ι : List Addr} {H : Hp} {xs : List AV} {vs : List V} (r : RVs G ι H xs vs) : ∀ ord : List Nat, RVs G ι H (pick ord xs) (pick ord vs)
  | [] => .nil
  | i :: ord => by
    have ih := pick_rel r ord
    unfold pick at ih ⊢
    rw [List.filterMap_cons, List.filterMap_cons]
    cases e : xs[i]? with
    | none =>
      have e2 : vs[i]? = none := by
        have h1 := List.getElem?_eq_none_iff.mp e
        exact List.getElem?_eq_none_iff.mpr (by rw [← r.length]; exact h1)
      rw [e2]
      exact ih
    | some x =>
      obtain ⟨v, e2, q⟩ := r.get e
      rw [e2]
      exact .cons q ih
theorem pick_vals {xs : List V} {us : List Value} (r : Vals xs us) : ∀ ord : List Nat, Vals (pick ord xs) (pick ord us)
  | [] => .nil
  | i :: ord => by
    have ih := pick_vals r ord
    unfold pick at ih ⊢
    rw [List.filterMap_cons, List.filterMap_cons]
    cases e : xs[i]? with
    | none =>
      rw [r.none_of e]
      exact ih
    | some x =>
      obtain ⟨v, e2, q⟩ := r.get e
      rw [e2]
      exact .cons q ih
theorem idxOf_ok {x : Str} : ∀ {N : List Str} {i : Nat}, idxOf x N = some i → N[i]? = some x
  | [], _, e => by cases e
  | y :: r, i, e => by
    unfold idxOf at e
    by_cases c : y = x
    · rw [if_pos c] at e
      cases e
      rw [c]
      rfl
    · rw [if_neg c] at e
      obtain ⟨j, e1, rfl⟩ := Option.map_eq_some_iff.mp e
      simpa using idxOf_ok e1
theorem btyOf_ok {x : Str} {n : String} (e : btyOf x = some n) : bootBuiltins x = some (.type n) := by
  unfold btyOf at e
  repeat (split at e; · rename_i c; cases e; rw [c]; decide +kernel)
  cases e
theorem dun_no {x : Str} (h : ¬ dun x = true) : (x == ("__debug__" : Str)) = false ∧ (x == ("__classdict__" : Str)) = false ∧ x ≠ "__name__" := by
  unfold dun at h
  rw [Bool.or_eq_true, Bool.or_eq_true, not_or, not_or] at h
  obtain ⟨⟨h1, h2⟩, h3⟩ := h
  refine ⟨by simpa using h1, by simpa using h2, fun z => h3 ?_⟩
  rw [z]
  decide +kernel
section
variable {X : Cx} {G : Gh} {d : DC} {W : WX} {F : Str → OpN}
theorem pe_dead {e : Expr} : PE X e (RE G W fun _ _ => .stk) := PE_stk fun _ _ => rfl
theorem re_const {c : Const} {k : Nat} {pos : Pos} : PE X (.Constant c k pos) (RE G W (constM c)) := by
  cases c with
  | none => exact PE_imp pe_non fun σ H Q ⟨ι, ρ, h, rh, rs, p⟩ => Post.now (a := AV.non) p rh .non
  | bool b => exact PE_imp pe_bl fun σ H Q ⟨ι, ρ, h, rh, rs, p⟩ => Post.now (a := AV.bl b) p rh (.bl b)
  | int b => exact PE_imp pe_int fun σ H Q ⟨ι, ρ, h, rh, rs, p⟩ => Post.now (a := AV.int b) p rh (.int b)
  | str b => exact PE_imp pe_str fun σ H Q ⟨ι, ρ, h, rh, rs, p⟩ => Post.now (a := AV.str b) p rh (.str b)
  | _ => exact pe_dead
theorem re_name (ok : XOk X G d) {x : Str} {pos : Pos} : PE X (.Name x pos) (RE G W (nameM d x)) := by
  unfold nameM
  by_cases c0 : dun x = true
  · rw [if_pos c0]; exact pe_dead
  rw [if_neg c0]
  obtain ⟨n1, n2, n3⟩ := dun_no c0
  by_cases c1 : visB d.sc x = true
  · rw [if_pos c1]
    cases e : idxOf x d.N with
    | none => exact pe_dead
    | some i =>
      refine PE_imp (pe_var (i := i) (by rw [ok.N]; exact idxOf_ok e) (ok.vis x c1) n1 n2) fun σ H Q ⟨ι, ρ, h, rh, rs, p⟩ => ?_
      have p : Post G (RV G) W σ ι H Q (match ρ[i]? with | some (some v) => .ok v h | _ => .stk) := p
      split at p
      · rename_i v q
        obtain ⟨u, e1, r⟩ := rs.2 i v q
        exact ⟨u, e1, p.now rh r⟩
      · exact p.elim
  · rw [if_neg c1]
    by_cases c2 : glB d.sc x = true
    · rw [if_pos c2]
      cases e : d.glob x with
      | some v =>
        obtain ⟨u, w, hm, r, rv⟩ := ok.glob x v e
        exact PE_imp (pe_glob (ok.gl x c2) hm r n1) fun σ H Q ⟨ι, ρ, h, rh, rs, p⟩ => Post.now (a := v) p rh (rv G.hid ι H)
      | none =>
        by_cases c3 : d.free x = true
        · show PE X (.Name x pos) (RE G W (if d.free x then _ else _))
          rw [if_pos c3]
          cases e2 : btyOf x with
          | none => exact pe_dead
          | some n => exact PE_imp (pe_bltn (v := .ty n) (ok.gl x c2) (ok.free x c3) (btyOf_ok e2) rfl n3 n1) fun σ H Q ⟨ι, ρ, h, rh, rs, p⟩ => Post.now (a := AV.ty n) p rh (.ty n)
        · show PE X (.Name x pos) (RE G W (if d.free x then _ else _))
          rw [if_neg c3]
          exact pe_dead
    · rw [if_neg c2]
      exact pe_dead
theorem starEach_plain {e : Expr} {es : List Expr} {env : PySem.Env} (h : isStar e = false) : starEach (e :: es) env = (false, eval e env) :: starEach es env := by
  cases e <;> first | rfl | cases h
theorem pa_dead {es : List Expr} : PA X es (RA G W fun _ _ => .stk) := ⟨fun pos pins s σ H Q I ⟨_, _, _, _, _, p⟩ => p.elim⟩
theorem ra_evs {f : Expr → ME} : ∀ es : List Expr, (∀ e ∈ es, PE X e (RE G W (f e))) → PA X es (RA G W (evsM f es))
  | [], _ => PA_imp pa_nil fun σ H Q ⟨ι, ρ, h, rh, rs, p⟩ => Post.now (a := []) p rh .nil
  | e :: es, hf => by
    unfold evsM
    by_cases c : isStar e = true
    · rw [if_pos c]; exact pa_dead
    · rw [if_neg c]
      have he := hf e (List.mem_cons_self ..)
      have ht := ra_evs es fun x hx => hf x (List.mem_cons_of_mem _ hx)
      refine PA_imp (pa_cons he ht (starEach_plain (by simpa using c))) fun σ H Q ⟨ι, ρ, h, rh, rs, p⟩ => ⟨ι, ρ, h, rh, rs, Post.bind p fun ι1 H1 v u h1 x1 rh1 r1 p1 => ⟨ι1, ρ, h1, rh1, rs.mono x1, Post.bind p1 fun ι2 H2 vs us h2 x2 rh2 r2 p2 => ?_⟩⟩
      exact Post.now (a := v :: vs) p2 rh2 (.cons (r1.mono x2) r2)
theorem backTo_any {env : PySem.Env} {pos : Pos} : ∀ {es : List Expr}, (∀ e ∈ es, isStar e = false) → (backTo pos (starEach es env)).any (·.1) = false
  | [], _ => rfl
  | e :: es, h => by
    rw [starEach_plain (h e (List.mem_cons_self ..))]
    have ih := backTo_any (env := env) (pos := pos) fun x hx => h x (List.mem_cons_of_mem e hx)
    unfold backTo at ih ⊢
    rw [List.map_cons, List.any_cons, ih]
    rfl
theorem plainAll_ok {es : List Expr} (h : plainAll es = true) : ∀ e ∈ es, isStar e = false := fun e he => by
  have q := List.all_eq_true.mp h e he
  simpa using q
theorem isTrue_plain {e : Expr} {env : PySem.Env} (h : isTst e = false) : ∀ whole, isTrue e env whole = (do let v ← whole; standAt e.pos; holding [v] (truthy v)) := by
  intro whole
  cases e with
  | UnaryOp op a pos => cases op <;> first | rfl | cases h
  | BoolOp _ _ _ => cases h
  | IfExp _ _ _ _ => cases h
  | Compare _ _ _ _ => cases h
  | _ => rfl
theorem truR_inv {σ : L2.St} {ι : List Addr} {H : Hp} {h : AH} {v : AV} {α β : Type} {R : List Addr → Hp → α → β → Prop} {Q : β → Hp → Prop} {f : Bool → AH → Res α} (p : Post G R W σ ι H Q ((truR v h).bind f)) : ∃ b, truA v h = some b ∧ Post G R W σ ι H Q (f b h) := by
  unfold truR at p
  cases e : truA v h with
  | none => rw [e] at p; exact p.elim
  | some b => rw [e] at p; exact ⟨b, rfl, p⟩
theorem rt_plain (ok : XOk X G d) {e : Expr} {m : ME} (he : PE X e (RE G W m)) (h : isTst e = false) : PT X e (RTt G W (tstM m)) :=
  PT_imp (pt_truth he (isTrue_plain h)) fun σ H Q ⟨ι, ρ, hh, rh, rs, p⟩ => ⟨ι, ρ, hh, rh, rs, Post.bind p fun ι1 H1 v u h1 x1 rh1 r1 p1 => by
    unfold truR at p1
    cases q : truA v h1 with
    | none => rw [q] at p1; exact p1.elim
    | some b =>
      rw [q] at p1
      exact ⟨b, by rw [ok.K]; exact truA_ok rh1 r1 q, Post.now (a := b) p1 rh1 rfl⟩⟩
theorem re_not (ok : XOk X G d) {a : Expr} {m : ME} {pos : Pos} (ha : PE X a (RE G W m)) : PE X (.UnaryOp .Not a pos) (RE G W (notM m)) :=
  PE_imp (pe_notT ha) fun σ H Q ⟨ι, ρ, hh, rh, rs, p⟩ => ⟨ι, ρ, hh, rh, rs, Post.bind p fun ι1 H1 v u h1 x1 rh1 r1 p1 => by
    obtain ⟨b, q, p2⟩ := truR_inv p1
    exact ⟨b, by rw [ok.K]; exact truA_ok rh1 r1 q, Post.now (a := AV.bl (!b)) p2 rh1 (.bl _)⟩⟩
theorem re_neg {a : Expr} {m : ME} {pos : Pos} (ha : PE X a (RE G W m)) : PE X (.UnaryOp .USub a pos) (RE G W (negM m)) :=
  PE_imp (pe_un un_neg ha) fun σ H Q ⟨ι, ρ, hh, rh, rs, p⟩ => ⟨ι, ρ, hh, rh, rs, Post.bind p fun ι1 H1 v u h1 x1 rh1 r1 p1 => by
    split at p1
    · rename_i i
      rw [inv_int r1]
      exact ⟨i, rfl, p1.now rh1 (.int _)⟩
    · exact p1.elim⟩
theorem re_dic0 {pos : Pos} : PE X (.Dict [] [] pos) (RE G W fun _ h => .ok (.dic [] []) h) :=
  PE_imp pe_dnewK fun σ H Q ⟨ι, ρ, hh, rh, rs, p⟩ pp np => p.at (Ext.fresh np) (rh.fresh np) (.dic (Fz.new rh np) rfl .nil)
theorem re_and (ok : XOk X G d) {a b : Expr} {rest : List Expr} {m m2 : ME} {pos : Pos} (ha : PE X a (RE G W m)) (hb : PE X (.BoolOp .And (b :: rest) pos) (RE G W m2)) : PE X (.BoolOp .And (a :: b :: rest) pos) (RE G W (andM m m2)) :=
  PE_imp (pe_andT ha hb) fun σ H Q ⟨ι, ρ, hh, rh, rs, p⟩ => ⟨ι, ρ, hh, rh, rs, Post.bind p fun ι1 H1 v u h1 x1 rh1 r1 p1 => by
    obtain ⟨t, q, p2⟩ := truR_inv p1
    refine ⟨t, by rw [ok.K]; exact truA_ok rh1 r1 q, ?_⟩
    cases t with
    | true => exact iteT ⟨ι1, ρ, h1, rh1, rs.mono x1, p2⟩
    | false => exact iteF (Post.now (a := v) p2 rh1 r1)⟩
theorem re_or (ok : XOk X G d) {a b : Expr} {rest : List Expr} {m m2 : ME} {pos : Pos} (ha : PE X a (RE G W m)) (hb : PE X (.BoolOp .Or (b :: rest) pos) (RE G W m2)) : PE X (.BoolOp .Or (a :: b :: rest) pos) (RE G W (orM m m2)) :=
  PE_imp (pe_orT ha hb) fun σ H Q ⟨ι, ρ, hh, rh, rs, p⟩ => ⟨ι, ρ, hh, rh, rs, Post.bind p fun ι1 H1 v u h1 x1 rh1 r1 p1 => by
    obtain ⟨t, q, p2⟩ := truR_inv p1
    refine ⟨t, by rw [ok.K]; exact truA_ok rh1 r1 q, ?_⟩
    cases t with
    | false => exact iteF ⟨ι1, ρ, h1, rh1, rs.mono x1, p2⟩
    | true => exact iteT (Post.now (a := v) p2 rh1 r1)⟩
theorem re_bool (ok : XOk X G d) {f : Expr → ME} {op : BoolOp} {pos : Pos} : ∀ es : List Expr, (∀ e ∈ es, PE X e (RE G W (f e))) → PE X (.BoolOp op es pos) (RE G W (boolM f op es))
  | [], _ => pe_dead
  | [e], hf => by
    unfold boolM
    by_cases c : isIf e = true
    · rw [if_pos c]; exact pe_dead
    · rw [if_neg c]; exact pe_one (hf e (List.mem_cons_self ..))
  | e :: e2 :: es, hf => by
    have he := hf e (List.mem_cons_self ..)
    have ht := re_bool ok (op := op) (pos := pos) (e2 :: es) fun x hx => hf x (List.mem_cons_of_mem _ hx)
    unfold boolM
    by_cases c : isIf e = true
    · rw [if_pos c]; exact pe_dead
    · rw [if_neg c]
      cases op with
      | And => exact re_and ok he ht
      | Or => exact re_or ok he ht
theorem rt_bool (ok : XOk X G d) {f : Expr → ME} {op : BoolOp} {pos : Pos} : ∀ es : List Expr, (∀ e ∈ es, isIf e = false → PT X e (RTt G W (tstM (f e)))) → PW X (.BoolOp op es pos) (RTt G W (tstM (boolM f op es)))
  | [], _ => ⟨fun w pins s σ H Q I ⟨_, _, _, _, _, p⟩ => p.elim⟩
  | [e], hf => by
    unfold boolM
    by_cases c : isIf e = true
    · rw [if_pos c]; exact ⟨fun w pins s σ H Q I ⟨_, _, _, _, _, p⟩ => p.elim⟩
    · rw [if_neg c]
      cases op with
      | And => exact pw_and1 (hf e (List.mem_cons_self ..) (by simpa using c))
      | Or => exact pw_or1 (hf e (List.mem_cons_self ..) (by simpa using c))
  | e :: e2 :: es, hf => by
    have ht := rt_bool ok (op := op) (pos := pos) (e2 :: es) fun x hx => hf x (List.mem_cons_of_mem _ hx)
    unfold boolM
    by_cases c : isIf e = true
    · rw [if_pos c]; exact ⟨fun w pins s σ H Q I ⟨_, _, _, _, _, p⟩ => p.elim⟩
    · rw [if_neg c]
      have he := hf e (List.mem_cons_self ..) (by simpa using c)
      cases op with
      | And =>
        refine PW_imp (pw_and he ht) fun σ H Q ⟨ι, ρ, hh, rh, rs, p⟩ => ⟨ι, ρ, hh, rh, rs, ?_⟩
        have e1 : tstM (andM (f e) (boolM f .And (e2 :: es))) ρ hh = (tstM (f e) ρ hh).bind fun t h1 => if t then tstM (boolM f .And (e2 :: es)) ρ h1 else .ok false h1 := by
          unfold tstM andM
          cases q : f e ρ hh with
          | ok v h1 =>
            show ((truR v h1).bind _).bind truR = (truR v h1).bind _
            unfold truR
            cases q2 : truA v h1 with
            | none => rfl
            | some t =>
              cases t with
              | true => rfl
              | false =>
                show truR v h1 = Res.ok false h1
                unfold truR
                rw [q2]
          | exc _ _ _ => rfl
          | stk => rfl
        have p : Post G RB W σ ι H Q (tstM (andM (f e) (boolM f .And (e2 :: es))) ρ hh) := p
        rw [e1] at p
        refine Post.bind p fun ι1 H1 t u h1 x1 rh1 r1 p1 => ?_
        have r1 : t = u := r1
        subst r1
        cases t with
        | true => exact iteT ⟨ι1, ρ, h1, rh1, rs.mono x1, p1⟩
        | false => exact iteF (Post.now (a := false) p1 rh1 rfl)
      | Or =>
        refine PW_imp (pw_or he ht) fun σ H Q ⟨ι, ρ, hh, rh, rs, p⟩ => ⟨ι, ρ, hh, rh, rs, ?_⟩
        have e1 : tstM (orM (f e) (boolM f .Or (e2 :: es))) ρ hh = (tstM (f e) ρ hh).bind fun t h1 => if t then .ok true h1 else tstM (boolM f .Or (e2 :: es)) ρ h1 := by
          unfold tstM orM
          cases q : f e ρ hh with
          | ok v h1 =>
            show ((truR v h1).bind _).bind truR = (truR v h1).bind _
            unfold truR
            cases q2 : truA v h1 with
            | none => rfl
            | some t =>
              cases t with
              | false => rfl
              | true =>
                show truR v h1 = Res.ok true h1
                unfold truR
                rw [q2]
          | exc _ _ _ => rfl
          | stk => rfl
        have p : Post G RB W σ ι H Q (tstM (orM (f e) (boolM f .Or (e2 :: es))) ρ hh) := p
        rw [e1] at p
        refine Post.bind p fun ι1 H1 t u h1 x1 rh1 r1 p1 => ?_
        have r1 : t = u := r1
        subst r1
        cases t with
        | false => exact iteF ⟨ι1, ρ, h1, rh1, rs.mono x1, p1⟩
        | true => exact iteT (Post.now (a := true) p1 rh1 rfl)
theorem rt_not (ok : XOk X G d) {a : Expr} {m : ME} {pos : Pos} (ha : PT X a (RTt G W (tstM m))) : PT X (.UnaryOp .Not a pos) (RTt G W (tstM (notM m))) :=
  PT_imp (pt_not ha) fun σ H Q ⟨ι, ρ, hh, rh, rs, p⟩ => ⟨ι, ρ, hh, rh, rs, by
    have e1 : tstM (notM m) ρ hh = (tstM m ρ hh).bind fun t h1 => .ok (!t) h1 := by
      unfold tstM notM
      cases q : m ρ hh with
      | ok v h1 =>
        show ((truR v h1).bind _).bind truR = (truR v h1).bind _
        unfold truR
        cases q2 : truA v h1 <;> rfl
      | exc _ _ _ => rfl
      | stk => rfl
    have p : Post G RB W σ ι H Q (tstM (notM m) ρ hh) := p
    rw [e1] at p
    exact Post.bind p fun ι1 H1 t u h1 x1 rh1 r1 p1 => by
      have r1 : t = u := r1
      subst r1
      exact Post.now (a := !t) p1 rh1 rfl⟩
theorem cmpO_bl {op : CmpOp} {v w x : AV} {h h' : AH} (e : cmpO op v w h = .ok x h') : ∃ b, x = .bl b ∧ h' = h := by
  cases op <;> unfold cmpO at e <;> dsimp only at e
  case Eq => unfold eqO resB at e; split at e <;> cases e; exact ⟨_, rfl, rfl⟩
  case NotEq => unfold neO resBn at e; split at e <;> cases e; exact ⟨_, rfl, rfl⟩
  case In => unfold inO resB at e; split at e <;> cases e; exact ⟨_, rfl, rfl⟩
  case NotIn => unfold notInO resBn at e; split at e <;> cases e; exact ⟨_, rfl, rfl⟩
  case Lt => unfold ltO at e; split at e <;> cases e <;> exact ⟨_, rfl, rfl⟩
  case LtE => unfold leO at e; split at e <;> cases e <;> exact ⟨_, rfl, rfl⟩
  case Gt => unfold gtO at e; split at e <;> cases e <;> exact ⟨_, rfl, rfl⟩
  case GtE => unfold geO at e; split at e <;> cases e <;> exact ⟨_, rfl, rfl⟩
  case Is => unfold isO at e; split at e <;> (try split at e) <;> cases e <;> exact ⟨_, rfl, rfl⟩
  case IsNot => unfold isNotO at e; split at e <;> (try split at e) <;> cases e <;> exact ⟨_, rfl, rfl⟩
/-- a comparison's answer, for a test -/
theorem cmp_test {op : CmpOp} {v w : AV} {h : AH} {σ : L2.St} {ι : List Addr} {H : Hp} {Q : Bool → Hp → Prop} (p : Post G RB W σ ι H Q ((cmpO op v w h).bind truR)) :
    Post G (RV G) W σ ι H (fun x H' => ∃ k, x = .bl k ∧ Q k H') (cmpO op v w h) := by
  cases e : cmpO op v w h with
  | ok x h' =>
    obtain ⟨b, rfl, rfl⟩ := cmpO_bl e
    rw [e] at p
    intro ι' H' u x rh r
    cases r
    exact ⟨b, rfl, p ι' H' b x rh rfl⟩
  | exc c fs h' =>
    rw [e] at p
    exact p
  | stk =>
    rw [e] at p
    exact p
theorem bin2_tst (a b : ME) (f : Op2) (ρ : AM.Env) (h : AH) : tstM (bin2 a b f) ρ h = (a ρ h).bind fun v h1 => (b ρ h1).bind fun w h2 => (f v w h2).bind truR := by
  unfold tstM bin2
  cases a ρ h with
  | ok v h1 =>
    show ((b ρ h1).bind _).bind truR = (b ρ h1).bind _
    cases b ρ h1 <;> rfl
  | exc _ _ _ => rfl
  | stk => rfl
theorem rt_cmp (ok : XOk X G d) {a b : Expr} {ma mb : ME} {op : CmpOp} {pos : Pos} (hm : behindInMarks op b = false) (ha : PE X a (RE G W ma)) (hb : PE X b (RE G W mb)) : PT X (.Compare a [op] [b] pos) (RTt G W (tstM (bin2 ma mb (cmpO op)))) := by
  obtain ⟨r, ho, ans⟩ := ans_cmpO ok.K ok.hu op
  refine PT_imp (pt_cmpR ho ha hb hm) fun σ H Q ⟨ι, ρ, hh, rh, rs, p⟩ => ⟨ι, ρ, hh, rh, rs, ?_⟩
  have p : Post G RB W σ ι H Q (tstM (bin2 ma mb (cmpO op)) ρ hh) := p
  rw [bin2_tst] at p
  exact Post.bind p fun ι1 H1 v u h1 x1 rh1 r1 p1 => ⟨ι1, ρ, h1, rh1, rs.mono x1, Post.bind p1 fun ι2 H2 w u2 h2 x2 rh2 r2 p2 => ans W σ ι2 H2 h2 v w u u2 _ rh2 (r1.mono x2) r2 (cmp_test p2)⟩
theorem re_chain (ok : XOk X G d) {a b c : Expr} {ma mb mc : ME} {op op' : CmpOp} {pos : Pos} (hm : lastMarks [op, op'] [b, c] = false) (ha : PE X a (RE G W ma)) (hb : PE X b (RE G W mb)) (hc : PE X c (RE G W mc)) : PE X (.Compare a [op, op'] [b, c] pos) (RE G W (chainM ma mb mc (cmpO op) (cmpO op'))) := by
  obtain ⟨r, ho, ans⟩ := ans_cmpO ok.K ok.hu op
  obtain ⟨r', ho', ans'⟩ := ans_cmpO ok.K ok.hu op'
  refine PE_imp (pe_chain ho ho' ha hb hc hm) fun σ H Q ⟨ι, ρ, hh, rh, rs, p⟩ => ⟨ι, ρ, hh, rh, rs, ?_⟩
  refine Post.bind p fun ι1 H1 v u h1 x1 rh1 r1 p1 => ⟨ι1, ρ, h1, rh1, rs.mono x1, Post.bind p1 fun ι2 H2 w u2 h2 x2 rh2 r2 p2 => ?_⟩
  refine ans W σ ι2 H2 h2 v w u u2 _ rh2 (r1.mono x2) r2 (Post.bind p2 fun ι3 H3 t z h3 x3 rh3 r3 p3 => ?_)
  split at p3
  · cases r3
    exact ⟨true, rfl, iteT ⟨ι3, ρ, h3, rh3, (rs.mono x1).mono (x2.trans x3), Post.bind p3 fun ι4 H4 z u4 h4 x4 rh4 r4 p5 => ans' W σ ι4 H4 h4 w z u2 u4 Q rh4 (r2.mono (x3.trans x4)) r4 p5⟩⟩
  · cases r3
    exact ⟨false, rfl, iteF (Post.now (a := AV.bl false) p3 rh3 (.bl false))⟩
  · exact p3.elim
theorem rt_chain (ok : XOk X G d) {a b c : Expr} {ma mb mc : ME} {op op' : CmpOp} {pos : Pos} (hm : lastMarks [op, op'] [b, c] = false) (ha : PE X a (RE G W ma)) (hb : PE X b (RE G W mb)) (hc : PE X c (RE G W mc)) : PT X (.Compare a [op, op'] [b, c] pos) (RTt G W (tstM (chainM ma mb mc (cmpO op) (cmpO op')))) := by
  obtain ⟨r, ho, ans⟩ := ans_cmpO ok.K ok.hu op
  obtain ⟨r', ho', ans'⟩ := ans_cmpO ok.K ok.hu op'
  refine PT_imp (pt_chain ho ho' ha hb hc hm) fun σ H Q ⟨ι, ρ, hh, rh, rs, p⟩ => ?_
  have e1 : tstM (chainM ma mb mc (cmpO op) (cmpO op')) ρ hh = (ma ρ hh).bind fun v h1 => (mb ρ h1).bind fun w h2 => (cmpO op v w h2).bind fun t h3 => (match t with | .bl true => (mc ρ h3).bind fun z h4 => (cmpO op' w z h4).bind truR | .bl false => .ok false h3 | _ => .stk) := by
    unfold tstM chainM
    cases ma ρ hh with
    | ok v h1 =>
      show ((mb ρ h1).bind _).bind truR = (mb ρ h1).bind _
      cases mb ρ h1 with
      | ok w h2 =>
        show ((cmpO op v w h2).bind _).bind truR = (cmpO op v w h2).bind _
        cases q : cmpO op v w h2 with
        | ok t h3 =>
          obtain ⟨b, rfl, _⟩ := cmpO_bl q
          cases b with
          | true =>
            show ((mc ρ h3).bind fun z h4 => cmpO op' w z h4).bind truR = (mc ρ h3).bind fun z h4 => (cmpO op' w z h4).bind truR
            cases mc ρ h3 <;> rfl
          | false => rfl
        | exc _ _ _ => rfl
        | stk => rfl
      | exc _ _ _ => rfl
      | stk => rfl
    | exc _ _ _ => rfl
    | stk => rfl
  have p : Post G RB W σ ι H Q (tstM (chainM ma mb mc (cmpO op) (cmpO op')) ρ hh) := p
  rw [e1] at p
  refine ⟨ι, ρ, hh, rh, rs, Post.bind p fun ι1 H1 v u h1 x1 rh1 r1 p1 => ⟨ι1, ρ, h1, rh1, rs.mono x1, Post.bind p1 fun ι2 H2 w u2 h2 x2 rh2 r2 p2 => ?_⟩⟩
  refine ans W σ ι2 H2 h2 v w u u2 _ rh2 (r1.mono x2) r2 (Post.bind p2 fun ι3 H3 t z h3 x3 rh3 r3 p3 => ?_)
  split at p3
  · cases r3
    refine ⟨true, rfl, iteT ⟨ι3, ρ, h3, rh3, (rs.mono x1).mono (x2.trans x3), Post.bind p3 fun ι4 H4 z u4 h4 x4 rh4 r4 p5 => ans' W σ ι4 H4 h4 w z u2 u4 _ rh4 (r2.mono (x3.trans x4)) r4 (cmp_test p5)⟩⟩
  · cases r3
    exact ⟨false, rfl, iteF ⟨false, rfl, Post.now (a := false) p3 rh3 rfl⟩⟩
  · exact p3.elim
theorem re_ite {c a b : Expr} {mc : AM.Env → AH → Res Bool} {ma mb : ME} {pos : Pos} (hc : PT X c (RTt G W mc)) (ha : PE X a (RE G W ma)) (hb : PE X b (RE G W mb)) : PE X (.IfExp c a b pos) (RE G W (iteM mc ma mb)) :=
  PE_imp (pe_ifExp hc ha hb) fun σ H Q ⟨ι, ρ, hh, rh, rs, p⟩ => ⟨ι, ρ, hh, rh, rs, Post.bind p fun ι1 H1 t u h1 x1 rh1 r1 p1 => by
    have r1 : t = u := r1
    subst r1
    cases t with
    | true => exact iteT ⟨ι1, ρ, h1, rh1, rs.mono x1, p1⟩
    | false => exact iteF ⟨ι1, ρ, h1, rh1, rs.mono x1, p1⟩⟩
theorem re_tup {es : List Expr} {k : Nat} {m : MEs} {pos : Pos} (ha : PA X es (RA G W m)) : PE X (.Tuple es k pos) (RE G W (tupM m)) :=
  PE_imp (pe_tup ha) fun σ H Q ⟨ι, ρ, hh, rh, rs, p⟩ => ⟨ι, ρ, hh, rh, rs, Post.bind p fun ι1 H1 vs us h1 x1 rh1 r1 p1 => by
    obtain ⟨c, p2⟩ := ifP (α := AV) p1
    exact ⟨by rw [← r1.length]; exact lenOk_le c, fun pp np => p2.at (Ext.fresh np) (rh1.fresh np) (.tup (RT.new rh1 np) (r1.mono (Ext.fresh np)))⟩⟩
theorem re_lst {es : List Expr} {m : MEs} {pos : Pos} (ha : PA X es (RA G W m)) : PE X (.List es pos) (RE G W (lstM m)) :=
  PE_imp (pe_lst ha) fun σ H Q ⟨ι, ρ, hh, rh, rs, p⟩ => ⟨ι, ρ, hh, rh, rs, Post.bind p fun ι1 H1 vs us h1 x1 rh1 r1 p1 => by
    obtain ⟨c, p2⟩ := ifP (α := AV) p1
    exact ⟨by rw [← r1.length]; exact lenOk_le c, fun pp np => p2.at (Ext.fresh np) (rh1.fresh np) (.lst (RL.new rh1 np) (r1.mono (Ext.fresh np)))⟩⟩
theorem re_new {es : List Expr} {m : MEs} {pos : Pos} (ha : PA X es (RA G W m)) : PE X (.List es pos) (RE G W (newM m)) :=
  PE_imp (pe_lst ha) fun σ H Q ⟨ι, ρ, hh, rh, rs, p⟩ => ⟨ι, ρ, hh, rh, rs, Post.bind p fun ι1 H1 vs us h1 x1 rh1 r1 p1 => by
    obtain ⟨c, p2⟩ := ifP (α := AV) p1
    refine ⟨by rw [← r1.length]; exact lenOk_le c, fun pp np => p2.at (Ext.alloc rh1 np) (rh1.alloc np ⟨us, rfl, r1⟩) (.ref ?_)⟩
    rw [← rh1.len]
    simp⟩
theorem re_idx (ok : XOk X G d) {a b : Expr} {ma mb : ME} {pos : Pos} (hs : isSl b = false) (ha : PE X a (RE G W ma)) (hb : PE X b (RE G W mb)) : PE X (.Subscript a b pos) (RE G W (bin2 ma mb idxO)) :=
  PE_imp (pe_ix (ok.K ▸ ix_seq : IxR X (rIx G.K)) ha hb (fun o i => by cases b <;> first | rfl | cases hs)) (RE.two (fun _ _ _ z => z) ans_idx)
def rPart : List Addr → Hp → Option Int → Option Int → Prop := fun _ _ a b => a = b
theorem po_part {f : Expr → ME} : ∀ o : Option Expr, (∀ e, o = some e → PE X e (RE G W (f e))) → PO X o (fun σ H Q => ∃ ι ρ h, RH G ι H h ∧ RS G ι H ρ σ ∧ Post G rPart W σ ι H Q (partM f o ρ h))
  | none, _ => ⟨fun pins s σ H Q I ⟨ι, ρ, h, rh, rs, p⟩ => po_none.run pins s σ H Q I (Post.now (a := (none : Option Int)) p rh rfl)⟩
  | some e, hf => ⟨fun pins s σ H Q I ⟨ι, ρ, h, rh, rs, p⟩ => (po_some (hf e rfl)).run pins s σ H Q I ⟨ι, ρ, h, rh, rs, Post.bind p fun ι1 H1 v u h1 x1 rh1 r1 p1 => by
      split at p1
      · rename_i i
        rw [inv_int r1]
        exact ⟨i, rfl, Post.now (a := some i) p1 rh1 rfl⟩
      · exact p1.elim⟩⟩
theorem re_slice (ok : XOk X G d) {f : Expr → ME} {a : Expr} {lo hi : Option Expr} {ma : ME} {pos p2 : Pos} (ha : PE X a (RE G W ma)) (hl : ∀ e, lo = some e → PE X e (RE G W (f e))) (hh : ∀ e, hi = some e → PE X e (RE G W (f e))) :
    PE X (.Subscript a (.Slice lo hi none p2) pos) (RE G W (sliceM ma (partM f lo) (partM f hi))) := by
  have sl : SlR X (rSlAny G.K) := (ok.K ▸ sl_tupA : SlR X (rSlA G.K)).or ((ok.K ▸ sl_list : SlR X (rSlL G.K)).or sl_str)
  refine PE_imp (pe_slice sl ha (po_part lo hl) (po_part hi hh)) fun σ H Q ⟨ι, ρ, h, rh, rs, p⟩ => ⟨ι, ρ, h, rh, rs, Post.bind p fun ι1 H1 v u h1 x1 rh1 r1 p1 => ⟨ι1, ρ, h1, rh1, rs.mono x1, Post.bind p1 fun ι2 H2 l l' h2 x2 rh2 r2 p3 => ?_⟩⟩
  have r2 : l = l' := r2
  subst r2
  refine ⟨ι2, ρ, h2, rh2, (rs.mono x1).mono x2, Post.bind p3 fun ι3 H3 k k' h3 x3 rh3 r3 p4 => ?_⟩
  have r3 : k = k' := r3
  subst r3
  exact ans_slice rh3 (r1.mono (x2.trans x3)) p4
end
end AM
/-! AMg: calls, targets, walks, comprehensions: the meaning of all expressions. -/
namespace AM
open PySem PySem.Spec PyProof.Rows L2

section
variable {X : Cx} {G : Gh} {d : DC} {W : WX} {F : Str → OpN}
theorem ra_args {f : Expr → ME} {es : List Expr} (hf : ∀ e ∈ es, PE X e (RE G W (f e))) : PA X es (RA G W (argsM f es)) := by
  unfold argsM
  by_cases c : plainAll es = true
  · rw [if_pos c]; exact ra_evs es hf
  · rw [if_neg c]; exact pa_dead
/-! ### built-ins by their names -/
def bifNm : Bif → Str
  | .len => "len" | .all => "all" | .any => "any" | .sum => "sum" | .abs => "abs" | .max => "max" | .min => "min" | .divmod => "divmod" | .isinstance => "isinstance"
  | .str => "str" | .int => "int" | .tuple => "tuple" | .list => "list"
theorem bifOf_ok {x : Str} {b : Bif} (e : bifOf x = some b) : x = bifNm b := by
  unfold bifOf at e
  by_cases c0 : x = "len"
  · rw [if_pos c0] at e; cases e; exact c0
  rw [if_neg c0] at e
  by_cases c1 : x = "all"
  · rw [if_pos c1] at e; cases e; exact c1
  rw [if_neg c1] at e
  by_cases c2 : x = "any"
  · rw [if_pos c2] at e; cases e; exact c2
  rw [if_neg c2] at e
  by_cases c3 : x = "sum"
  · rw [if_pos c3] at e; cases e; exact c3
  rw [if_neg c3] at e
  by_cases c4 : x = "abs"
  · rw [if_pos c4] at e; cases e; exact c4
  rw [if_neg c4] at e
  by_cases c5 : x = "max"
  · rw [if_pos c5] at e; cases e; exact c5
  rw [if_neg c5] at e
  by_cases c6 : x = "min"
  · rw [if_pos c6] at e; cases e; exact c6
  rw [if_neg c6] at e
  by_cases c7 : x = "divmod"
  · rw [if_pos c7] at e; cases e; exact c7
  rw [if_neg c7] at e
  by_cases c8 : x = "isinstance"
  · rw [if_pos c8] at e; cases e; exact c8
  rw [if_neg c8] at e
  by_cases c9 : x = "str"
  · rw [if_pos c9] at e; cases e; exact c9
  rw [if_neg c9] at e
  by_cases c10 : x = "int"
  · rw [if_pos c10] at e; cases e; exact c10
  rw [if_neg c10] at e
  by_cases c11 : x = "tuple"
  · rw [if_pos c11] at e; cases e; exact c11
  rw [if_neg c11] at e
  by_cases c12 : x = "list"
  · rw [if_pos c12] at e; cases e; exact c12
  rw [if_neg c12] at e
  cases e
theorem bif_rule (ok : XOk X G d) (b : Bif) : (∃ id r, bootBuiltins (bifNm b) = some (.builtin id) ∧ CallR X (.builtin id) r ∧ CallAns G (bifF b) r) ∨ ∃ T r, bootBuiltins (bifNm b) = some (.type T) ∧ CallR X (.type T) r ∧ CallAns G (bifF b) r := by
  cases b with
  | len => exact .inl ⟨_, _, PySem.boot_len, ok.K ▸ call_len, ans_len⟩
  | all => exact .inl ⟨_, _, by decide +kernel, ok.K ▸ cr_all ok.calm, ans_all⟩
  | any => exact .inl ⟨_, _, by decide +kernel, ok.K ▸ cr_any ok.calm, ans_any⟩
  | sum => exact .inl ⟨_, _, by decide +kernel, ok.K ▸ cr_sum ok.calm, ans_sum⟩
  | abs => exact .inl ⟨_, _, by decide +kernel, call_abs, ans_abs⟩
  | max => exact .inl ⟨_, _, by decide +kernel, call_max2 ok.calm, ans_max⟩
  | min => exact .inl ⟨_, _, by decide +kernel, call_min2 ok.calm, ans_min⟩
  | divmod => exact .inl ⟨_, _, by decide +kernel, call_divmodW, ans_divmod⟩
  | isinstance => exact .inl ⟨_, _, by decide +kernel, ok.K ▸ call_isi, ans_isi⟩
  | str => exact .inr ⟨_, _, by decide +kernel, call_str_int, ans_str⟩
  | int => exact .inr ⟨_, _, by decide +kernel, call_int1, ans_int1⟩
  | tuple => exact .inr ⟨_, _, by decide +kernel, ok.K ▸ call_tuple_of, ans_tuple⟩
  | list => exact .inr ⟨_, _, by decide +kernel, ok.K ▸ call_list_of, ans_list⟩
theorem re_bif (ok : XOk X G d) {f : Expr → ME} {x : Str} {b : Bif} {p pos : Pos} {e : Expr} {es : List Expr} (hd : ¬ dun x = true) (hg : glB d.sc x = true) (hfr : d.free x = true) (hb : bifOf x = some b)
    (hf : ∀ a ∈ e :: es, PE X a (RE G W (f a))) : PE X (.Call (.Name x p) (e :: es) [] pos) (RE G W (callM (bifF b) (argsM f (e :: es)))) := by
  obtain ⟨n1, n2, n3⟩ := dun_no hd
  have hx := bifOf_ok hb
  unfold argsM
  by_cases c : plainAll (e :: es) = true
  · rw [if_pos c]
    have pl := plainAll_ok c
    have he := starEach_plain (es := es) (env := X.env) (pl e (List.mem_cons_self ..))
    have hpl : (backTo pos (starEach es X.env)).any (·.1) = false := backTo_any fun y hy => pl y (List.mem_cons_of_mem _ hy)
    have ha := ra_evs (e :: es) hf
    rcases bif_rule ok b with ⟨id, r, hv, hc, ans⟩ | ⟨T, r, hv, hc, ans⟩
    · exact PE_imp (pe_callB hc (ok.gl x hg) (ok.free x hfr) (by rw [hx]; exact hv) ha n3 n1 he hpl) fun σ H Q ⟨ι, ρ, h, rh, rs, p⟩ => ⟨ι, ρ, h, rh, rs, Post.bind p fun ι1 H1 vs us h1 x1 rh1 r1 p1 => ans W σ ι1 H1 h1 vs us Q rh1 r1 p1⟩
    · exact PE_imp (pe_callTy hc (ok.gl x hg) (ok.free x hfr) (by rw [hx]; exact hv) ha n3 n1 he hpl) fun σ H Q ⟨ι, ρ, h, rh, rs, p⟩ => ⟨ι, ρ, h, rh, rs, Post.bind p fun ι1 H1 vs us h1 x1 rh1 r1 p1 => ans W σ ι1 H1 h1 vs us Q rh1 r1 p1⟩
  · rw [if_neg c]
    exact PE_stk fun _ _ => rfl
/-! ### the module's own defs -/
theorem pe_callSD0 {CX : CXT} {k : Nat} {f : Addr} {fd : FuncData} {ps : List Str} {sp : Sp} {dvs : List V} {ds : List Value} {E : L2.St → XK} {x : Str} {p pos : Pos}
    (F : FnOk X.prog X.w X.K X.mg X.base CX k f fd ps sp) (hr : Room k X.A) (hg : Gl X x) (hm : X.mg x = some (.ref f)) (hk : PySem.W.keepIn X.K (.ref f) = true) (hb : Binds X.K fd ps ds) (hd : Vals dvs ds) (hx : ∀ σ, PassesAt CX X σ (E σ))
    (hdb : (x == ("__debug__" : Str)) = false) : PE X (.Call (.Name x p) [] [] pos) (tCallSD sp dvs E tNil) := by
  refine ⟨fun pins s σ H Q I h => ?_⟩
  refine wpAny_Call_Name_kw (ld_glob I hg hm ?_ hdb)
  exact PySem.W.callWith_K0 I.kIn hk (run_fnSD (us := []) F hr hb hd (hx σ) I .nil h)
theorem spA_of {n : Nat} {f : OpN} {σ : L2.St} {ι : List Addr} {H : Hp} {h : AH} {avs : List AV} {vs : List V} {Q : VK} (rh : RH G ι H h) (r : RVs G ι H avs vs) (hn : avs.length = n) (p : Post G (RV G) W σ ι H Q (f avs h)) : spA G n f vs H Q (WE W σ) :=
  ⟨G.hid, ι, h, avs, rh, r, hn, p.slots fun _ _ _ z => z⟩
theorem spA_len {n : Nat} {f : OpN} {vs : List V} {H : Hp} {Q : VK} {E : XK} (h : spA G n f vs H Q E) : vs.length = n := by
  obtain ⟨l, ι, h, avs, _, r, e, _⟩ := h
  rw [← r.length]
  exact e
theorem evs_len {f : Expr → ME} {ρ : AM.Env} : ∀ {es : List Expr} {h h' : AH} {vs : List AV}, evsM f es ρ h = .ok vs h' → vs.length = es.length
  | [], h, h', vs, e => by
    have e : Res.ok [] h = Res.ok vs h' := e
    cases e
    rfl
  | a :: es, h, h', vs, e => by
    unfold evsM at e
    by_cases c : isStar a = true
    · rw [if_pos c] at e
      cases e
    · rw [if_neg c] at e
      have e : ((f a ρ h).bind fun v h1 => (evsM f es ρ h1).bind fun vs h2 => .ok (v :: vs) h2) = .ok vs h' := e
      cases q : f a ρ h with
      | ok v h1 =>
        rw [q] at e
        have e : ((evsM f es ρ h1).bind fun vs h2 => Res.ok (v :: vs) h2) = .ok vs h' := e
        cases q2 : evsM f es ρ h1 with
        | ok ws h2 =>
          rw [q2] at e
          have e : Res.ok (v :: ws) h2 = .ok vs h' := e
          cases e
          rw [List.length_cons, List.length_cons, evs_len q2]
        | exc _ _ _ => rw [q2] at e; cases e
        | stk => rw [q2] at e; cases e
      | exc _ _ _ => rw [q] at e; cases e
      | stk => rw [q] at e; cases e
theorem re_own (ok : XOk X G d) (fo : FOk X G d F) (tk : Takes X W) {f : Expr → ME} {x : Str} {ps : List Str} {p pos : Pos} {args : List Expr} (hd : ¬ dun x = true) (hg : glB d.sc x = true) (hfn : d.fn x = some ps)
    (hl : args.length = ps.length) (hf : ∀ a ∈ args, PE X a (RE G W (f a))) : PE X (.Call (.Name x p) args [] pos) (RE G W (callM (F x) (argsM f args))) := by
  obtain ⟨n1, n2, n3⟩ := dun_no hd
  obtain ⟨fa, fd, k, hm, hk, FF, hr, hb⟩ := fo.pos x ps hfn
  unfold argsM
  by_cases c : plainAll args = true
  · rw [if_pos c]
    have pl := plainAll_ok c
    have ha := ra_evs args hf
    cases args with
    | nil =>
      refine PE_imp (pe_callSD0 FF hr (ok.gl x hg) hm hk hb .nil (fun σ => passAt tk σ) n1) fun σ H Q ⟨ι, ρ, h, rh, rs, p⟩ => ?_
      exact spA_of rh .nil hl p
    | cons e es =>
      have he := starEach_plain (es := es) (env := X.env) (pl e (List.mem_cons_self ..))
      have hpl : (backTo pos (starEach es X.env)).any (·.1) = false := backTo_any fun y hy => pl y (List.mem_cons_of_mem _ hy)
      refine PE_imp (pe_callSD FF hr (ok.gl x hg) hm hk hb .nil (fun σ => passAt tk σ) ha n1 he hpl) fun σ H Q ⟨ι, ρ, h, rh, rs, p⟩ => ⟨ι, ρ, h, rh, rs, Post.bindE p fun ι1 H1 vs us h1 e1 x1 rh1 r1 p1 => ?_⟩
      rw [List.append_nil]
      exact spA_of rh1 r1 ((evs_len e1).trans hl) p1
  · rw [if_neg c]
    exact PE_stk fun _ _ => rfl

theorem re_own' (ok : XOk X G d) (fo : FOk X G d F) (tk : Takes X W) {f : Expr → ME} {x : Str} {ps : List Str} {p pos : Pos} {args : List Expr} (hd : ¬ dun x = true) (hg : glB d.sc x = true) (hfn : d.fn x = some ps)
    (hf : ∀ a ∈ args, PE X a (RE G W (f a))) : PE X (.Call (.Name x p) args [] pos) (RE G W (if Nat.beq args.length ps.length then callM (F x) (argsM f args) else fun _ _ => .stk)) := by
  by_cases c : Nat.beq args.length ps.length = true
  · rw [if_pos c]
    exact re_own ok fo tk hd hg hfn (Nat.eq_of_beq_eq_true c) hf
  · rw [if_neg c]
    exact pe_dead
/-! ### keywords -/
def RK (G : Gh) (W : WX) (m : MEs) : TA := RA G W m
theorem rk_kws {f : Expr → ME} : ∀ kws : List Keyword, (∀ k ∈ kws, PE X k.value (RE G W (f k.value))) → PK X kws (RA G W (kwsM f kws))
  | [], _ => ⟨fun pos pins s σ H Q I ⟨ι, ρ, h, rh, rs, p⟩ => pk_nil.run pos pins s σ H Q I (Post.now (a := []) p rh .nil)⟩
  | k :: ks, hf => by
    have he := hf k (List.mem_cons_self ..)
    have ht := rk_kws ks fun x hx => hf x (List.mem_cons_of_mem _ hx)
    obtain ⟨nm, e, kp⟩ := k
    exact ⟨fun pos pins s σ H Q I ⟨ι, ρ, h, rh, rs, p⟩ => (pk_cons (nm := nm) (kpos := kp) he ht).run pos pins s σ H Q I ⟨ι, ρ, h, rh, rs, Post.bind p fun ι1 H1 v u h1 x1 rh1 r1 p1 => ⟨ι1, ρ, h1, rh1, rs.mono x1, Post.bind p1 fun ι2 H2 vs us h2 x2 rh2 r2 p2 =>
      Post.now (a := v :: vs) p2 rh2 (.cons (r1.mono x2) r2)⟩⟩⟩
theorem kws_len {f : Expr → ME} {ρ : AM.Env} : ∀ {es : List Keyword} {h h' : AH} {vs : List AV}, kwsM f es ρ h = .ok vs h' → vs.length = es.length
  | [], h, h', vs, e => by
    have e : Res.ok [] h = Res.ok vs h' := e
    cases e
    rfl
  | a :: es, h, h', vs, e => by
    have e : ((f a.value ρ h).bind fun v h1 => (kwsM f es ρ h1).bind fun vs h2 => .ok (v :: vs) h2) = .ok vs h' := e
    cases q : f a.value ρ h with
    | ok v h1 =>
      rw [q] at e
      have e : ((kwsM f es ρ h1).bind fun vs h2 => Res.ok (v :: vs) h2) = .ok vs h' := e
      cases q2 : kwsM f es ρ h1 with
      | ok ws h2 =>
        rw [q2] at e
        have e : Res.ok (v :: ws) h2 = .ok vs h' := e
        cases e
        rw [List.length_cons, List.length_cons, kws_len q2]
      | exc _ _ _ => rw [q2] at e; cases e
      | stk => rw [q2] at e; cases e
    | exc _ _ _ => rw [q] at e; cases e
    | stk => rw [q] at e; cases e
theorem kwE_all {env : PySem.Env} {pos : Pos} : ∀ {kws : List Keyword}, kws.all (·.arg.isSome) = true → (backToKw pos (keywordEach kws env)).all (·.1.isSome) = true ∧ (backToKw pos (keywordEach kws env)).any (·.1.isNone) = false ∧ (backToKw pos (keywordEach kws env)).filterMap (·.1) = kwNames kws
  | [], _ => ⟨rfl, rfl, rfl⟩
  | k :: ks, h => by
    rw [List.all_cons, Bool.and_eq_true] at h
    obtain ⟨h1, h2, h3⟩ := kwE_all (env := env) (pos := pos) h.2
    obtain ⟨nm, e, kp⟩ := k
    cases nm with
    | none => exact absurd h.1 (by simp)
    | some n =>
      refine ⟨?_, ?_, ?_⟩
      · show ((true && _) : Bool) = true
        rw [Bool.true_and]
        exact h1
      · show ((false || _) : Bool) = false
        rw [Bool.false_or]
        exact h2
      · have h4 : n :: (backToKw pos (keywordEach ks env)).filterMap (·.1) = n :: kwNames ks := by rw [h3]
        exact h4
theorem pick_len {α : Type} {l : List α} : ∀ {ord : List Nat}, (∀ i ∈ ord, i < l.length) → (pick ord l).length = ord.length
  | [], _ => rfl
  | i :: ord, h => by
    have ih := pick_len (l := l) fun j hj => h j (List.mem_cons_of_mem i hj)
    have hi := h i (List.mem_cons_self ..)
    unfold pick at ih ⊢
    rw [List.filterMap_cons, List.getElem?_eq_getElem hi]
    simp [ih]
theorem run_kw {k n : Nat} {f : Addr} {fd : FuncData} {ps ks : List Str} {sp : Sp} {E : XK} {ord : List Nat} {pins : List (Addr × Obj)} {σ : L2.St} {H : Hp} {s : Shared} {Q : VK} {us ws : List Value} {vs zs : List V}
    (FF : FnOk X.prog X.w X.K X.mg X.base (L2.CX X.prog X.w) k f fd ps sp) (hr : Room k X.A) (hb : ∀ (s : Shared) (us ws : List Value), X.K.In s.heap → us.length = n → ws.length = ks.length → (pick ord (us ++ ws)).length = ps.length → BindsTo s fd ⟨us, ks.zip ws⟩ (ps.zip (pick ord (us ++ ws))))
    (hx : PassesAt (L2.CX X.prog X.w) X σ E) (I : Inv X pins σ H s) (r : Vals vs us) (rz : Vals zs ws) (l1 : vs.length = n) (l2 : zs.length = ks.length) (h : sp (pick ord (vs ++ zs)) H Q E) : wpAny (model X.prog X.w) X.A (call (.ref f) us (ks.zip ws)) (EP X pins σ Q) X.xe s := by
  have r2 := pick_vals (r.append rz) ord
  have hl : (pick ord (us ++ ws)).length = ps.length := by rw [← r2.length]; exact FF.len _ _ _ _ h
  refine wpAny_call (codeAny_mono (FF.run X.A X.stack s H ⟨us, ks.zip ws⟩ (pick ord (us ++ ws)) (pick ord (vs ++ zs)) Q E hr I.env0 (hb s us ws I.kIn (r.length.symm.trans l1) (rz.length.symm.trans l2) hl) r2 h) fun r s' hq => ?_)
  cases r with
  | error e => exact hx pins H s e s' I hq
  | ok fl =>
    cases fl with
    | ret u => exact I.after hq
    | next => exact False.elim hq
    | brk => exact False.elim hq
    | cont => exact False.elim hq
theorem re_kw (ok : XOk X G d) (fo : FOk X G d F) (tk : Takes X W) {f : Expr → ME} {x : Str} {ord : List Nat} {p pos : Pos} {args : List Expr} {kws : List Keyword} (hd : ¬ dun x = true) (hg : glB d.sc x = true) (hall : kws.all (·.arg.isSome) = true)
    (hkw : d.kw x args.length (kwNames kws) = some ord) (hf : ∀ a ∈ args, PE X a (RE G W (f a))) (hfk : ∀ k ∈ kws, PE X k.value (RE G W (f k.value))) :
    PE X (.Call (.Name x p) args kws pos) (RE G W (callKM (F x) ord (argsM f args) (kwsM f kws))) := by
  obtain ⟨n1, n2, n3⟩ := dun_no hd
  obtain ⟨fa, fd, k, ps, hm, hk, FF, hr, ho1, ho2, hb⟩ := fo.kw x _ _ ord hkw
  obtain ⟨k1, k2, k3⟩ := kwE_all (env := X.env) (pos := pos) hall
  have lk : (kwNames kws).length = kws.length := by
    unfold kwNames
    clear hkw k1 k2 k3 hfk hb ho1
    induction kws with
    | nil => rfl
    | cons a r ih =>
      rw [List.all_cons, Bool.and_eq_true] at hall
      obtain ⟨nm, e, kp⟩ := a
      cases nm with
      | none => exact absurd hall.1 (by simp)
      | some n => rw [List.filterMap_cons]; simp [ih hall.2]
  have pk := rk_kws (X := X) (G := G) (W := W) kws hfk
  unfold argsM
  by_cases c : plainAll args = true
  · rw [if_pos c]
    have pl := plainAll_ok c
    have ha := ra_evs args hf
    refine ⟨fun pins s σ H Q I ⟨ι, ρ, h, rh, rs, p0⟩ => wpAny_Call_Name_kw (ld_glob I (ok.gl x hg) hm ?_ n1)⟩
    cases args with
    | nil =>
      refine PySem.W.callWith_KW0 (h₀ := X.base) I.ok.mod.kin hk k1 ?_ (by rw [k2]; rfl)
      have q0 : Post G (RVs G) W σ ι H (fun zs H2 => zs.length = (kwNames kws).length ∧ spA G ps.length (F x) (pick ord ([] ++ zs)) H2 Q (WE W σ)) (kwsM f kws ρ h) := by
        refine Post.bindE (show Post G (RV G) W σ ι H Q ((kwsM f kws ρ h).bind fun zs h2 => F x (pick ord ([] ++ zs)) h2) from p0) fun ι2 H2 zs us2 h2 e2 x2 rh2 r2 p2 => ?_
        refine ⟨by rw [← r2.length, kws_len e2, lk], ?_⟩
        have rr := pick_rel (RVs.append (.nil : RVs G ι2 H2 [] []) r2) ord
        have hn : (pick ord ([] ++ zs)).length = ps.length := by
          rw [pick_len, ho2]
          intro i hi
          have := ho1 i hi
          have := kws_len e2
          simp at *
          omega
        exact spA_of rh2 rr hn p2
      refine thn (pk.run pos pins s σ H _ I ⟨ι, ρ, h, rh, rs, q0⟩) fun ws s2 ⟨zs, H2, I2, rz, l2, q2⟩ => ⟨I2.kIn, ?_⟩
      rw [k3]
      exact run_kw FF hr hb (passAt tk σ) I2 .nil rz rfl l2 q2
    | cons e es =>
      have he := starEach_plain (es := es) (env := X.env) (pl e (List.mem_cons_self ..))
      have hpl : (backTo pos (starEach (e :: es) X.env)).any (·.1) = false := backTo_any pl
      refine PySem.W.callWith_KW (h₀ := X.base) I.ok.mod.kin hk k1 ?_ (by rw [hpl, k2]; rfl) he
      have q0 : Post G (RVs G) W σ ι H (fun vs H1 => vs.length = (e :: es).length ∧ RA G W (kwsM f kws) σ H1 fun zs H2 => zs.length = (kwNames kws).length ∧ spA G ps.length (F x) (pick ord (vs ++ zs)) H2 Q (WE W σ)) (evsM f (e :: es) ρ h) := by
        refine Post.bindE (show Post G (RV G) W σ ι H Q ((evsM f (e :: es) ρ h).bind fun vs h1 => (kwsM f kws ρ h1).bind fun zs h2 => F x (pick ord (vs ++ zs)) h2) from p0) fun ι1 H1 vs us h1 e1 x1 rh1 r1 p1 => ?_
        refine ⟨by rw [← r1.length, evs_len e1], ι1, ρ, h1, rh1, rs.mono x1, Post.bindE p1 fun ι2 H2 zs us2 h2 e2 x2 rh2 r2 p2 => ?_⟩
        refine ⟨by rw [← r2.length, kws_len e2, lk], ?_⟩
        have rr := pick_rel (RVs.append (r1.mono x2) r2) ord
        have hn : (pick ord (vs ++ zs)).length = ps.length := by
          rw [pick_len, ho2]
          intro i hi
          have h3 := ho1 i hi
          have h4 := kws_len e2
          have h5 := evs_len e1
          rw [List.length_append, h4, h5, ← lk]
          exact h3
        exact spA_of rh2 rr hn p2
      refine thn (ha.run pos pins s σ H _ I ⟨ι, ρ, h, rh, rs, q0⟩) fun us s1 ⟨vs, H1, I1, r, l1, q⟩ => ?_
      refine thn (pk.run pos pins s1 σ H1 _ I1 q) fun ws s2 ⟨zs, H2, I2, rz, l2, q2⟩ => ⟨I2.kIn, ?_⟩
      rw [k3]
      exact run_kw FF hr hb (passAt tk σ) I2 r rz l1 l2 q2
  · rw [if_neg c]
    exact PE_stk fun _ _ => rfl
end
end AM
/-! AMh1: methods of texts -/
namespace AM
open PySem PySem.Spec PyProof.Rows L2

section
variable {X : Cx} {G : Gh} {d : DC} {W : WX}
theorem base_plain {o : Expr} {m : Str} {env : PySem.Env} {w : Sem Value} (h : plainO o = true) : attributeBase o m env w = w := by
  cases o with
  | Call f args kws pos =>
    cases args with
    | nil =>
      cases kws with
      | nil => cases h
      | cons k ks => cases f <;> rfl
    | cons a as => cases f <;> rfl
  | _ => rfl
def MtAns (G : Gh) (f : AV → OpN) (r : V → List V → Hp → VK → Prop) : Prop := ∀ (W : WX) (σ : L2.St) (ι : List Addr) (H : Hp) (h : AH) (z : Str) (vs : List AV) (us : List V) (Q : VK), RH G ι H h → RVs G ι H vs us → Post G (RV G) W σ ι H Q (f (.str z) vs h) → r (.str z) us H Q
theorem re_smt0 {o : Expr} {mo : ME} {f : AV → OpN} {id : String} {name : Str} {apos pos : Pos} {r : V → List V → Hp → VK → Prop} (slot : Slot "str" name id) (ty : typeOf (.builtin id) = pure (.type "method_descriptor")) (rule : MtR X id r) (ans : MtAns G f r)
    (hp : plainO o = true) (hl : (apos.endLine == pos.line) = true) (ho : PE X o (RE G W mo)) : PE X (.Call (.Attribute o name apos) [] [] pos) (RE G W (smt0 f mo)) :=
  PE_imp (pe_m0 slot ty rule ho (base_plain hp) hl) fun σ H Q ⟨ι, ρ, h, rh, rs, p⟩ => ⟨ι, ρ, h, rh, rs, Post.bind p fun ι1 H1 v u h1 x1 rh1 r1 p1 => by
    split at p1
    · rw [inv_str r1]
      exact ⟨⟨_, rfl⟩, ans W σ ι1 H1 h1 _ [] [] Q rh1 .nil p1⟩
    · exact p1.elim⟩
theorem re_smt1 {o e : Expr} {mo me : ME} {f : AV → OpN} {id : String} {name : Str} {apos pos : Pos} {r : V → List V → Hp → VK → Prop} (slot : Slot "str" name id) (ty : typeOf (.builtin id) = pure (.type "method_descriptor")) (rule : MtR X id r) (ans : MtAns G f r)
    (hp : plainO o = true) (hs : isStar e = false) (hl : (apos.endLine == pos.line) = true) (ho : PE X o (RE G W mo)) (he : PE X e (RE G W me)) : PE X (.Call (.Attribute o name apos) [e] [] pos) (RE G W (smt1 f mo me)) :=
  PE_imp (pe_m1 slot ty rule ho he (starEach_plain hs) (base_plain hp) hl) fun σ H Q ⟨ι, ρ, h, rh, rs, p⟩ => ⟨ι, ρ, h, rh, rs, Post.bind p fun ι1 H1 v u h1 x1 rh1 r1 p1 => by
    split at p1
    · rw [inv_str r1]
      refine ⟨⟨_, rfl⟩, ι1, ρ, h1, rh1, rs.mono x1, Post.bind p1 fun ι2 H2 w u2 h2 x2 rh2 r2 p2 => ans W σ ι2 H2 h2 _ [w] [u2] Q rh2 (.cons r2 .nil) p2⟩
    · exact p1.elim⟩
theorem ans_upper : MtAns G upperF (fun x xs H Q => ∃ a, x = .str a ∧ xs = [] ∧ a.length ≤ 5592405 ∧ Q (.str (Txt.upper a)) H) := by
  intro W σ ι H h z vs us Q rh r p
  unfold upperF at p
  split at p
  · rename_i q
    obtain rfl := AV.str.inj q
    cases r
    obtain ⟨c, p⟩ := ifP (α := AV) p
    exact ⟨_, rfl, rfl, c, p.now rh (.str _)⟩
  · exact p.elim
theorem ans_join : MtAns G joinF (fun x xs H Q => ∃ a p, ∃ ys : List Str, x = .str a ∧ xs = [.ref p] ∧ (SqL G.K H p (ys.map V.str) ∨ SqT G.K H p (ys.map V.str)) ∧ (ys.map (·.length)).sum + ys.length * a.length ≤ 16777216 ∧ Q (.str (Txt.join a ys)) H) := by
  intro W σ ι H h z vs us Q rh r p
  unfold joinF at p
  split at p
  · rename_i q0
    obtain rfl := AV.str.inj q0
    obtain ⟨u, rfl, q⟩ := inv1 r
    split at p
    · split at p
      · rename_i ys e
        obtain ⟨c, p⟩ := ifP (α := AV) p
        cases q with
        | lst t q =>
          rw [strsOf_ok e] at q
          rw [q.strs] at t
          exact ⟨_, _, ys, rfl, rfl, .inl t.sq, c, p.now rh (.str _)⟩
      · exact p.elim
    · split at p
      · rename_i ys e
        obtain ⟨c, p⟩ := ifP (α := AV) p
        cases q with
        | tup t q =>
          rw [strsOf_ok e] at q
          rw [q.strs] at t
          exact ⟨_, _, ys, rfl, rfl, .inr t.sq, c, p.now rh (.str _)⟩
      · exact p.elim
    · exact p.elim
  · exact p.elim
theorem smtOf_ok {x : Str} {b : Smt} (e : smtOf x = some b) : (b = .upper ∧ x = "upper") ∨ (b = .join ∧ x = "join") := by
  unfold smtOf at e
  by_cases c0 : x = "upper"
  · rw [if_pos c0] at e; cases e; exact .inl ⟨rfl, c0⟩
  rw [if_neg c0] at e
  by_cases c1 : x = "join"
  · rw [if_pos c1] at e; cases e; exact .inr ⟨rfl, c1⟩
  rw [if_neg c1] at e
  cases e
theorem re_smt (ok : XOk X G d) {f : Expr → ME} {o : Expr} {m : Str} {s : Smt} {args : List Expr} {apos pos : Pos} (hm : smtOf m = some s) (hp : plainO o = true) (hl : (apos.endLine == pos.line) = true) (ho : PE X o (RE G W (f o))) (hf : ∀ a ∈ args, PE X a (RE G W (f a))) :
    PE X (.Call (.Attribute o m apos) args [] pos) (RE G W (smtM f s o args)) := by
  rcases smtOf_ok hm with ⟨rfl, rfl⟩ | ⟨rfl, rfl⟩
  · cases args with
    | nil => exact re_smt0 F.slot_str_upper F.type_str_upper mt_upper ans_upper hp hl ho
    | cons e es =>
      cases es with
      | nil =>
        refine PE_stk fun ρ h => ?_
        show (if isStar e then (fun _ _ => .stk : ME) else (fun _ _ => .stk)) ρ h = .stk
        split <;> rfl
      | cons e2 es => exact pe_dead
  · cases args with
    | nil => exact pe_dead
    | cons e es =>
      cases es with
      | nil =>
        show PE X _ (RE G W (if isStar e then fun _ _ => .stk else smt1 joinF (f o) (f e)))
        by_cases c : isStar e = true
        · rw [if_pos c]; exact pe_dead
        · rw [if_neg c]
          exact re_smt1 F.slot_str_join F.type_str_join (ok.K ▸ mt_join) ans_join hp (by simpa using c) hl ho (hf e (List.mem_cons_self ..))
      | cons e2 es => exact pe_dead

end
end AM
/-! AMh2: targets -/
namespace AM
open PySem PySem.Spec PyProof.Rows L2

section
variable {X : Cx} {G : Gh} {d : DC} {W : WX}
/-! ### targets -/
/-- the slots but those of a target stay -/
def Off (sl : List Nat) (σ σ' : L2.St) : Prop := σ'.length = σ.length ∧ ∀ i, i ∉ sl → σ'[i]? = σ[i]?
def RG (G : Gh) (sl : List Nat) (f : AV → AM.Env → Option AM.Env) : TG := fun v σ H Q => ∃ ι ρ a ρ', RS G ι H ρ σ ∧ RV G ι H a v ∧ f a ρ = some ρ' ∧ ∀ σ', Off sl σ σ' → RS G ι H ρ' σ' → Q σ' H
def RGs (G : Gh) (sl : List Nat) (f : List AV → AM.Env → Option AM.Env) : TGs := fun v σ H Q => ∃ ι ρ a ρ', RS G ι H ρ σ ∧ RVs G ι H a v ∧ f a ρ = some ρ' ∧ ∀ σ', Off sl σ σ' → RS G ι H ρ' σ' → Q σ' H
theorem PG_imp {e : Expr} {t t' : TG} (h : PG X e t) (i : ∀ v σ H Q, t' v σ H Q → t v σ H Q) : PG X e t' := ⟨fun pins s σ H v u Q I r q => h.run pins s σ H v u Q I r (i v σ H Q q)⟩
theorem PGs_imp {e : List Expr} {t t' : TGs} (h : PGs X e t) (i : ∀ v σ H Q, t' v σ H Q → t v σ H Q) : PGs X e t' := ⟨fun pins s σ H v u Q I r q => h.run pins s σ H v u Q I r (i v σ H Q q)⟩
theorem RS.set {ι : List Addr} {H : Hp} {ρ : AM.Env} {σ : L2.St} {i : Nat} {a : AV} {v : V} (r : RS G ι H ρ σ) (q : RV G ι H a v) : RS G ι H (ρ.set i (some a)) (σ.set i (some v)) := by
  refine ⟨by simp [r.1], fun j w e => ?_⟩
  by_cases hj : j = i
  · subst hj
    by_cases hl : j < ρ.length
    · rw [List.getElem?_set_self hl] at e
      cases e
      exact ⟨v, List.getElem?_set_self (by rw [← r.1]; exact hl), q⟩
    · rw [List.getElem?_eq_none (by simpa using hl)] at e
      cases e
  · rw [List.getElem?_set_ne (Ne.symm hj)] at e
    rw [List.getElem?_set_ne (Ne.symm hj)]
    exact r.2 j w e
theorem pg_dead {e : Expr} {sl : List Nat} {f : AV → AM.Env → Option AM.Env} (h : ∀ a ρ, f a ρ = none) : PG X e (RG G sl f) := ⟨fun pins s σ H v u Q I r ⟨ι, ρ, a, ρ', _, _, e, _⟩ => by
  rw [h] at e
  cases e⟩
theorem asE_plain {e : Expr} {es : List Expr} {env : PySem.Env} (h : isStar e = false) : (assignEach (e :: es) env).map (·.2) = assign e env :: (assignEach es env).map (·.2) ∧ (assignEach (e :: es) env).map (·.1) = false :: (assignEach es env).map (·.1) := by
  cases e <;> first | exact ⟨rfl, rfl⟩ | cases h
theorem asE_len {env : PySem.Env} : ∀ es : List Expr, (assignEach es env).length = es.length
  | [] => rfl
  | e :: es => by cases e <;> simp [assignEach, asE_len es]
theorem asE_none {env : PySem.Env} : ∀ {es : List Expr}, (∀ e ∈ es, isStar e = false) → (assignEach es env).findIdx? (·.1) = none
  | [], _ => rfl
  | e :: es, h => by
    have ih := asE_none (env := env) fun x hx => h x (List.mem_cons_of_mem e hx)
    have he := h e (List.mem_cons_self ..)
    have e1 : assignEach (e :: es) env = (false, assign e env) :: assignEach es env := by cases e <;> first | rfl | cases he
    rw [e1, List.findIdx?_cons]
    simp [ih]
theorem bindTs_len {f : Expr → AV → AM.Env → Option AM.Env} : ∀ {es : List Expr} {vs : List AV} {ρ ρ' : AM.Env}, bindTs f es vs ρ = some ρ' → vs.length = es.length ∧ ∀ e ∈ es, isStar e = false
  | [], [], _, _, _ => ⟨rfl, fun _ z => absurd z (by simp)⟩
  | [], _ :: _, _, _, e => by cases e
  | _ :: _, [], _, _, e => by cases e
  | a :: es, v :: vs, ρ, ρ', e => by
    unfold bindTs at e
    by_cases c : isStar a = true
    · rw [if_pos c] at e
      cases e
    · rw [if_neg c] at e
      obtain ⟨ρ1, e1, e2⟩ := Option.bind_eq_some_iff.mp e
      obtain ⟨h1, h2⟩ := bindTs_len e2
      exact ⟨by simp [h1], fun x hx => (List.mem_cons.mp hx).elim (fun z => by rw [z]; simpa using c) (h2 x)⟩
theorem rg_all {f : Expr → AV → AM.Env → Option AM.Env} {sf : Expr → List Nat} : ∀ es : List Expr, (∀ e ∈ es, isStar e = false) → (∀ e ∈ es, PG X e (RG G (sf e) (f e))) → PGs X es (RGs G (tslotsL sf es) (bindTs f es))
  | [], _, _ => PGs_imp pgs_nil fun v σ H Q ⟨ι, ρ, a, ρ', rs, rv, e, k⟩ => by
      cases a with
      | nil =>
        cases rv
        cases (show some ρ = some ρ' from e)
        exact ⟨rfl, k σ ⟨rfl, fun _ _ => rfl⟩ rs⟩
      | cons _ _ => cases e
  | t :: es, hs, hf => by
    have he := hf t (List.mem_cons_self ..)
    have ht := rg_all es (fun x hx => hs x (List.mem_cons_of_mem _ hx)) fun x hx => hf x (List.mem_cons_of_mem _ hx)
    refine PGs_imp (pgs_cons he ht (asE_plain (hs t (List.mem_cons_self ..))).1) fun v σ H Q ⟨ι, ρ, a, ρ', rs, rv, e, k⟩ => ?_
    cases a with
    | nil => cases e
    | cons x xs =>
      cases rv with
      | @cons _ v1 _ vr r1 r2 =>
        unfold bindTs at e
        rw [if_neg (by rw [hs t (List.mem_cons_self ..)]; exact Bool.false_ne_true)] at e
        obtain ⟨ρ1, e1, e2⟩ := Option.bind_eq_some_iff.mp e
        refine ⟨v1, vr, rfl, ι, ρ, x, ρ1, rs, r1, e1, fun σ1 o1 rs1 => ⟨ι, ρ1, xs, ρ', rs1, r2, e2, fun σ2 o2 rs2 => k σ2 ⟨o2.1.trans o1.1, fun i hi => ?_⟩ rs2⟩⟩
        unfold tslotsL at hi
        rw [List.mem_append, not_or] at hi
        exact (o2.2 i hi.2).trans (o1.2 i hi.1)
theorem rg_bind (ok : XOk X G d) : ∀ (n : Nat) (e : Expr), PG X e (RG G (tslots d n e) (bindT d n e))
  | 0, _ => pg_dead fun _ _ => rfl
  | n + 1, e => by
    cases e with
    | Name x pos =>
      by_cases c : locB d.sc x = true
      · cases q : idxOf x d.N with
        | none =>
          exact pg_dead fun a ρ => by
            show (if locB d.sc x then (idxOf x d.N).map _ else none) = none
            rw [if_pos c, q]
            rfl
        | some i =>
          obtain ⟨hl, hf⟩ := ok.loc x c
          refine PG_imp (pg_name (i := i) (by rw [ok.N]; exact ok.nd) (by rw [ok.N]; exact idxOf_ok q) hl hf) fun v σ H Q ⟨ι, ρ, a, ρ', rs, rv, e, k⟩ => ?_
          have e : (if locB d.sc x then (idxOf x d.N).map (fun i => ρ.set i (some a)) else none) = some ρ' := e
          rw [if_pos c, q] at e
          have e : some (ρ.set i (some a)) = some ρ' := e
          cases e
          refine k _ ⟨by simp, fun j hj => ?_⟩ (rs.set rv)
          have hj : j ∉ (idxOf x d.N).toList := hj
          rw [q] at hj
          have hj : j ≠ i := by simpa using hj
          rw [List.getElem?_set_ne (Ne.symm hj)]
      · exact pg_dead fun a ρ => by
          show (if locB d.sc x then (idxOf x d.N).map _ else none) = none
          rw [if_neg c]
    | Tuple es k pos =>
      by_cases c : ∀ e ∈ es, isStar e = false
      · have hs := rg_all (X := X) (G := G) (f := bindT d n) (sf := tslots d n) es c fun e _ => rg_bind ok n e
        refine PG_imp (pg_tup (n := es.length) ok.calm hs (asE_len es) (asE_none c)) fun v σ H Q ⟨ι, ρ, a, ρ', rs, rv, e, kk⟩ => ?_
        cases a with
        | tup xs =>
          have e : bindTs (bindT d n) es xs ρ = some ρ' := e
          cases rv with
          | @tup _ p vs t q =>
            obtain ⟨hl, _⟩ := bindTs_len e
            exact ⟨p, vs, rfl, by rw [ok.K]; exact t.sq, by rw [← q.length]; exact hl, ι, ρ, xs, ρ', rs, q, e, kk⟩
        | _ => exact absurd (show none = some ρ' from e) (by simp)
      · exact pg_dead fun a ρ => by
          cases a with
          | tup xs =>
            show bindTs (bindT d n) es xs ρ = none
            cases q : bindTs (bindT d n) es xs ρ with
            | none => rfl
            | some ρ' => exact absurd (bindTs_len q).2 c
          | _ => rfl
    | _ => exact pg_dead fun _ _ => rfl

end
end AM
/-! AMh3: walks -/
namespace AM
open PySem PySem.Spec PyProof.Rows L2

section
variable {X : Cx} {G : Gh} {d : DC} {W : WX}
/-! ### walks -/
structure WalkOk (G : Gh) (ι : List Addr) (H : Hp) (items : List AV) (J : It) : Prop where
  goes : ∀ (i : Nat) ι1 H1, Ext ι H ι1 H1 → i < items.length → J.go i H1
  stops : ∀ ι1 H1, Ext ι H ι1 H1 → J.stop items.length H1
  yields : ∀ l, (∀ b ∈ l, b ∈ G.hid ∨ H b = none) → ∀ (i : Nat) ι1 H1 h1 a x H2, Ext ι H ι1 H1 → RH (G.hide l) ι1 H1 h1 → items[i]? = some a → J.yld i H1 x H2 → Ext ι1 H1 ι1 H2 ∧ RH (G.hide l) ι1 H2 h1 ∧ RV (G.hide l) ι1 H2 a x
theorem Mv.hideL {G : Gh} {ι : List Addr} {H : Hp} {l : List Addr} (hl : ∀ b ∈ l, b ∈ G.hid ∨ H b = none) : Mv G ι H (G.hide l) ι H := ⟨rfl, rfl, fun _ _ e => e, fun a o h e => ⟨e, h.1, fun z => by
  rcases hl a z with q | q
  · exact h.2 q
  · rw [q] at e
    cases e⟩⟩
def RI (G : Gh) (W : WX) (m : AM.Env → AH → Res (List AV)) : TI := fun σ H R => ∃ ι ρ h, RH G ι H h ∧ RS G ι H ρ σ ∧ Post G (WalkOk G) W σ ι H R (m ρ h)
theorem PI_imp {tg it : Expr} {t t' : TI} (h : PI X tg it t) (i : ∀ σ H R, t' σ H R → t σ H R) : PI X tg it t' := ⟨fun pins s σ H R I q => h.run pins s σ H R I (i σ H R q)⟩
theorem pi_dead {tg it : Expr} {m : AM.Env → AH → Res (List AV)} (h : ∀ ρ h, m ρ h = .stk) : PI X tg it (RI G W m) := ⟨fun pins s σ H R I ⟨ι, ρ, hh, _, _, p⟩ => by
  rw [h] at p
  exact p.elim⟩
theorem PI.or {tg e : Expr} {te : TE} {a b : TE → TI} (h1 : PI X tg e (a te)) (h2 : PI X tg e (b te)) : True := trivial
theorem walk_seqL {ι : List Addr} {H : Hp} {a : Addr} {xs : List AV} {vs : List V} (t : ∀ ι1 H1, Ext ι H ι1 H1 → SqL G.K H1 a vs) (q : RVs G ι H xs vs) : WalkOk G ι H xs (Itl G.K a) where
  goes := fun i ι1 H1 x hi => walk_list.goes i H1 (by rw [← q.length]; exact hi) (t ι1 H1 x)
  stops := fun ι1 H1 x => by rw [q.length]; exact walk_list.stops H1 (t ι1 H1 x)
  yields := fun l hl i ι1 H1 h1 a' x H2 xx rh e y => by
    obtain ⟨v, e2, rv⟩ := q.get e
    obtain ⟨e3, e4⟩ := walk_list.yields i H1 x H2 (List.getElem?_eq_some_iff.mp e2).1 (t ι1 H1 xx) y
    subst e3
    rw [e4] at e2
    cases e2
    exact ⟨Ext.refl, rh, (rv.move (Mv.hideL hl)).mono xx⟩
theorem walk_seqT {ι : List Addr} {H : Hp} {a : Addr} {xs : List AV} {vs : List V} (t : RT G ι H a vs) (q : RVs G ι H xs vs) : WalkOk G ι H xs (Itt G.K a) where
  goes := fun i ι1 H1 x hi => walk_tup.goes i H1 (by rw [← q.length]; exact hi) (t.mono x).sq
  stops := fun ι1 H1 x => by rw [q.length]; exact walk_tup.stops H1 (t.mono x).sq
  yields := fun l hl i ι1 H1 h1 a' x H2 xx rh e y => by
    obtain ⟨v, e2, rv⟩ := q.get e
    obtain ⟨e3, e4⟩ := walk_tup.yields i H1 x H2 (List.getElem?_eq_some_iff.mp e2).1 (t.mono xx).sq y
    subst e3
    rw [e4] at e2
    cases e2
    exact ⟨Ext.refl, rh, (rv.move (Mv.hideL hl)).mono xx⟩
theorem walk_text {ι : List Addr} {H : Hp} {z : Str} : WalkOk G ι H (signs z) (Its z) where
  goes := fun i ι1 H1 x hi => by show i < z.cps.size; simpa [signs] using hi
  stops := fun ι1 H1 x => by show z.cps.size ≤ _; simp [signs]
  yields := fun l hl i ι1 H1 h1 a x H2 xx rh e y => by
    obtain ⟨e3, c, e4, e5⟩ := y
    subst e3 e5
    unfold signs at e
    rw [List.getElem?_map, Array.getElem?_toList, e4] at e
    cases e
    exact ⟨Ext.refl, rh, .str _⟩
theorem walk_rng {ι : List Addr} {H : Hp} {lo : Int} {n : Nat} : WalkOk G ι H (ranges lo n) (Itr lo n) where
  goes := fun i ι1 H1 x hi => by show i < n; simpa [ranges] using hi
  stops := fun ι1 H1 x => by show n ≤ _; simp [ranges]
  yields := fun l hl i ι1 H1 h1 a x H2 xx rh e y => by
    obtain ⟨e3, e4⟩ := y
    subst e3 e4
    unfold ranges at e
    rw [List.getElem?_map] at e
    obtain ⟨j, e1, rfl⟩ := Option.map_eq_some_iff.mp e
    obtain ⟨hj, e2⟩ := List.getElem?_eq_some_iff.mp e1
    simp at e2
    subst e2
    exact ⟨Ext.refl, rh, .int _⟩
theorem enumI_get : ∀ {xs : List AV} {k i : Nat} {a : AV}, (enumI k xs)[i]? = some a → ∃ x, xs[i]? = some x ∧ a = .tup [.int ((k + i : Nat) : Int), x]
  | [], _, _, _, e => by simp [enumI] at e
  | x :: xs, k, 0, a, e => by
    simp [enumI] at e
    exact ⟨x, rfl, by rw [← e]; rfl⟩
  | x :: xs, k, i + 1, a, e => by
    simp [enumI] at e
    obtain ⟨y, e1, e2⟩ := enumI_get e
    exact ⟨y, by simpa using e1, by rw [e2]; congr 4; omega⟩
theorem enumI_len : ∀ {xs : List AV} {k : Nat}, (enumI k xs).length = xs.length
  | [], _ => rfl
  | x :: xs, k => by simp [enumI, enumI_len (xs := xs)]
theorem walk_en {ι : List Addr} {H : Hp} {a : Addr} {xs : List AV} {vs : List V} (t : ∀ ι1 H1, Ext ι H ι1 H1 → SqL G.K H1 a vs) (q : RVs G ι H xs vs) : WalkOk G ι H (enumI 0 xs) (Ite G.K a) where
  goes := fun i ι1 H1 x hi => walk_enum.goes i H1 (by rw [← q.length]; rw [enumI_len] at hi; exact hi) (t ι1 H1 x)
  stops := fun ι1 H1 x => by rw [enumI_len, q.length]; exact walk_enum.stops H1 (t ι1 H1 x)
  yields := fun l hl i ι1 H1 h1 a' x H2 xx rh e y => by
    obtain ⟨z, e1, rfl⟩ := enumI_get e
    obtain ⟨v, e2, rv⟩ := q.get e1
    obtain ⟨T, x1, x2, h3, h4, h5, h6, h7⟩ := walk_enum.yields i H1 x H2 (List.getElem?_eq_some_iff.mp e2).1 (t ι1 H1 xx) y
    subst h3 h5
    cases h6
    have h7 : vs[i]? = some x2 := h7
    rw [h7] at e2
    cases e2
    refine ⟨Ext.fresh h4, rh.fresh h4, .tup (RT.new rh h4) (.cons ?_ (.cons (((rv.move (Mv.hideL hl)).mono xx).mono (Ext.fresh h4)) .nil))⟩
    rw [Nat.zero_add]
    exact .int _
theorem RL.keep {ι : List Addr} {H : Hp} {a : Addr} {vs : List V} (t : RL G ι H a vs) : ∀ ι1 H1, Ext ι H ι1 H1 → SqL G.K H1 a vs := fun _ _ x => (t.mono x).sq
theorem RE_.keep {ι : List Addr} {H : Hp} {a : Addr} {vs : List V} (t : RE_ G ι H a vs) : ∀ ι1 H1, Ext ι H ι1 H1 → SqL G.K H1 a vs := fun _ _ x => (t.mono x).sq
/-- a value that is walked -/
theorem pi_items (ok : XOk X G d) {tg it : Expr} {m : ME} (he : PE X it (RE G W m)) : PI X tg it (RI G W fun ρ h => (m ρ h).bind itemsR) := by
  refine ⟨fun pins s σ H R I ⟨ι, ρ, h, rh, rs, p⟩ => ?_⟩
  -- which kind of value comes is known by the machine's run
  cases q : m ρ h with
  | stk =>
    have p : Post G (WalkOk G) W σ ι H R ((m ρ h).bind itemsR) := p
    rw [q] at p
    exact p.elim
  | exc c fs h' =>
    have p : Post G (WalkOk G) W σ ι H R ((m ρ h).bind itemsR) := p
    rw [q] at p
    exact (pi_list he).run pins s σ H R I ⟨ι, ρ, h, rh, rs, by rw [q]; exact p⟩
  | ok v h' =>
    have p : Post G (WalkOk G) W σ ι H R ((m ρ h).bind itemsR) := p
    rw [q] at p
    have p : Post G (WalkOk G) W σ ι H R (itemsR v h') := p
    unfold itemsR at p
    cases e : itemsOf v with
    | none => rw [e] at p; exact p.elim
    | some xs =>
      rw [e] at p
      cases v with
      | lst ys =>
        cases e
        refine (pi_list he).run pins s σ H R I ⟨ι, ρ, h, rh, rs, by
          rw [q]
          intro ι1 H1 u x1 rh1 r1
          cases r1 with
          | lst t q => exact ⟨_, rfl, ⟨_, by rw [ok.K]; exact t.sq⟩, by rw [ok.K]; exact p ι1 H1 _ x1 rh1 (walk_seqL t.keep q)⟩⟩
      | ext ys =>
        cases e
        refine (pi_list he).run pins s σ H R I ⟨ι, ρ, h, rh, rs, by
          rw [q]
          intro ι1 H1 u x1 rh1 r1
          cases r1 with
          | ext t q => exact ⟨_, rfl, ⟨_, by rw [ok.K]; exact t.sq⟩, by rw [ok.K]; exact p ι1 H1 _ x1 rh1 (walk_seqL t.keep q)⟩⟩
      | tup ys =>
        cases e
        refine (pi_tup he).run pins s σ H R I ⟨ι, ρ, h, rh, rs, by
          rw [q]
          intro ι1 H1 u x1 rh1 r1
          cases r1 with
          | tup t q => exact ⟨_, rfl, ⟨_, by rw [ok.K]; exact t.sq⟩, by rw [ok.K]; exact p ι1 H1 _ x1 rh1 (walk_seqT t q)⟩⟩
      | str z =>
        cases e
        refine (pi_str he).run pins s σ H R I ⟨ι, ρ, h, rh, rs, by
          rw [q]
          intro ι1 H1 u x1 rh1 r1
          rw [inv_str r1]
          exact ⟨_, rfl, p ι1 H1 _ x1 rh1 walk_text⟩⟩
      | _ => cases e
end
end AM
/-! AMi: iterables, comprehensions. -/
namespace AM
open PySem PySem.Spec PyProof.Rows L2

section
variable {X : Cx} {G : Gh} {d : DC} {W : WX}
theorem evs1 {f : Expr → ME} {a : Expr} {env : PySem.Env} (h : isStar a = false) : starEach [a] env = [(false, eval a env)] := by rw [starEach_plain h]; rfl
theorem pi_rng1 (ok : XOk X G d) {f : Expr → ME} {tg a : Expr} {p pos : Pos} (hg : glB d.sc "range" = true) (hf : d.free "range" = true) (ha : PE X a (RE G W (f a))) :
    PI X tg (.Call (.Name "range" p) [a] [] pos) (RI G W fun ρ h => (argsM f [a] ρ h).bind rangeR) := by
  by_cases c : plainAll [a] = true
  · have pl := plainAll_ok c
    have hA : PA X [a] (RA G W (argsM f [a])) := ra_args fun e he => by
      have : e = a := by simpa using he
      rw [this]; exact ha
    refine PI_imp (pi_range1 (ok.gl _ hg) (ok.free _ hf) hA (evs1 (f := f) (pl a (List.mem_cons_self ..)))) fun σ H R ⟨ι, ρ, h, rh, rs, q⟩ => ⟨ι, ρ, h, rh, rs, Post.bindE q fun ι1 H1 vs us h1 e1 x1 rh1 r1 p1 => ?_⟩
    have hl : vs.length = 1 := by
      unfold argsM at e1
      rw [if_pos c] at e1
      exact evs_len e1
    match vs, hl with
    | [v], _ =>
      obtain ⟨u, rfl, rv⟩ := inv1 r1
      cases v with
      | int j =>
        have p1 : Post G (WalkOk G) W σ ι1 H1 R (if small62 j then .ok (ranges 0 j.toNat) h1 else .stk) := p1
        by_cases c2 : small62 j = true
        · rw [if_pos c2] at p1
          unfold small62 at c2
          rw [Bool.and_eq_true, decide_eq_true_eq, decide_eq_true_eq] at c2
          rw [inv_int rv]
          exact ⟨j, rfl, c2.1, c2.2, p1.now rh1 walk_rng⟩
        · rw [if_neg c2] at p1
          exact p1.elim
      | _ => exact p1.elim
  · refine pi_dead fun ρ h => ?_
    unfold argsM
    rw [if_neg c]
    rfl
theorem pi_rng2 (ok : XOk X G d) {f : Expr → ME} {tg a b : Expr} {p pos : Pos} (hg : glB d.sc "range" = true) (hf : d.free "range" = true) (ha : PE X a (RE G W (f a))) (hb : PE X b (RE G W (f b))) :
    PI X tg (.Call (.Name "range" p) [a, b] [] pos) (RI G W fun ρ h => (argsM f [a, b] ρ h).bind rangeR) := by
  by_cases c : plainAll [a, b] = true
  · have pl := plainAll_ok c
    have hA : PA X [a, b] (RA G W (argsM f [a, b])) := ra_args fun e he => by
      have : e = a ∨ e = b := by simpa using he
      rcases this with z | z
      · rw [z]; exact ha
      · rw [z]; exact hb
    have p1 : isStar a = false := pl a (by simp)
    have p2 : isStar b = false := pl b (by simp)
    refine PI_imp (pi_range2 (ok.gl _ hg) (ok.free _ hf) hA (by rw [starEach_plain p1, evs1 (f := f) p2]) (evs1 (f := f) p2)) fun σ H R ⟨ι, ρ, h, rh, rs, q⟩ => ⟨ι, ρ, h, rh, rs, Post.bindE q fun ι1 H1 vs us h1 e1 x1 rh1 r1 p1 => ?_⟩
    have hl : vs.length = 2 := by
      unfold argsM at e1
      rw [if_pos c] at e1
      exact evs_len e1
    match vs, hl with
    | [v, w], _ =>
      obtain ⟨u, u2, rfl, rv, rw2⟩ := inv2 r1
      cases v with
      | int i =>
        cases w with
        | int j =>
          have p1 : Post G (WalkOk G) W σ ι1 H1 R (if small62 i && small62 j then .ok (ranges i (j - i).toNat) h1 else .stk) := p1
          by_cases c2 : (small62 i && small62 j) = true
          · rw [if_pos c2] at p1
            unfold small62 at c2
            simp only [Bool.and_eq_true, decide_eq_true_eq] at c2
            rw [inv_int rv, inv_int rw2]
            exact ⟨i, j, rfl, ⟨c2.1.1, c2.1.2, c2.2.1, c2.2.2⟩, p1.now rh1 walk_rng⟩
          · rw [if_neg c2] at p1
            exact p1.elim
        | _ => exact p1.elim
      | _ => exact p1.elim
  · refine pi_dead fun ρ h => ?_
    unfold argsM
    rw [if_neg c]
    rfl
theorem pi_en (ok : XOk X G d) {f : Expr → ME} {a : Expr} {es : List Expr} {k : Nat} {tpos p pos : Pos} (hg : glB d.sc "enumerate" = true) (hf : d.free "enumerate" = true) (ha : PE X a (RE G W (f a))) :
    PI X (.Tuple es k tpos) (.Call (.Name "enumerate" p) [a] [] pos) (RI G W fun ρ h => (argsM f [a] ρ h).bind enumR) := by
  by_cases c : plainAll [a] = true
  · have pl := plainAll_ok c
    have hA : PA X [a] (RA G W (argsM f [a])) := ra_args fun e he => by
      have : e = a := by simpa using he
      rw [this]; exact ha
    refine PI_imp (pi_enum (ok.gl _ hg) (ok.free _ hf) hA (evs1 (f := f) (pl a (List.mem_cons_self ..)))) fun σ H R ⟨ι, ρ, h, rh, rs, q⟩ => ⟨ι, ρ, h, rh, rs, Post.bindE q fun ι1 H1 vs us h1 e1 x1 rh1 r1 p1 => ?_⟩
    have hl : vs.length = 1 := by
      unfold argsM at e1
      rw [if_pos c] at e1
      exact evs_len e1
    match vs, hl with
    | [v], _ =>
      obtain ⟨u, rfl, rv⟩ := inv1 r1
      rw [ok.K]
      cases v with
      | lst xs =>
        have p1 : Post G (WalkOk G) W σ ι1 H1 R (.ok (enumI 0 xs) h1) := p1
        cases rv with
        | @lst _ b vs t q => exact ⟨b, vs, rfl, t.sq, p1.now rh1 (walk_en t.keep q)⟩
      | ext xs =>
        have p1 : Post G (WalkOk G) W σ ι1 H1 R (.ok (enumI 0 xs) h1) := p1
        cases rv with
        | @ext _ b vs t q => exact ⟨b, vs, rfl, t.sq, p1.now rh1 (walk_en t.keep q)⟩
      | _ => exact p1.elim
  · refine pi_dead fun ρ h => ?_
    unfold argsM
    rw [if_neg c]
    rfl
theorem pi_it (ok : XOk X G d) {f : Expr → ME} {tg : Expr} (it : Expr) (hf : ∀ e, PE X e (RE G W (f e))) : PI X tg it (RI G W (itM f d tg it)) := by
  unfold itM
  by_cases c : isSet it = true
  · rw [if_pos c]; exact pi_dead fun _ _ => rfl
  rw [if_neg c]
  split
  · rename_i x p args pos
    by_cases c1 : x = "range"
    · rw [if_pos c1]
      subst c1
      by_cases c2 : (glB d.sc "range" && d.free "range" && (Nat.beq args.length 1 || Nat.beq args.length 2)) = true
      · rw [if_pos c2]
        rw [Bool.and_eq_true, Bool.and_eq_true, Bool.or_eq_true] at c2
        obtain ⟨⟨h1, h2⟩, h3⟩ := c2
        match args, h3 with
        | [a], _ => exact pi_rng1 ok h1 h2 (hf a)
        | [a, b], _ => exact pi_rng2 ok h1 h2 (hf a) (hf b)
        | [], h3 => exact absurd h3 (by simp)
        | _ :: _ :: _ :: r, h3 => exact absurd h3 (by simp)
      · rw [if_neg c2]; exact pi_dead fun _ _ => rfl
    · rw [if_neg c1]
      by_cases c3 : x = "enumerate"
      · rw [if_pos c3]
        subst c3
        by_cases c2 : (glB d.sc "enumerate" && d.free "enumerate" && isTup tg && Nat.beq args.length 1) = true
        · rw [if_pos c2]
          rw [Bool.and_eq_true, Bool.and_eq_true, Bool.and_eq_true] at c2
          obtain ⟨⟨⟨h1, h2⟩, h4⟩, h3⟩ := c2
          match args, h3 with
          | [a], _ =>
            cases tg with
            | Tuple es k tpos => exact pi_en ok h1 h2 (hf a)
            | _ => cases h4
          | [], h3 => exact absurd h3 (by simp)
          | _ :: _ :: r, h3 => exact absurd h3 (by simp)
        · rw [if_neg c2]; exact pi_dead fun _ _ => rfl
      · rw [if_neg c3]; exact pi_items ok (hf _)
  · exact pi_items ok (hf _)
theorem notSet {it : Expr} {env : PySem.Env} (h : ¬ isSet it = true) : ∀ x, foldedSetIterable it env x = pure x := by
  intro x
  cases it <;> first | rfl | exact absurd rfl h
/-! ### a walk with hidden objects -/
def wlk {items : List AV} {J : It} {ι : List Addr} {H : Hp} (w : WalkOk G ι H items J) : L2.Walk J items.length (fun H' => ∃ ι', Ext ι H ι' H') (fun i H x H' => J.yld i H x H') where
  goes := fun i H1 hi ⟨ι1, x⟩ => w.goes i ι1 H1 x hi
  stops := fun H1 ⟨ι1, x⟩ => w.stops ι1 H1 x
  yields := fun _ _ _ _ _ _ y => y
theorem Post.noX {α β γ δ : Type} {G' : Gh} {R : List Addr → Hp → α → β → Prop} {R' : List Addr → Hp → γ → δ → Prop} {W W' : WX} {σ σ' : L2.St} {ι ι' : List Addr} {H H' : Hp} {Q' : δ → Hp → Prop} {r : Res α} {f : α → AH → Res γ} {K : β → Hp → Prop}
    (p : Post G R' W σ ι H Q' ((AM.noX r).bind f)) (k : ∀ ι1 H1 a u h1, Ext ι' H' ι1 H1 → RH G' ι1 H1 h1 → R ι1 H1 a u → Post G R' W σ ι H Q' (f a h1) → K u H1) : Post G' R W' σ' ι' H' K r := by
  cases r with
  | ok a h => exact fun ι1 H1 u x rh r => k ι1 H1 a u h x rh r p
  | exc c fs h => exact p.elim
  | stk => exact p.elim
theorem wipe_get {σ : L2.St} : ∀ {vs : List Nat} {i : Nat}, (wipe σ vs)[i]? = if i ∈ vs then σ[i]?.map (fun _ => none) else σ[i]?
  | [], i => by simp [wipe]
  | v :: vs, i => by
    unfold wipe
    by_cases hi : i = v
    · subst hi
      rw [if_pos (List.mem_cons_self ..)]
      by_cases hl : i < σ.length
      · rw [List.getElem?_set_self (by rw [wipe_length]; exact hl), List.getElem?_eq_getElem hl]
        rfl
      · rw [List.getElem?_eq_none (by rw [List.length_set, wipe_length]; omega), List.getElem?_eq_none (by omega)]
        rfl
    · rw [List.getElem?_set_ne (Ne.symm hi), wipe_get]
      simp [hi]
theorem wipe_off {σ σ2 : L2.St} {sl vs : List Nat} (o : Off sl (wipe σ vs) σ2) (hs : ∀ i ∈ sl, i ∈ vs) : wipe σ2 vs = wipe σ vs := by
  apply List.ext_getElem?
  intro i
  rw [wipe_get]
  by_cases hi : i ∈ vs
  · rw [if_pos hi, wipe_get, if_pos hi]
    have hl : σ2.length = σ.length := by rw [o.1, wipe_length]
    by_cases h : i < σ.length
    · rw [List.getElem?_eq_getElem h, List.getElem?_eq_getElem (by omega)]
      rfl
    · rw [List.getElem?_eq_none (by omega), List.getElem?_eq_none (by omega)]
  · rw [if_neg hi]
    exact o.2 i fun z => hi (hs i z)
theorem wipeA_len (ρ : AM.Env) : ∀ vs, (wipeA ρ vs).length = ρ.length
  | [] => rfl
  | v :: vs => by unfold wipeA; rw [List.length_set, wipeA_len ρ vs]
theorem RS.wipe {ι : List Addr} {H : Hp} {ρ : AM.Env} {σ : L2.St} (r : RS G ι H ρ σ) : ∀ vs, RS G ι H (wipeA ρ vs) (wipe σ vs)
  | [] => r
  | v :: vs => by
    have ih := RS.wipe r vs
    unfold wipeA L2.wipe
    refine ⟨by simp [ih.1], fun i x e => ?_⟩
    by_cases hi : i = v
    · subst hi
      by_cases hl : i < (wipeA ρ vs).length
      · rw [List.getElem?_set_self hl] at e
        cases e
      · rw [List.getElem?_eq_none (by simpa using hl)] at e
        cases e
    · rw [List.getElem?_set_ne (Ne.symm hi)] at e
      rw [List.getElem?_set_ne (Ne.symm hi)]
      exact ih.2 i x e
theorem subB_ok {xs ys : List Nat} (h : subB xs ys = true) : ∀ i ∈ xs, i ∈ ys := fun i hi => by
  have q := List.any_eq_true.mp (List.all_eq_true.mp h i hi)
  obtain ⟨y, hy, e⟩ := q
  rw [Nat.eq_of_beq_eq_true e]
  exact hy
/-- all contexts of a def's block at a comprehension -/
def W0 : WX := fun _ _ _ _ => False
theorem PE_ex {e : Expr} {t : List Addr → TE} (h : ∀ l, PE X e (t l)) : PE X e (fun σ H Q => ∃ l, t l σ H Q) := ⟨fun pins s σ H Q I ⟨l, q⟩ => (h l).run pins s σ H Q I q⟩
theorem PG_ex {e : Expr} {t : List Addr → TG} (h : ∀ l, PG X e (t l)) : PG X e (fun v σ H Q => ∃ l, t l v σ H Q) := ⟨fun pins s σ H v u Q I r ⟨l, q⟩ => (h l).run pins s σ H v u Q I r q⟩
theorem PTs_ex {e : List Expr} {t : List Addr → TT} (h : ∀ l, PTs X e (t l)) : PTs X e (fun σ H Q => ∃ l, t l σ H Q) := ⟨fun pins s σ H Q I ⟨l, q⟩ => (h l).run pins s σ H Q I q⟩
theorem RL_of_hid {ι : List Addr} {H : Hp} {D : Addr} {vs : List V} {h : AH} (rh : RH (G.hide (D :: G.hid)) ι H h) (hD : D ∉ G.hid) (e : H D = some (.lst vs)) : RL G ι H D vs := ⟨⟨(rh.hd D (List.mem_cons_self ..)).1, hD⟩, e⟩
theorem comp_imp {it : AM.Env → AH → Res (List AV)} {asg : AV → AM.Env → Option AM.Env} {test : AM.Env → AH → Res Bool} {elt : ME} {sl vs : List Nat} (hs : ∀ i ∈ sl, i ∈ vs) : ∀ σ H Q,
    RE G W (fun ρ h => (it ρ h).bind fun xs h1 => (compL asg test elt (wipeA ρ vs) xs [] h1).bind fun ys h2 => .ok (.lst ys) h2) σ H Q →
    tLc (RI G W it) (fun v σ H Q => ∃ l, RG (G.hide l) sl asg v σ H Q) (fun σ H Q => ∃ l, RTt (G.hide l) W0 test σ H Q) (fun σ H Q => ∃ l, RE (G.hide l) W0 elt σ H Q) vs σ H Q := by
  intro σ H Q ⟨ι, ρ, h, rh, rs, p⟩
  refine ⟨ι, ρ, h, rh, rs, Post.bind p fun ι1 H1 xs J h1 x1 rh1 wk p1 D nD => ?_⟩
  have hDh : D ∉ G.hid := fun z => by
    obtain ⟨_, o, e⟩ := rh1.hd D z
    rw [nD] at e
    cases e
  have hl : ∀ b ∈ D :: G.hid, b ∈ G.hid ∨ H1 b = none := fun b hb => by
    rcases List.mem_cons.mp hb with z | z
    · rw [z]; exact .inr nD
    · exact .inl z
  have rs1 : RS (G.hide (D :: G.hid)) ι1 H1 (wipeA ρ vs) (wipe σ vs) := (((rs.mono x1).wipe vs).move (Mv.hide nD))
  -- H1 below any later heap but at D
  have extD : ∀ {ι' : List Addr} {H' : Hp} {u : HO}, Ext ι1 H1 ι' H' → Ext ι1 H1 ι' (upd H' D u) := fun x => by
    obtain ⟨nw, e, k⟩ := x
    exact ⟨nw, e, fun a o ha e1 => ⟨by rw [upd_ne (ne_of_none e1 nD)]; exact (k a o ha e1).1, (k a o ha e1).2⟩⟩
  refine lc_it (g := fun v σ H Q => ∃ l, RG (G.hide l) sl asg v σ H Q) (tt := fun σ H Q => ∃ l, RTt (G.hide l) W0 test σ H Q) (te := fun σ H Q => ∃ l, RE (G.hide l) W0 elt σ H Q) (vs := vs) (σ := σ) (H1 := H1) (D := D) (Qd := fun H' => Q (.ref D) H') (wlk wk) (fun i H' => ∃ ι' h' acc us, Ext ι1 H1 ι' H' ∧ RH (G.hide (D :: G.hid)) ι' H' h' ∧ H' D = some (.lst us) ∧ RVs (G.hide (D :: G.hid)) ι' H' acc us ∧
    Post G (RV G) W σ ι1 H1 Q ((compL asg test elt (wipeA ρ vs) (xs.drop i) acc h').bind fun ys h2 => .ok (.lst ys) h2)) ?_ ?_ ?_ ?_
  · exact ⟨ι1, h1, [], [], Ext.fresh nD, rh1.hide nD, upd_same, .nil, by rw [List.drop_zero]; exact p1⟩
  · rintro i H' _ ⟨ι', h', acc, us, x, _⟩
    exact ⟨ι', x⟩
  · rintro i x H' H2 hi ⟨ι', h', acc, us, xx, rh', eD, ra, p2⟩ y
    have e0 : xs[i]? = some xs[i] := List.getElem?_eq_getElem hi
    obtain ⟨x2, rh2, rv2⟩ := wk.yields (D :: G.hid) hl i ι' H' h' xs[i] x H2 xx rh' e0 y
    have dD : ∀ {ι3 : List Addr} {H3 : Hp} {h3 : AH}, RH (G.hide (D :: G.hid)) ι3 H3 h3 → D ∉ ι3 := fun r => (r.hd D (List.mem_cons_self ..)).1
    have keepD : ∀ {ι3 ι4 : List Addr} {H3 H4 : Hp} {h3 : AH}, RH (G.hide (D :: G.hid)) ι3 H3 h3 → H3 D = some (.lst us) → Ext ι3 H3 ι4 H4 → H4 D = some (.lst us) := fun r e x => by
      obtain ⟨nw, _, k⟩ := x
      exact (k D _ (dD r) e).1
    have eD2 := keepD rh' eD x2
    rw [List.drop_eq_getElem_cons hi] at p2
    unfold compL at p2
    cases qa : asg xs[i] (wipeA ρ vs) with
    | none => rw [qa] at p2; exact p2.elim
    | some ρ1 =>
      rw [qa] at p2
      have p2 : Post G (RV G) W σ ι1 H1 Q (((AM.noX (test ρ1 h')).bind fun b h1 => if b then (AM.noX (elt ρ1 h1)).bind fun v h2 => if acc.length < sizeLine then compL asg test elt (wipeA ρ vs) (xs.drop (i + 1)) (acc ++ [v]) h2 else .stk else compL asg test elt (wipeA ρ vs) (xs.drop (i + 1)) acc h1).bind fun ys h2 => .ok (.lst ys) h2) := p2
      refine ⟨D :: G.hid, ι', wipeA ρ vs, xs[i], ρ1, (rs1.mono xx).mono x2, rv2, qa, fun σ2 o rs2 => ⟨wipe_off o hs, D :: G.hid, ι', ρ1, h', rh2, rs2, ?_⟩⟩
      have e1 : ∀ {α β γ : Type} (r : Res α) (f : α → AH → Res β) (g : β → AH → Res γ), (r.bind f).bind g = r.bind fun a h => (f a h).bind g := fun r f g => by cases r <;> rfl
      rw [e1] at p2
      refine Post.noX p2 fun ι3 H3 b b' h3 x3 rh3 rb p3 => ?_
      have rb : b = b' := rb
      subst rb
      have eD3 := keepD rh2 eD2 x3
      cases b with
      | false =>
        exact iteF ⟨ι3, h3, acc, us, xx.trans (x2.trans x3), rh3, eD3, (ra.mono x2).mono x3, p3⟩
      | true =>
        refine iteT ⟨D :: G.hid, ι3, ρ1, h3, rh3, rs2.mono x3, ?_⟩
        have p3 : Post G (RV G) W σ ι1 H1 Q (((AM.noX (elt ρ1 h3)).bind fun v h2 => if acc.length < sizeLine then compL asg test elt (wipeA ρ vs) (xs.drop (i + 1)) (acc ++ [v]) h2 else .stk).bind fun ys h2 => .ok (.lst ys) h2) := p3
        rw [e1] at p3
        refine Post.noX p3 fun ι4 H4 v yv h4 x4 rh4 rv4 p4 => ?_
        have eD4 := keepD rh3 eD3 x4
        have ra4 := ((ra.mono x2).mono x3).mono x4
        by_cases cl : acc.length < sizeLine
        · rw [if_pos cl] at p4
          refine ⟨us, eD4, by rw [← ra4.length]; exact cl, ι4, h4, acc ++ [v], us ++ [yv], extD (xx.trans (x2.trans (x3.trans x4))), rh4.hidW (List.mem_cons_self ..), upd_same, ?_, p4⟩
          exact (ra4.append (.cons rv4 .nil)).move (Mv.hidW (List.mem_cons_self ..))
        · rw [if_neg cl] at p4
          exact p4.elim
  · rintro H' ⟨ι', h', acc, us, xx, rh', eD, ra, p2⟩
    rw [List.drop_length] at p2
    have p2 : Post G (RV G) W σ ι1 H1 Q (.ok (.lst acc) h') := p2
    exact p2.at xx rh'.show_ (.lst (RL_of_hid rh' hDh eD) (ra.move Mv.show_))
end
end AM
/-! AMj: the meaning of all expressions is what the model does. -/
namespace AM
open PySem PySem.Spec PyProof.Rows L2

theorem relS_of {sc : Scope} : ∀ {names : List (Str × NameKind)} {x : Str} {k : NameKind}, names.lookup x = some k →
    ∃ k', (names.map fun (n, k) => if (k == NameKind.free && sc.kind == .function && sc.names.lookup n == some .cell) then (n, NameKind.cell) else (n, k)).lookup x = some k' ∧ (k' = k ∨ (k = .free ∧ k' = .cell))
  | [], _, _, h => by simp at h
  | (n, k0) :: r, x, k, h => by
    have ih := @relS_of sc r x k
    show ∃ k', List.lookup x ((if (k0 == NameKind.free && sc.kind == .function && sc.names.lookup n == some .cell) = true then (n, NameKind.cell) else (n, k0)) :: (r.map _)) = some k' ∧ _
    cases hx : x == n with
    | true =>
      simp only [List.lookup_cons, hx] at h
      cases h
      by_cases hc : (k0 == NameKind.free && sc.kind == .function && sc.names.lookup n == some .cell) = true
      · rw [if_pos hc]
        simp only [List.lookup_cons, hx]
        simp only [Bool.and_eq_true, beq_iff_eq] at hc
        exact ⟨_, rfl, .inr ⟨hc.1.1, rfl⟩⟩
      · rw [if_neg hc]
        simp only [List.lookup_cons, hx]
        exact ⟨_, rfl, .inl rfl⟩
    | false =>
      simp only [List.lookup_cons, hx] at h
      by_cases hc : (k0 == NameKind.free && sc.kind == .function && sc.names.lookup n == some .cell) = true
      · rw [if_pos hc]; simp only [List.lookup_cons, hx]; exact ih h
      · rw [if_neg hc]; simp only [List.lookup_cons, hx]; exact ih h
theorem visB_ok {sc : Scope} {x : Str} (h : visB sc x = true) : Vis sc x := by
  unfold visB at h
  split at h
  · exact .inl (by assumption)
  · exact .inr (.inl (by assumption))
  · exact .inr (.inr (by assumption))
  · cases h
theorem locB_ok {sc : Scope} {x : Str} (h : locB sc x = true) : Loc sc x := by
  unfold locB at h
  split at h
  · exact .inl (by assumption)
  · exact .inr (by assumption)
  · cases h
theorem glB_ok {sc : Scope} {x : Str} (h : glB sc x = true) : sc.names.lookup x = some .globalImplicit := by
  unfold glB at h
  split at h
  · assumption
  · cases h
section
variable {X : Cx} {G : Gh} {d : DC} {W : WX} {F : Str → OpN}
theorem XOk.hide (ok : XOk X G d) (l : List Addr) : XOk X (G.hide l) d := ⟨ok.N, ok.nd, ok.K, ok.calm, ok.hu, ok.vis, ok.loc, ok.gl, ok.cf, ok.free, ok.glob⟩
theorem FOk.hide (fo : FOk X G d F) (l : List Addr) : FOk X (G.hide l) d F := ⟨fo.pos, fo.kw⟩
theorem XOk.blk (ok : XOk X G d) {s : Shared} {H : Hp} {sc : Scope} {cl : List (Str × Addr)} {C : Addr} {fp : List Addr} : XOk (X.blk s H sc (compEnvC sc cl C X.env) fp) G { d with sc := sc } where
  N := ok.N
  nd := ok.nd
  K := ok.K
  calm := ok.calm
  hu := ok.hu
  vis := fun x h => by
    show Vis (relS sc X.env.scope) x
    rcases visB_ok h with e | e | e
    · obtain ⟨k, e1, q⟩ := relS_of (sc := X.env.scope) e
      rcases q with rfl | ⟨z, rfl⟩
      · exact .inl e1
      · cases z
    · obtain ⟨k, e1, q⟩ := relS_of (sc := X.env.scope) e
      rcases q with rfl | ⟨z, rfl⟩
      · exact .inr (.inl e1)
      · cases z
    · obtain ⟨k, e1, q⟩ := relS_of (sc := X.env.scope) e
      rcases q with rfl | ⟨z, rfl⟩
      · exact .inr (.inr e1)
      · exact .inr (.inl e1)
  loc := fun x h => by
    show Loc (relS sc X.env.scope) x ∧ ((sc.names.lookup x == some .cell) = true ∨ (relS sc X.env.scope).names.lookup x = some .local)
    rcases locB_ok h with e | e
    · obtain ⟨k, e1, q⟩ := relS_of (sc := X.env.scope) e
      rcases q with rfl | ⟨z, rfl⟩
      · exact ⟨.inl e1, .inr e1⟩
      · cases z
    · obtain ⟨k, e1, q⟩ := relS_of (sc := X.env.scope) e
      rcases q with rfl | ⟨z, rfl⟩
      · exact ⟨.inr e1, .inl (by rw [e]; rfl)⟩
      · cases z
  gl := fun x h => by
    show (relS sc X.env.scope).names.lookup x = some .globalImplicit
    obtain ⟨k, e1, q⟩ := relS_of (sc := X.env.scope) (glB_ok h)
    rcases q with rfl | ⟨z, rfl⟩
    · exact e1
    · cases z
  cf := fun x h => by
    show (relS sc X.env.scope).names.lookup x = some .cell ∨ (relS sc X.env.scope).names.lookup x = some .free
    rcases h with e | e
    · obtain ⟨k, e1, q⟩ := relS_of (sc := X.env.scope) e
      rcases q with rfl | ⟨z, rfl⟩
      · exact .inl e1
      · cases z
    · obtain ⟨k, e1, q⟩ := relS_of (sc := X.env.scope) e
      rcases q with rfl | ⟨z, rfl⟩
      · exact .inr e1
      · exact .inl e1
  free := ok.free
  glob := ok.glob
theorem FOk.blk (fo : FOk X G d F) {s : Shared} {H : Hp} {sc : Scope} {cl : List (Str × Addr)} {C : Addr} {fp : List Addr} : FOk (X.blk s H sc (compEnvC sc cl C X.env) fp) G { d with sc := sc } F := ⟨fo.pos, fo.kw⟩
theorem takes0 : Takes X W0 := fun u s' ⟨_, _, _, _, _, _, _, _, _, _, _, _, _, _, _, _, w⟩ => w.elim
theorem BlkOk.moved {N : List Str} {sc sc' scope : Scope} {own : List (Str × Nat)} (b : BlkOk N sc scope own) (h : ∀ x, (sc.names.lookup x = some .cell ∨ sc.names.lookup x = some .free) → (sc'.names.lookup x = some .cell ∨ sc'.names.lookup x = some .free)) : BlkOk N sc' scope own :=
  ⟨b.kind, b.uniq, b.ix, fun y hy e => h _ (b.free y hy e), b.own⟩
/-- the tests of a comprehension -/
theorem pts_tests {fi : Expr → ME} {ifs : List Expr} (ht : ∀ e, isIf e = false → PT X e (RTt G W (tstM (fi e)))) : PTs X ifs (RTt G W (testsM fi ifs)) := by
  match ifs with
  | [] => exact ⟨fun pins s σ H Q I ⟨ι, ρ, h, rh, rs, p⟩ => pts_nil.run pins s σ H Q I (Post.now (a := true) p rh rfl)⟩
  | [e] =>
    show PTs X [e] (RTt G W (if isIf e then fun _ _ => .stk else tstM (fi e)))
    by_cases c : isIf e = true
    · rw [if_pos c]; exact ⟨fun pins s σ H Q I ⟨_, _, _, _, _, p⟩ => p.elim⟩
    · rw [if_neg c]; exact pts_one (ht e (by simpa using c))
  | e :: e2 :: r => exact ⟨fun pins s σ H Q I ⟨_, _, _, _, _, p⟩ => p.elim⟩
theorem re_comp (ok : XOk X G d) (fo : FOk X G d F) {f fi : Expr → ME} {n : Nat} {elt tg it : Expr} {ifs : List Expr} {sc : Scope} {pos : Pos} (hf : ∀ e, PE X e (RE G W (f e)))
    (hi : ∀ X' G' W', XOk X' G' { d with sc := sc } → FOk X' G' { d with sc := sc } F → Takes X' W' → ∀ e, PE X' e (RE G' W' (fi e)) ∧ (isIf e = false → PT X' e (RTt G' W' (tstM (fi e))))) :
    PE X (.ListComp elt [⟨tg, it, ifs, 0⟩] sc pos) (RE G W (compM f fi d n elt tg it ifs sc)) := by
  by_cases c : (blkC d.N d.sc sc (ownOf d.N sc) && subB (tslots { d with sc := sc } n tg) ((ownOf d.N sc).map (·.2))) = true
  · have e1 : compM f fi d n elt tg it ifs sc = fun ρ h => (itM f d tg it ρ h).bind fun xs h1 => (compL (bindT { d with sc := sc } n tg) (testsM fi ifs) (fi elt) (wipeA ρ ((ownOf d.N sc).map (·.2))) xs [] h1).bind fun ys h2 => .ok (.lst ys) h2 := by
      funext ρ h
      unfold compM
      rw [if_pos c]
    rw [e1]
    rw [Bool.and_eq_true] at c
    have bk : BlkOk X.N X.env.scope sc (ownOf d.N sc) := by
      rw [ok.N]
      exact BlkOk.moved (blkOk_by c.1) ok.cf
    by_cases cs : isSet it = true
    · refine PE_stk fun ρ h => ?_
      unfold itM
      rw [if_pos cs]
      rfl
    · exact PE_imp (pe_lc ok.calm (by rw [ok.N]; exact ok.nd) (pi_it ok it hf) bk
        (fun s H C cl fp => PG_ex fun l => rg_bind (ok.hide l).blk n tg)
        (fun s H C cl fp => PTs_ex fun l => pts_tests (fun e he => (hi _ _ W0 (ok.hide l).blk (fo.hide l).blk takes0 e).2 he))
        (fun s H C cl fp => PE_ex fun l => (hi _ _ W0 (ok.hide l).blk (fo.hide l).blk takes0 elt).1)
        (notSet cs)) (comp_imp (subB_ok c.2))
  · refine PE_stk fun ρ h => ?_
    unfold compM
    rw [if_neg c]
end
theorem isSl_fun {i : Expr} : isSl i = true ∨ isSl i = false := by cases isSl i <;> simp
/-- the meaning of every expression -/
theorem re_all {F : Str → OpN} : ∀ (n : Nat) (X : Cx) (G : Gh) (d : DC) (W : WX), XOk X G d → FOk X G d F → Takes X W → ∀ e, PE X e (RE G W (ev F n d e)) ∧ (isIf e = false → PT X e (RTt G W (tstM (ev F n d e))))
  | 0, X, G, d, W, ok, fo, tk, e => ⟨PE_stk fun _ _ => rfl, fun _ => ⟨fun pins s σ H Q I ⟨_, _, _, _, _, p⟩ => p.elim⟩⟩
  | n + 1, X, G, d, W, ok, fo, tk, e => by
    have ih := re_all n X G d W ok fo tk
    have ihE : ∀ e, PE X e (RE G W (ev F n d e)) := fun e => (ih e).1
    have ihT : ∀ e, isIf e = false → PT X e (RTt G W (tstM (ev F n d e))) := fun e => (ih e).2
    have deadT : ∀ {e : Expr} {m : ME}, (∀ ρ h, m ρ h = .stk) → PT X e (RTt G W (tstM m)) := fun hm => ⟨fun pins s σ H Q I ⟨ι, ρ, h, _, _, p⟩ => by
      unfold tstM at p
      rw [hm] at p
      exact p.elim⟩
    -- it is enough to say what it is as a value, but for the tests
    have plain : ∀ {e : Expr} {m : ME}, PE X e (RE G W m) → isTst e = false → PE X e (RE G W m) ∧ (isIf e = false → PT X e (RTt G W (tstM m))) := fun he ht => ⟨he, fun _ => rt_plain ok he ht⟩
    have dead : ∀ {e : Expr} {m : ME}, (∀ ρ h, m ρ h = .stk) → PE X e (RE G W m) ∧ (isIf e = false → PT X e (RTt G W (tstM m))) := fun hm => ⟨PE_stk hm, fun _ => deadT hm⟩
    unfold ev
    split
    · exact plain re_const rfl
    · exact plain (re_name ok) rfl
    · rename_i a op b pos
      by_cases c : binB op = true
      · rw [if_pos c]
        obtain ⟨r, ho, ans⟩ := ans_binO (X := X) (G := G) (op := op) ok.K c
        exact plain (re_op ho ans (ihE a) (ihE b)) rfl
      · rw [if_neg c]; exact dead fun _ _ => rfl
    · exact plain (re_neg (ihE _)) rfl
    · exact plain re_dic0 rfl
    · rename_i a pos
      by_cases c : isIf a = true
      · rw [if_pos c]; exact dead fun _ _ => rfl
      · rw [if_neg c]
        exact ⟨re_not ok (ihE a), fun _ => rt_not ok (ihT a (by simpa using c))⟩
    · rename_i a op b pos
      by_cases c : behindInMarks op b = true
      · rw [if_pos c]; exact dead fun _ _ => rfl
      · rw [if_neg c]
        obtain ⟨r, ho, ans⟩ := ans_cmpO (X := X) (G := G) ok.K ok.hu op
        exact ⟨re_cmp ho ans (by simpa using c) (ihE a) (ihE b), fun _ => rt_cmp ok (by simpa using c) (ihE a) (ihE b)⟩
    · rename_i a op op' b c' pos
      by_cases c : lastMarks [op, op'] [b, c'] = true
      · rw [if_pos c]; exact dead fun _ _ => rfl
      · rw [if_neg c]
        exact ⟨re_chain ok (by simpa using c) (ihE a) (ihE b) (ihE c'), fun _ => rt_chain ok (by simpa using c) (ihE a) (ihE b) (ihE c')⟩
    · rename_i op es pos
      exact ⟨re_bool ok es fun e _ => ihE e, fun _ => (rt_bool ok es fun e _ he => ihT e he).pt⟩
    · rename_i c' a b pos
      by_cases c : isIf c' = true
      · rw [if_pos c]; exact dead fun _ _ => rfl
      · rw [if_neg c]
        exact ⟨re_ite (ihT c' (by simpa using c)) (ihE a) (ihE b), fun h => absurd h (by simp [isIf])⟩
    · rename_i es k pos
      exact plain (re_tup (ra_evs es fun e _ => ihE e)) rfl
    · rename_i es pos
      by_cases c : d.hp pos = true
      · rw [if_pos c]; exact plain (re_new (ra_evs es fun e _ => ihE e)) rfl
      · rw [if_neg c]; exact plain (re_lst (ra_evs es fun e _ => ihE e)) rfl
    · rename_i a i pos
      split
      · exact plain (re_slice ok (ihE a) (fun e _ => ihE e) (fun e _ => ihE e)) rfl
      · by_cases c : isSl i = true
        · rw [if_pos c]; exact dead fun _ _ => rfl
        · rw [if_neg c]; exact plain (re_idx ok (by simpa using c) (ihE a) (ihE i)) rfl
    · rename_i x p args kws pos
      refine plain ?_ rfl
      unfold ucM
      by_cases c : (dun x || !(glB d.sc x)) = true
      · rw [if_pos c]; exact pe_dead
      · rw [if_neg c]
        rw [Bool.or_eq_true, not_or] at c
        have hg : glB d.sc x = true := by simpa using c.2
        split
        · cases hfn : d.fn x with
          | some ps => exact re_own' ok fo tk c.1 hg hfn fun a _ => ihE a
          | none =>
            by_cases c2 : d.free x = true
            · show PE X _ (RE G W (if d.free x then _ else _))
              rw [if_pos c2]
              cases hb : bifOf x with
              | none => exact pe_dead
              | some b =>
                cases args with
                | nil => exact pe_dead
                | cons a as => exact re_bif ok c.1 hg c2 hb fun a _ => ihE a
            · show PE X _ (RE G W (if d.free x then _ else _))
              rw [if_neg c2]; exact pe_dead
        · rename_i k ks
          by_cases c2 : (k :: ks).all (·.arg.isSome) = true
          · rw [if_pos c2]
            cases hk : d.kw x args.length (kwNames (k :: ks)) with
            | none => exact pe_dead
            | some ord => exact re_kw ok fo tk c.1 hg c2 hk (fun a _ => ihE a) fun k _ => ihE k.value
          · rw [if_neg c2]; exact pe_dead
    · rename_i o m apos args pos
      refine plain ?_ rfl
      cases hs : smtOf m with
      | none => exact pe_dead
      | some s =>
        show PE X _ (RE G W (if (apos.endLine == pos.line) && plainO o then smtM (ev F n d) s o args else fun _ _ => .stk))
        by_cases c : ((apos.endLine == pos.line) && plainO o) = true
        · rw [if_pos c]
          rw [Bool.and_eq_true] at c
          exact re_smt ok hs c.2 c.1 (ihE o) fun a _ => ihE a
        · rw [if_neg c]; exact pe_dead
    · rename_i elt tg it ifs sc pos
      exact plain (re_comp ok fo ihE fun X' G' W' ok' fo' tk' e => re_all n X' G' _ W' ok' fo' tk' e) rfl
    · exact dead fun _ _ => rfl
end AM
/-! AMk: statements: the machine, and what the model does. -/
namespace AM
open PySem PySem.Spec PyProof.Rows L2

/-- how a statement ends -/
inductive SR where
  | nx (ρ : AM.Env) (h : AH) | rt (v : AV) (h : AH) | bk (ρ : AM.Env) (h : AH) | ct (ρ : AM.Env) (h : AH)
  | exc (c : Str) (fs : List (Str × AV)) (ρ : AM.Env) (h : AH) | stk
def exM {α : Type} (r : Res α) (ρ : AM.Env) (k : α → AH → SR) : SR := match r with
  | .ok a h => k a h
  | .exc c fs h => .exc c fs ρ h
  | .stk => .stk
def SR.seq (r : SR) (k : AM.Env → AH → SR) : SR := match r with
  | .nx ρ h => k ρ h
  | .rt v h => .rt v h
  | .bk ρ h => .bk ρ h
  | .ct ρ h => .ct ρ h
  | .exc c fs ρ h => .exc c fs ρ h
  | .stk => .stk
def isCmp : Expr → Bool
  | .ListComp _ _ _ _ => true
  | .SetComp _ _ _ _ => true
  | .DictComp _ _ _ _ _ => true
  | _ => false
def isLst : Expr → Bool
  | .List _ _ => true
  | _ => false
def setF (o i v : AV) (h : AH) : Option AH := match o, i with
  | .ref n, .int k => (match h[n]? with
    | some (.lst xs) => (ixN xs.length k).map fun j => h.set n (.lst (xs.set j v))
    | _ => none)
  | _, _ => none
def tgs (f : Expr → AV → AM.Env → AH → SR) : List Expr → List AV → AM.Env → AH → SR
  | [], [], ρ, h => .nx ρ h
  | e :: es, v :: vs, ρ, h => if isStar e then .stk else (f e v ρ h).seq (tgs f es vs)
  | _, _, _, _ => .stk
/-- a target's meaning -/
def tgM (fe : Expr → ME) (d : DC) : Nat → Expr → AV → AM.Env → AH → SR
  | 0, _, _, _, _ => .stk
  | n + 1, e, v, ρ, h => match e with
    | .Name x _ => if locB d.sc x then (match idxOf x d.N with
      | some i => .nx (ρ.set i (some v)) h
      | none => .stk) else .stk
    | .Tuple es _ _ => (match v with
      | .tup xs => if Nat.beq xs.length es.length && plainAll es then tgs (tgM fe d n) es xs ρ h else .stk
      | _ => .stk)
    | .Subscript o i _ => if isSl i then .stk else exM (fe o ρ h) ρ fun ov h1 => exM (fe i ρ h1) ρ fun iv h2 => (match setF ov iv v h2 with
      | some h3 => .nx ρ h3
      | none => .stk)
    | _ => .stk
/-- a comprehension that is stored by the swap of its last steps -/
def lcSw (sc : Scope) (x : Str) (px p : Pos) (bs : Scope) : Bool := (match sc.names.lookup x with | some .local => true | _ => false) && (px.line == p.line) && !(bs.names.any fun (n, k) => n == x && (k == .local || k == .cell))
def blkM (f : Stmt → AM.Env → AH → SR) : List Stmt → AM.Env → AH → SR
  | [], ρ, h => .nx ρ h
  | s :: r, ρ, h => (f s ρ h).seq (blkM f r)
/-- a turn's end, then what comes -/
def forS (r : SR) (k : AM.Env → AH → SR) : SR := match r with
  | .nx ρ h => k ρ h
  | .ct ρ h => k ρ h
  | .bk ρ h => .nx ρ h
  | .rt v h => .rt v h
  | .exc c fs ρ h => .exc c fs ρ h
  | .stk => .stk
def forL (asg : AV → AM.Env → Option AM.Env) (body : AM.Env → AH → SR) : List AV → AM.Env → AH → SR
  | [], ρ, h => .nx ρ h
  | a :: r, ρ, h => match asg a ρ with
    | none => .stk
    | some ρ1 => forS (body ρ1 h) (forL asg body r)
def setN (d : DC) (x : Str) (m : ME) : AM.Env → AH → SR := fun ρ h => if locB d.sc x then (match idxOf x d.N with
  | some i => exM (m ρ h) ρ fun v h1 => .nx (ρ.set i (some v)) h1
  | none => .stk) else .stk
def augB : Operator → Bool
  | .Add => true
  | .Sub => true
  | _ => false
def augF (op : Operator) (v w : AV) : Option AV := match op, v, w with
  | .Add, .int i, .int j => some (.int (i + j))
  | .Sub, .int i, .int j => some (.int (i - j))
  | _, _, _ => none
/-- all statements -/
def exS (F : Str → OpN) : Nat → DC → Stmt → AM.Env → AH → SR
  | 0, _, _ => fun _ _ => .stk
  | n + 1, d, st => match st with
    | .Pass _ => fun ρ h => .nx ρ h
    | .Break _ => fun ρ h => .bk ρ h
    | .Continue _ => fun ρ h => .ct ρ h
    | .Return none _ => fun _ h => .rt .non h
    | .Return (some e) _ => fun ρ h => exM (ev F n d e ρ h) ρ fun v h1 => .rt v h1
    | .Expr e _ => if isCmp e then fun _ _ => .stk else fun ρ h => exM (ev F n d e ρ h) ρ fun _ h1 => .nx ρ h1
    | .If c a b _ => if isIf c then fun _ _ => .stk else fun ρ h => exM (tstM (ev F n d c) ρ h) ρ fun t h1 => if t then blkM (exS F n d) a ρ h1 else blkM (exS F n d) b ρ h1
    | .For tg it body [] _ => fun ρ h => exM (itM (ev F n d) d tg it ρ h) ρ fun xs h1 => forL (bindT d n tg) (blkM (exS F n d) body) xs ρ h1
    | .Assign [.Name x px] (.ListComp elt [⟨tg, it, ifs, 0⟩] sc p) _ => setN d x (compM (ev F n d) (ev F n { d with sc := sc }) d n elt tg it ifs sc)
    | .Assign [.Name x _] e _ => if isCmp e then fun _ _ => .stk else setN d x (ev F n d e)
    | .Assign [tg] e _ => if isCmp e || isStar tg || isLst tg || (isTup tg && isTup e) then fun _ _ => .stk else fun ρ h => exM (ev F n d e ρ h) ρ fun v h1 => tgM (ev F n d) d n tg v ρ h1
    | .AugAssign (.Name x _) op e _ => if locB d.sc x && augB op then (match idxOf x d.N with
      | some i => fun ρ h => (match ρ[i]? with
        | some (some v) => exM (ev F n d e ρ h) ρ fun w h1 => (match augF op v w with
          | some z => .nx (ρ.set i (some z)) h1
          | none => .stk)
        | _ => .stk)
      | none => fun _ _ => .stk) else fun _ _ => .stk
    | _ => fun _ _ => .stk

/-! ### what is wanted behind a statement -/
def PostS (G : Gh) (W : WX) (ι : List Addr) (H : Hp) (D : Ends) : SR → Prop
  | .nx ρ h => ∀ ι' H' σ', Ext ι H ι' H' → RH G ι' H' h → RS G ι' H' ρ σ' → D.nx σ' H'
  | .bk ρ h => ∀ ι' H' σ', Ext ι H ι' H' → RH G ι' H' h → RS G ι' H' ρ σ' → D.bk σ' H'
  | .ct ρ h => ∀ ι' H' σ', Ext ι H ι' H' → RH G ι' H' h → RS G ι' H' ρ σ' → D.ct σ' H'
  | .rt v h => ∀ ι' H' u, Ext ι H ι' H' → RH G ι' H' h → RV G ι' H' v u → D.rt u H'
  | .exc c fs ρ h => ∀ ι' H' σ' C d, Ext ι H ι' H' → RH G ι' H' h → RS G ι' H' ρ σ' → RX G ι' H' c fs C d → W (.ref C) d σ' H'
  | .stk => False
def RSt (G : Gh) (W : WX) (m : AM.Env → AH → SR) : TS := fun D σ H => ∃ ι ρ h, RH G ι H h ∧ RS G ι H ρ σ ∧ PostS G W ι H D (m ρ h)
section
variable {X : Cx} {G : Gh} {d : DC} {W : WX} {F : Str → OpN} {ι ι1 : List Addr} {H H1 : Hp} {D : Ends}
theorem PostS.ext (x : Ext ι H ι1 H1) {r : SR} (p : PostS G W ι H D r) : PostS G W ι1 H1 D r := by
  cases r with
  | nx ρ h => exact fun ι' H' σ' x' => p ι' H' σ' (x.trans x')
  | bk ρ h => exact fun ι' H' σ' x' => p ι' H' σ' (x.trans x')
  | ct ρ h => exact fun ι' H' σ' x' => p ι' H' σ' (x.trans x')
  | rt v h => exact fun ι' H' u x' => p ι' H' u (x.trans x')
  | exc c fs ρ h => exact fun ι' H' σ' C d x' => p ι' H' σ' C d (x.trans x')
  | stk => exact p
theorem PostS.ex {α β : Type} {R : List Addr → Hp → α → β → Prop} {r : Res α} {ρ : AM.Env} {σ : L2.St} {k : α → AH → SR} {Q : β → Hp → Prop} (p : PostS G W ι H D (exM r ρ k)) (rs : RS G ι H ρ σ)
    (kk : ∀ ι1 H1 a u h1, Ext ι H ι1 H1 → RH G ι1 H1 h1 → R ι1 H1 a u → PostS G W ι1 H1 D (k a h1) → Q u H1) : Post G R W σ ι H Q r := by
  cases r with
  | ok a h => exact fun ι' H' u x rh r => kk ι' H' a u h x rh r (PostS.ext x p)
  | exc c fs h => exact fun ι' H' C d x rh rx => p ι' H' σ C d x rh (rs.mono x) rx
  | stk => exact p
theorem PostS.sq {r : SR} {k : AM.Env → AH → SR} {N : L2.St → Hp → Prop} (p : PostS G W ι H D (r.seq k))
    (kk : ∀ ι1 H1 ρ1 σ1 h1, Ext ι H ι1 H1 → RH G ι1 H1 h1 → RS G ι1 H1 ρ1 σ1 → PostS G W ι1 H1 D (k ρ1 h1) → N σ1 H1) : PostS G W ι H { D with nx := N } r := by
  cases r with
  | nx ρ h => exact fun ι' H' σ' x rh rs => kk ι' H' ρ σ' h x rh rs (PostS.ext x p)
  | bk ρ h => exact p
  | ct ρ h => exact p
  | rt v h => exact p
  | exc c fs ρ h => exact p
  | stk => exact p
theorem PostS.nxt {ρ : AM.Env} {h : AH} {σ : L2.St} (p : PostS G W ι H D (.nx ρ h)) (rh : RH G ι H h) (rs : RS G ι H ρ σ) : D.nx σ H := p ι H σ Ext.refl rh rs
theorem rs_dead {st : Stmt} : PS X st (RSt G W fun _ _ => .stk) := ⟨fun pins s σ H D I ⟨_, _, _, _, _, p⟩ => p.elim⟩
theorem rss {f : Stmt → AM.Env → AH → SR} : ∀ sts : List Stmt, (∀ st ∈ sts, PS X st (RSt G W (f st))) → PSs X sts (RSt G W (blkM f sts))
  | [], _ => PSs_imp pss_nil fun D σ H ⟨ι, ρ, h, rh, rs, p⟩ => p.nxt rh rs
  | s :: r, hf => PSs_imp (pss_cons (hf s (List.mem_cons_self ..)) (rss r fun x hx => hf x (List.mem_cons_of_mem _ hx))) fun D σ H ⟨ι, ρ, h, rh, rs, p⟩ =>
      ⟨ι, ρ, h, rh, rs, p.sq fun ι1 H1 ρ1 σ1 h1 x rh1 rs1 p1 => ⟨ι1, ρ1, h1, rh1, rs1, p1⟩⟩
theorem sw_e {e : Expr} {t : Option Expr} {l : Nat} {env : PySem.Env} (h : ¬ isCmp e = true) : swapsWith e t l env = pure false := by
  cases e <;> first | rfl | exact absurd rfl h
theorem rs_ret {e : Expr} {m : ME} {pos : Pos} (he : PE X e (RE G W m)) : PS X (.Return (some e) pos) (RSt G W fun ρ h => exM (m ρ h) ρ fun v h1 => .rt v h1) :=
  PS_imp (ps_ret he) fun D σ H ⟨ι, ρ, h, rh, rs, p⟩ => ⟨ι, ρ, h, rh, rs, p.ex rs fun ι1 H1 a u h1 x rh1 r p1 => p1 ι1 H1 u Ext.refl rh1 r⟩
theorem rs_expr {e : Expr} {m : ME} {pos : Pos} (hc : ¬ isCmp e = true) (he : PE X e (RE G W m)) : PS X (.Expr e pos) (RSt G W fun ρ h => exM (m ρ h) ρ fun _ h1 => .nx ρ h1) :=
  PS_imp (ps_expr he (sw_e hc)) fun D σ H ⟨ι, ρ, h, rh, rs, p⟩ => ⟨ι, ρ, h, rh, rs, p.ex rs fun ι1 H1 a u h1 x rh1 r p1 => p1.nxt rh1 (rs.mono x)⟩
theorem rs_if {c : Expr} {mc : AM.Env → AH → Res Bool} {a b : List Stmt} {ma mb : AM.Env → AH → SR} {pos : Pos} (hc : PT X c (RTt G W mc)) (ha : PSs X a (RSt G W ma)) (hb : PSs X b (RSt G W mb)) :
    PS X (.If c a b pos) (RSt G W fun ρ h => exM (mc ρ h) ρ fun t h1 => if t then ma ρ h1 else mb ρ h1) :=
  PS_imp (ps_if hc ha hb) fun D σ H ⟨ι, ρ, h, rh, rs, p⟩ => ⟨ι, ρ, h, rh, rs, p.ex rs fun ι1 H1 t u h1 x rh1 r p1 => by
    have r : t = u := r
    subst r
    cases t with
    | true => exact iteT ⟨ι1, ρ, h1, rh1, rs.mono x, p1⟩
    | false => exact iteF ⟨ι1, ρ, h1, rh1, rs.mono x, p1⟩⟩
theorem rs_set (ok : XOk X G d) {x : Str} {e : Expr} {m : ME} {px pos : Pos} (hc : ¬ isCmp e = true) (he : PE X e (RE G W m)) : PS X (.Assign [.Name x px] e pos) (RSt G W (setN d x m)) := by
  by_cases c : locB d.sc x = true
  · cases q : idxOf x d.N with
    | none => exact PS_imp (rs_dead (G := G) (W := W)) fun D σ H ⟨ι, ρ, h, rh, rs, p⟩ => ⟨ι, ρ, h, rh, rs, by
        unfold setN at p
        rw [if_pos c, q] at p
        exact p⟩
    | some i =>
      obtain ⟨hl, hf⟩ := ok.loc x c
      refine PS_imp (ps_set (i := i) (by rw [ok.N]; exact ok.nd) (by rw [ok.N]; exact idxOf_ok q) hl he (sw_e hc) hf) fun D σ H ⟨ι, ρ, h, rh, rs, p⟩ => ⟨ι, ρ, h, rh, rs, ?_⟩
      unfold setN at p
      rw [if_pos c, q] at p
      have p : PostS G W ι H D (exM (m ρ h) ρ fun v h1 => .nx (ρ.set i (some v)) h1) := p
      exact p.ex rs fun ι1 H1 a u h1 x1 rh1 r p1 => p1.nxt rh1 ((rs.mono x1).set r)
  · exact PS_imp (rs_dead (G := G) (W := W)) fun D σ H ⟨ι, ρ, h, rh, rs, p⟩ => ⟨ι, ρ, h, rh, rs, by
      unfold setN at p
      rw [if_neg c] at p
      exact p⟩
/-! ### targets -/
def RGt (G : Gh) (W : WX) (m : AV → AM.Env → AH → SR) : TG := fun v σ H Q => ∃ ι ρ h a, ∃ D : Ends, RH G ι H h ∧ RS G ι H ρ σ ∧ RV G ι H a v ∧ PostS G W ι H { D with nx := Q } (m a ρ h)
def RGts (G : Gh) (W : WX) (m : List AV → AM.Env → AH → SR) : TGs := fun v σ H Q => ∃ ι ρ h a, ∃ D : Ends, RH G ι H h ∧ RS G ι H ρ σ ∧ RVs G ι H a v ∧ PostS G W ι H { D with nx := Q } (m a ρ h)
theorem pgt_dead {e : Expr} : PG X e (RGt G W fun _ _ _ => .stk) := ⟨fun pins s σ H v u Q I r ⟨_, _, _, _, _, _, _, _, p⟩ => p.elim⟩
theorem rgt_all {f : Expr → AV → AM.Env → AH → SR} : ∀ es : List Expr, (∀ e ∈ es, isStar e = false) → (∀ e ∈ es, PG X e (RGt G W (f e))) → PGs X es (RGts G W (tgs f es))
  | [], _, _ => PGs_imp pgs_nil fun v σ H Q ⟨ι, ρ, h, a, D, rh, rs, rv, p⟩ => by
      cases a with
      | nil =>
        cases rv
        exact ⟨rfl, PostS.nxt (ρ := ρ) (h := h) p rh rs⟩
      | cons _ _ => exact False.elim p
  | t :: es, hs, hf => by
    have he := hf t (List.mem_cons_self ..)
    have ht := rgt_all es (fun x hx => hs x (List.mem_cons_of_mem _ hx)) fun x hx => hf x (List.mem_cons_of_mem _ hx)
    refine PGs_imp (pgs_cons he ht (asE_plain (hs t (List.mem_cons_self ..))).1) fun v σ H Q ⟨ι, ρ, h, a, D, rh, rs, rv, p⟩ => ?_
    cases a with
    | nil => exact False.elim p
    | cons x xs =>
      cases rv with
      | @cons _ v1 _ vr r1 r2 =>
        unfold tgs at p
        rw [if_neg (by rw [hs t (List.mem_cons_self ..)]; exact Bool.false_ne_true)] at p
        exact ⟨v1, vr, rfl, ι, ρ, h, x, D, rh, rs, r1, p.sq fun ι1 H1 ρ1 σ1 h1 x1 rh1 rs1 p1 => ⟨ι1, ρ1, h1, xs, D, rh1, rs1, r2.mono x1, p1⟩⟩
theorem set_ok {o i v : AV} {h h3 : AH} {uo ui uv : V} {Q : Hp → Prop} (rh : RH G ι H h) (ro : RV G ι H o uo) (ri : RV G ι H i ui) (rv : RV G ι H v uv) (e : setF o i v h = some h3)
    (k : ∀ H', Ext ι H ι H' → RH G ι H' h3 → Q H') : rSetL uo ui uv H Q := by
  unfold setF at e
  split at e
  · rename_i n j
    split at e
    · rename_i xs q
      obtain ⟨m, e1, rfl⟩ := Option.map_eq_some_iff.mp e
      obtain ⟨a, vs, rfl, hi, hH, rr⟩ := refLst rh ro q
      rw [inv_int ri]
      refine ⟨a, vs, j, m, rfl, rfl, hH, by rw [← rr.length]; exact e1, k _ (Ext.write hi) (rh.write hi ⟨_, rfl, rr.set rv m⟩)⟩
    · cases e
  · cases e
theorem rgt (ok : XOk X G d) {fe : Expr → ME} (hfe : ∀ e, PE X e (RE G W (fe e))) : ∀ (n : Nat) (e : Expr), PG X e (RGt G W (tgM fe d n e))
  | 0, e => PG_imp (pgt_dead (G := G) (W := W)) fun v σ H Q ⟨_, _, _, _, _, _, _, _, p⟩ => False.elim p
  | n + 1, e => by
    have dead : ∀ {e : Expr} {m : AV → AM.Env → AH → SR}, (∀ a ρ h, m a ρ h = .stk) → PG X e (RGt G W m) := fun hm => PG_imp (pgt_dead (G := G) (W := W)) fun v σ H Q ⟨_, _, _, _, _, _, _, _, p⟩ => by
      rw [hm] at p
      exact p.elim
    cases e with
    | Name x pos =>
      by_cases c : locB d.sc x = true
      · cases q : idxOf x d.N with
        | none =>
          exact dead fun a ρ h => by
            show (if locB d.sc x then (match idxOf x d.N with | some i => .nx (ρ.set i (some a)) h | none => .stk) else .stk) = SR.stk
            rw [if_pos c, q]
        | some i =>
          obtain ⟨hl, hf⟩ := ok.loc x c
          refine PG_imp (pg_name (i := i) (by rw [ok.N]; exact ok.nd) (by rw [ok.N]; exact idxOf_ok q) hl hf) fun v σ H Q ⟨ι, ρ, h, a, D, rh, rs, rv, p⟩ => ?_
          have p : PostS G W ι H { D with nx := Q } (if locB d.sc x then (match idxOf x d.N with | some i => .nx (ρ.set i (some a)) h | none => .stk) else .stk) := p
          rw [if_pos c, q] at p
          exact PostS.nxt (ρ := ρ.set i (some a)) (h := h) p rh (rs.set rv)
      · exact dead fun a ρ h => by
          show (if locB d.sc x then (match idxOf x d.N with | some i => .nx (ρ.set i (some a)) h | none => .stk) else .stk) = SR.stk
          rw [if_neg c]
    | Tuple es k pos =>
      by_cases c : plainAll es = true
      · have c1 := plainAll_ok c
        have hs := rgt_all (X := X) (G := G) (W := W) (f := tgM fe d n) es c1 fun e _ => rgt ok hfe n e
        refine PG_imp (pg_tup (n := es.length) ok.calm hs (asE_len es) (asE_none c1)) fun v σ H Q ⟨ι, ρ, h, a, D, rh, rs, rv, p⟩ => ?_
        cases a with
        | tup xs =>
          have p : PostS G W ι H { D with nx := Q } (if Nat.beq xs.length es.length && plainAll es then tgs (tgM fe d n) es xs ρ h else .stk) := p
          by_cases c2 : (Nat.beq xs.length es.length && plainAll es) = true
          · rw [if_pos c2] at p
            rw [Bool.and_eq_true] at c2
            cases rv with
            | @tup _ b vs t q =>
              exact ⟨b, vs, rfl, by rw [ok.K]; exact t.sq, by rw [← q.length]; exact Nat.eq_of_beq_eq_true c2.1, ι, ρ, h, xs, D, rh, rs, q, p⟩
          · rw [if_neg c2] at p
            exact p.elim
        | _ => exact False.elim p
      · exact dead fun a ρ h => by
          cases a with
          | tup xs =>
            show (if Nat.beq xs.length es.length && plainAll es then tgs (tgM fe d n) es xs ρ h else .stk) = SR.stk
            rw [if_neg (by rw [Bool.and_eq_true]; exact fun z => c z.2)]
          | _ => rfl
    | Subscript o i pos =>
      by_cases c : isSl i = true
      · exact dead fun a ρ h => by
          show (if isSl i then .stk else exM (fe o ρ h) ρ _) = SR.stk
          rw [if_pos c]
      · refine PG_imp (pg_sub (hfe o) (hfe i) set_list (fun v => by cases i <;> first | rfl | exact absurd rfl c)) fun v σ H Q ⟨ι, ρ, h, a, D, rh, rs, rv, p⟩ => ?_
        have p : PostS G W ι H { D with nx := Q } (if isSl i then .stk else exM (fe o ρ h) ρ fun ov h1 => exM (fe i ρ h1) ρ fun iv h2 => (match setF ov iv a h2 with | some h3 => .nx ρ h3 | none => .stk)) := p
        rw [if_neg c] at p
        refine ⟨ι, ρ, h, rh, rs, p.ex rs fun ι1 H1 ov uo h1 x1 rh1 ro p1 => ⟨ι1, ρ, h1, rh1, rs.mono x1, p1.ex (rs.mono x1) fun ι2 H2 iv ui h2 x2 rh2 ri p2 => ?_⟩⟩
        cases q : setF ov iv a h2 with
        | none => rw [q] at p2; exact p2.elim
        | some h3 =>
          rw [q] at p2
          exact set_ok rh2 (ro.mono x2) ri ((rv.mono x1).mono x2) q fun H3 x3 rh3 => p2 ι2 H3 σ x3 rh3 (((rs.mono x1).mono x2).mono x3)
    | _ => exact dead fun _ _ _ => rfl
/-! ### for -/
theorem rs_for (ok : XOk X G d) (hp : PassesOwn (model X.prog X.w) X.A X.env X.xe) {f : Expr → ME} {n : Nat} {tg it : Expr} {body : List Stmt} {mb : AM.Env → AH → SR} {pos : Pos} (hf : ∀ e, PE X e (RE G W (f e))) (hb : PSs X body (RSt G W mb)) :
    PS X (.For tg it body [] pos) (RSt G W fun ρ h => exM (itM f d tg it ρ h) ρ fun xs h1 => forL (bindT d n tg) mb xs ρ h1) := by
  by_cases cs : isSet it = true
  · refine PS_imp (rs_dead (G := G) (W := W)) fun D σ H ⟨ι, ρ, h, rh, rs, p⟩ => ⟨ι, ρ, h, rh, rs, ?_⟩
    unfold itM at p
    rw [if_pos cs] at p
    exact p
  refine PS_imp (ps_for hp ok.calm (pi_it ok it hf) (rg_bind ok n tg) hb (notSet cs)) fun D σ H ⟨ι, ρ, h, rh, rs, p⟩ => ⟨ι, ρ, h, rh, rs, p.ex rs fun ι1 H1 xs J h1 x1 rh1 wk p1 => ?_⟩
  refine for_it (g := RG G (tslots d n tg) (bindT d n tg)) (tb := RSt G W mb) (D := D) (wlk wk) (fun i σ' H' => ∃ ι' ρ' h', Ext ι1 H1 ι' H' ∧ RH G ι' H' h' ∧ RS G ι' H' ρ' σ' ∧ PostS G W ι1 H1 D (forL (bindT d n tg) mb (xs.drop i) ρ' h')) ?_ ?_ ?_ ?_
  · exact ⟨ι1, ρ, h1, Ext.refl, rh1, rs.mono x1, by rw [List.drop_zero]; exact p1⟩
  · rintro i σ' H' _ ⟨ι', ρ', h', x, _⟩
    exact ⟨ι', x⟩
  · rintro i x σ' H' H2 hi ⟨ι', ρ', h', xx, rh', rs', p2⟩ y
    have e0 : xs[i]? = some xs[i] := List.getElem?_eq_getElem hi
    obtain ⟨x2, rh2, rv2⟩ := wk.yields G.hid (fun b hb => .inl hb) i ι' H' h' xs[i] x H2 xx rh' e0 y
    have rh2 : RH G ι' H2 h' := rh2
    have rv2 : RV G ι' H2 xs[i] x := rv2
    rw [List.drop_eq_getElem_cons hi] at p2
    unfold forL at p2
    cases qa : bindT d n tg xs[i] ρ' with
    | none => rw [qa] at p2; exact p2.elim
    | some ρ1 =>
      rw [qa] at p2
      have p2 : PostS G W ι1 H1 D (forS (mb ρ1 h') (forL (bindT d n tg) mb (xs.drop (i + 1)))) := p2
      refine ⟨ι', ρ', xs[i], ρ1, rs'.mono x2, rv2, qa, fun σ2 o rs2 => ⟨ι', ρ1, h', rh2, rs2, ?_⟩⟩
      cases qb : mb ρ1 h' with
      | nx ρ2 h2 =>
        rw [qb] at p2
        exact fun ι3 H3 σ3 x3 rh3 rs3 => ⟨ι3, ρ2, h2, xx.trans (x2.trans x3), rh3, rs3, p2⟩
      | ct ρ2 h2 =>
        rw [qb] at p2
        exact fun ι3 H3 σ3 x3 rh3 rs3 => ⟨ι3, ρ2, h2, xx.trans (x2.trans x3), rh3, rs3, p2⟩
      | bk ρ2 h2 =>
        rw [qb] at p2
        exact fun ι3 H3 σ3 x3 rh3 rs3 => p2 ι3 H3 σ3 (xx.trans (x2.trans x3)) rh3 rs3
      | rt v h2 =>
        rw [qb] at p2
        exact fun ι3 H3 u x3 rh3 rv3 => p2 ι3 H3 u (xx.trans (x2.trans x3)) rh3 rv3
      | exc c fs ρ2 h2 =>
        rw [qb] at p2
        exact fun ι3 H3 σ3 C dd x3 rh3 rs3 rx => p2 ι3 H3 σ3 C dd (xx.trans (x2.trans x3)) rh3 rs3 rx
      | stk => rw [qb] at p2; exact p2.elim
  · rintro σ' H' ⟨ι', ρ', h', xx, rh', rs', p2⟩
    rw [List.drop_length] at p2
    exact p2 ι' H' σ' xx rh' rs'
end
end AM
/-! AMl: all statements. -/
namespace AM
open PySem PySem.Spec PyProof.Rows L2

/-- a def's own block -/
structure SOk (X : Cx) (d : DC) : Prop where
  sc : X.env.scope = d.sc
  kind : d.sc.kind = .function
  pass : PassesOwn (model X.prog X.w) X.A X.env X.xe
section
variable {X : Cx} {G : Gh} {d : DC} {W : WX} {F : Str → OpN}
theorem rs_deadM {st : Stmt} {m : AM.Env → AH → SR} (hm : ∀ ρ h, m ρ h = .stk) : PS X st (RSt G W m) := ⟨fun pins s σ H D I ⟨ι, ρ, h, _, _, p⟩ => by
  rw [hm] at p
  exact p.elim⟩
theorem setN_inv {x : Str} {m : ME} (hc : ¬ ∃ i, locB d.sc x = true ∧ idxOf x d.N = some i) : ∀ ρ h, setN d x m ρ h = .stk := fun ρ h => by
  unfold setN
  by_cases c : locB d.sc x = true
  · rw [if_pos c]
    cases q : idxOf x d.N with
    | none => rfl
    | some i => exact absurd ⟨i, c, q⟩ hc
  · rw [if_neg c]
theorem tAsg_imp {x : Str} {i : Nat} {m : ME} {te : TE} (h1 : locB d.sc x = true) (h2 : idxOf x d.N = some i) (hi : ∀ σ H Q, RE G W m σ H Q → te σ H Q) : ∀ D σ H, RSt G W (setN d x m) D σ H → tAsg te (gName i) D σ H := fun D σ H ⟨ι, ρ, h, rh, rs, p⟩ => by
  refine hi σ H _ ⟨ι, ρ, h, rh, rs, ?_⟩
  unfold setN at p
  rw [if_pos h1, h2] at p
  have p : PostS G W ι H D (exM (m ρ h) ρ fun v h1 => .nx (ρ.set i (some v)) h1) := p
  exact p.ex rs fun ι1 H1 a u h1 x1 rh1 r p1 => p1.nxt rh1 ((rs.mono x1).set r)
theorem rs_setLc (ok : XOk X G d) (so : SOk X d) (fo : FOk X G d F) {f fi : Expr → ME} {n : Nat} {x : Str} {px spos : Pos} {elt tg it : Expr} {ifs : List Expr} {sc : Scope} {pos : Pos} (hf : ∀ e, PE X e (RE G W (f e)))
    (hi : ∀ X' G' W', XOk X' G' { d with sc := sc } → FOk X' G' { d with sc := sc } F → Takes X' W' → ∀ e, PE X' e (RE G' W' (fi e)) ∧ (isIf e = false → PT X' e (RTt G' W' (tstM (fi e))))) :
    PS X (.Assign [.Name x px] (.ListComp elt [⟨tg, it, ifs, 0⟩] sc pos) spos) (RSt G W (setN d x (compM f fi d n elt tg it ifs sc))) := by
  by_cases c0 : ¬ ∃ i, locB d.sc x = true ∧ idxOf x d.N = some i
  · exact rs_deadM (setN_inv c0)
  have c0 : ∃ i, locB d.sc x = true ∧ idxOf x d.N = some i := by simpa using c0
  obtain ⟨i, c1, c2⟩ := c0
  obtain ⟨hl, hfn⟩ := ok.loc x c1
  have hN : X.N.Nodup := by rw [ok.N]; exact ok.nd
  have hi' : X.N[i]? = some x := by rw [ok.N]; exact idxOf_ok c2
  by_cases csw : lcSw d.sc x px pos sc = true
  · unfold lcSw at csw
    rw [Bool.and_eq_true, Bool.and_eq_true] at csw
    obtain ⟨⟨s1, s2⟩, s3⟩ := csw
    have s1 : X.env.scope.names.lookup x = some .local := by
      rw [so.sc]
      split at s1
      · assumption
      · cases s1
    by_cases c : (blkC d.N d.sc sc (ownOf d.N sc) && subB (tslots { d with sc := sc } n tg) ((ownOf d.N sc).map (·.2))) = true
    · by_cases cs : isSet it = true
      · refine rs_deadM fun ρ h => ?_
        unfold setN
        rw [if_pos c1, c2]
        show exM (compM f fi d n elt tg it ifs sc ρ h) ρ _ = .stk
        unfold compM
        rw [if_pos c]
        unfold itM
        rw [if_pos cs]
        rfl
      have e1 : compM f fi d n elt tg it ifs sc = fun ρ h => (itM f d tg it ρ h).bind fun xs h1 => (compL (bindT { d with sc := sc } n tg) (testsM fi ifs) (fi elt) (wipeA ρ ((ownOf d.N sc).map (·.2))) xs [] h1).bind fun ys h2 => .ok (.lst ys) h2 := by
        funext ρ h
        unfold compM
        rw [if_pos c]
      rw [e1]
      rw [Bool.and_eq_true] at c
      have bk : BlkOk X.N X.env.scope sc (ownOf d.N sc) := by
        rw [ok.N]
        exact BlkOk.moved (blkOk_by c.1) ok.cf
      exact PS_imp (ps_setLc ok.calm hN hi' s1 (sw_true (by rw [so.sc]; exact so.kind) s1 s2 (by simpa using s3)) (pi_it ok it hf) bk
        (fun s H C cl fp => PG_ex fun l => rg_bind (ok.hide l).blk n tg)
        (fun s H C cl fp => PTs_ex fun l => pts_tests (fun e he => (hi _ _ W0 (ok.hide l).blk (fo.hide l).blk takes0 e).2 he))
        (fun s H C cl fp => PE_ex fun l => (hi _ _ W0 (ok.hide l).blk (fo.hide l).blk takes0 elt).1)
        (notSet cs)) (tAsg_imp c1 c2 (comp_imp (subB_ok c.2)))
    · refine rs_deadM fun ρ h => ?_
      unfold setN
      rw [if_pos c1, c2]
      show exM (compM f fi d n elt tg it ifs sc ρ h) ρ _ = .stk
      unfold compM
      rw [if_neg c]
      rfl
  · have hs : swapsWith (.ListComp elt [⟨tg, it, ifs, 0⟩] sc pos) (some (.Name x px)) spos.line X.env = pure false := by
      have hb : X.env.blockKind = .function := by unfold Env.blockKind; rw [so.sc, so.kind]; rfl
      have hk : X.env.kindOf x = d.sc.names.lookup x := by unfold Env.kindOf; rw [so.sc]
      unfold swapsWith
      simp only [hb, hk, Expr.pos]
      have e : (ScopeKind.function == ScopeKind.function && d.sc.names.lookup x == some NameKind.local && px.line == pos.line && !(sc.names.any fun (n, k) => n == x && (k == .local || k == .cell))) = false := by
        unfold lcSw at csw
        cases q : d.sc.names.lookup x with
        | none => rfl
        | some k =>
          rw [q] at csw
          cases k with
          | «local» =>
            exact Bool.eq_false_iff.mpr csw
          | _ => rfl
      exact congrArg pure e
    exact PS_imp (ps_set (i := i) hN hi' hl (re_comp ok fo hf hi) hs hfn) (tAsg_imp c1 c2 fun _ _ _ z => z)
theorem rs_aug (ok : XOk X G d) {x : Str} {i : Nat} {op : Operator} {e : Expr} {m : ME} {px pos : Pos} (c1 : locB d.sc x = true) (c2 : idxOf x d.N = some i) (hb : augB op = true) (he : PE X e (RE G W m)) :
    PS X (.AugAssign (.Name x px) op e pos) (RSt G W fun ρ h => (match ρ[i]? with
        | some (some v) => exM (m ρ h) ρ fun w h1 => (match augF op v w with
          | some z => .nx (ρ.set i (some z)) h1
          | none => .stk)
        | _ => .stk)) := by
  obtain ⟨hl, hfn⟩ := ok.loc x c1
  have hN : X.N.Nodup := by rw [ok.N]; exact ok.nd
  have hi' : X.N[i]? = some x := by rw [ok.N]; exact idxOf_ok c2
  have main : ∀ {g : Int → Int → Int}, PIp X op (ipI g) → (∀ v w z, augF op v w = some z → ∃ a b, v = .int a ∧ w = .int b ∧ z = .int (g a b)) →
      PS X (.AugAssign (.Name x px) op e pos) (RSt G W fun ρ h => (match ρ[i]? with
        | some (some v) => exM (m ρ h) ρ fun w h1 => (match augF op v w with
          | some z => .nx (ρ.set i (some z)) h1
          | none => .stk)
        | _ => .stk)) := fun ip inv => by
    refine PS_imp (ps_aug (i := i) hN hi' hl he ip hfn) fun D σ H ⟨ι, ρ, h, rh, rs, p⟩ => ?_
    have p : PostS G W ι H D (match ρ[i]? with
        | some (some v) => exM (m ρ h) ρ fun w h1 => (match augF op v w with
          | some z => .nx (ρ.set i (some z)) h1
          | none => .stk)
        | _ => .stk) := p
    split at p
    · rename_i v q
      obtain ⟨u, e1, r⟩ := rs.2 i v q
      refine ⟨u, e1, ι, ρ, h, rh, rs, p.ex rs fun ι1 H1 w uw h1 x1 rh1 rw1 p1 => ?_⟩
      cases q2 : augF op v w with
      | none => rw [q2] at p1; exact p1.elim
      | some z =>
        rw [q2] at p1
        obtain ⟨a, b, rfl, rfl, rfl⟩ := inv _ _ _ q2
        rw [inv_int r, inv_int rw1]
        exact ⟨a, b, rfl, rfl, p1.nxt rh1 ((rs.mono x1).set (.int _))⟩
    · exact p.elim
  cases op with
  | Add =>
    exact main ip_add fun v w z e => by
      cases v <;> cases w <;> first | (cases e; exact ⟨_, _, rfl, rfl, rfl⟩) | cases e
  | Sub =>
    exact main ip_sub fun v w z e => by
      cases v <;> cases w <;> first | (cases e; exact ⟨_, _, rfl, rfl, rfl⟩) | cases e
  | _ => cases hb
theorem sws_e {e tg : Expr} {l : Nat} {env : PySem.Env} (h : ¬ isCmp e = true) : swapsWithSole [tg] e l env = pure false := sw_e h
theorem sst_e {e tg : Expr} {env : PySem.Env} (h : ¬ (isTup tg && isTup e) = true) (hl : ∀ es p, tg ≠ .List es p) : swappedStores [tg] e env = pure none := by
  cases tg with
  | Tuple es k p => cases e <;> first | rfl | exact absurd rfl h
  | List es p => exact absurd rfl (hl es p)
  | _ => rfl
theorem rs_asg (ok : XOk X G d) {tg e : Expr} {m : ME} {fe : Expr → ME} {n : Nat} {pos : Pos} (h1 : ¬ isCmp e = true) (h2 : ¬ isStar tg = true) (h4 : ¬ isLst tg = true) (h3 : ¬ (isTup tg && isTup e) = true) (he : PE X e (RE G W m)) (hfe : ∀ e, PE X e (RE G W (fe e))) :
    PS X (.Assign [tg] e pos) (RSt G W fun ρ h => exM (m ρ h) ρ fun v h1 => tgM fe d n tg v ρ h1) := by
  have hl : ∀ es p, tg ≠ .List es p := fun es p z => h4 (by rw [z]; rfl)
  exact PS_imp (ps_asg he (rgt ok hfe n tg) (sws_e h1) (sst_e h3 hl) (by rw [(asE_plain (by simpa using h2)).1]; rfl)) fun D σ H ⟨ι, ρ, h, rh, rs, p⟩ => ⟨ι, ρ, h, rh, rs, p.ex rs fun ι1 H1 a u h1 x1 rh1 r p1 =>
      ⟨ι1, ρ, h1, a, D, rh1, rs.mono x1, r, p1⟩⟩
end
/-- the meaning of every statement -/
theorem rs_all {F : Str → OpN} : ∀ (n : Nat) (X : Cx) (G : Gh) (d : DC) (W : WX), XOk X G d → SOk X d → FOk X G d F → Takes X W → ∀ st, PS X st (RSt G W (exS F n d st))
  | 0, X, G, d, W, ok, so, fo, tk, st => rs_deadM fun _ _ => rfl
  | n + 1, X, G, d, W, ok, so, fo, tk, st => by
    have ih := rs_all n X G d W ok so fo tk
    have hE : ∀ e, PE X e (RE G W (ev F n d e)) := fun e => (re_all n X G d W ok fo tk e).1
    have hT : ∀ e, isIf e = false → PT X e (RTt G W (tstM (ev F n d e))) := fun e => (re_all n X G d W ok fo tk e).2
    have hB : ∀ sts, PSs X sts (RSt G W (blkM (exS F n d) sts)) := fun sts => rss sts fun st _ => ih st
    unfold exS
    split
    · exact PS_imp ps_pass fun D σ H ⟨ι, ρ, h, rh, rs, p⟩ => PostS.nxt (ρ := ρ) (h := h) p rh rs
    · exact PS_imp ps_break fun D σ H ⟨ι, ρ, h, rh, rs, p⟩ => p ι H σ Ext.refl rh rs
    · exact PS_imp ps_continue fun D σ H ⟨ι, ρ, h, rh, rs, p⟩ => p ι H σ Ext.refl rh rs
    · exact PS_imp ps_retN fun D σ H ⟨ι, ρ, h, rh, rs, p⟩ => p ι H .non Ext.refl rh .non
    · exact rs_ret (hE _)
    · rename_i e pos
      by_cases c : isCmp e = true
      · rw [if_pos c]; exact rs_dead
      · rw [if_neg c]; exact rs_expr c (hE e)
    · rename_i c' a b pos
      by_cases c : isIf c' = true
      · rw [if_pos c]; exact rs_dead
      · rw [if_neg c]; exact rs_if (hT c' (by simpa using c)) (hB a) (hB b)
    · rename_i tg it body pos
      exact rs_for ok so.pass hE (hB body)
    · exact rs_setLc ok so fo hE fun X' G' W' ok' fo' tk' e => re_all n X' G' _ W' ok' fo' tk' e
    · rename_i x px e pos _
      by_cases c : isCmp e = true
      · rw [if_pos c]; exact rs_dead
      · rw [if_neg c]; exact rs_set ok c (hE e)
    · rename_i tg e pos _ _
      by_cases c : (isCmp e || isStar tg || isLst tg || (isTup tg && isTup e)) = true
      · rw [if_pos c]; exact rs_dead
      · rw [if_neg c]
        rw [Bool.or_eq_true, Bool.or_eq_true, Bool.or_eq_true, not_or, not_or, not_or] at c
        exact rs_asg ok c.1.1.1 c.1.1.2 c.1.2 c.2 (hE e) hE
    · rename_i x px op e pos
      by_cases c : (locB d.sc x && augB op) = true
      · rw [if_pos c]
        rw [Bool.and_eq_true] at c
        cases q : idxOf x d.N with
        | none => exact rs_dead
        | some i => exact rs_aug ok c.1 q c.2 (hE e)
      · rw [if_neg c]; exact rs_dead
    · exact rs_dead
end AM
/-! AMm: defs. -/
namespace AM
open PySem PySem.Spec PyProof.Rows L2

/-- a def: hp: which list displays are the machine's own objects; fuel: how deep its text may be -/
structure FD where
  name : Str
  qual : Str
  params : Arguments
  ps : List Str
  N : List Str
  body : List Stmt
  sc : Scope
  hp : Pos → Bool
  fuel : Nat
/-- a call with keywords: the def, how many values ahead, the keywords, which of all these each parameter takes -/
structure KwE where
  x : Str
  n : Nat
  ks : List Str
  ord : List Nat
def kwOf : List KwE → Str → Nat → List Str → Option (List Nat)
  | [], _, _, _ => none
  | e :: r, x, n, ks => if e.x = x ∧ e.n = n ∧ e.ks = ks then some e.ord else kwOf r x n ks
theorem kwOf_ok : ∀ {l : List KwE} {x : Str} {n : Nat} {ks : List Str} {ord : List Nat}, kwOf l x n ks = some ord → ∃ e ∈ l, e.x = x ∧ e.n = n ∧ e.ks = ks ∧ e.ord = ord
  | [], _, _, _, _, h => by cases h
  | e :: r, x, n, ks, ord, h => by
    unfold kwOf at h
    by_cases c : e.x = x ∧ e.n = n ∧ e.ks = ks
    · rw [if_pos c] at h
      cases h
      exact ⟨e, List.mem_cons_self .., c.1, c.2.1, c.2.2, rfl⟩
    · rw [if_neg c] at h
      obtain ⟨e', h1, h2⟩ := kwOf_ok h
      exact ⟨e', List.mem_cons_of_mem _ h1, h2⟩
/-- a module -/
structure Tab where
  defs : List FD
  glob : Str → Option AV
  free : Str → Bool
  kws : List KwE
def findF : List FD → Str → Option FD
  | [], _ => none
  | f :: r, x => if f.name = x then some f else findF r x
def dcOf (T : Tab) (f : FD) : DC := ⟨f.N, f.sc, T.glob, T.free, fun x => (findF T.defs x).map (·.ps), kwOf T.kws, f.hp⟩
def startA (N : List Str) (avs : List AV) : AM.Env := avs.map some ++ List.replicate (N.length - avs.length) none
def finR : SR → Res AV
  | .rt v h => .ok v h
  | .nx _ h => .ok .non h
  | .exc c fs _ h => .exc c fs h
  | _ => .stk
/-- what a def does, k calls deep -/
def runF (T : Tab) : Nat → Str → OpN
  | 0, _ => fun _ _ => .stk
  | k + 1, x => match findF T.defs x with
    | none => fun _ _ => .stk
    | some f => fun avs h => finR (blkM (exS (runF T k) f.fuel (dcOf T f)) f.body (startA f.N avs) h)
/-- how a def stands in the written part -/
structure At (T : Tab) (K : PySem.W.Frag) (mg : Str → Option Value) (x : Str) (f : FD) (fa : Addr) (fd : FuncData) : Prop where
  fn : FunD K f.name f.qual f.params f.body f.sc [] [] fa fd
  mg : mg x = some (.ref fa)
  sc : FnScope f.N f.ps f.sc
  binds : Binds K fd f.ps []
  kw : ∀ e ∈ T.kws, e.x = x → (∀ i ∈ e.ord, i < e.n + e.ks.length) ∧ e.ord.length = f.ps.length ∧ ∀ (s : Shared) (us ws : List Value), us.length = e.n → ws.length = e.ks.length → BindsTo s fd ⟨us, e.ks.zip ws⟩ (f.ps.zip (pick e.ord (us ++ ws)))
structure Facts (T : Tab) (G : Gh) (mg : Str → Option Value) : Prop where
  at_ : ∀ x f, findF T.defs x = some f → ∃ fa fd, At T G.K mg x f fa fd
  kw : ∀ e ∈ T.kws, ∃ f, findF T.defs e.x = some f
  glob : ∀ x v, T.glob x = some v → ∃ (u : Value) (w : V), mg x = some u ∧ RelV w u ∧ ∀ l ι H, RV (G.hide l) ι H v w
  free : ∀ x, T.free x = true → mg x = none
theorem rs_start {G : Gh} {ι : List Addr} {H : Hp} {N : List Str} {avs : List AV} {vs : List V} (r : RVs G ι H avs vs) : RS G ι H (startA N avs) (L2.start N vs) := by
  unfold startA L2.start
  refine ⟨by simp [r.length], fun i v e => ?_⟩
  by_cases h : i < avs.length
  · rw [List.getElem?_append_left (by simpa using h), List.getElem?_map] at e
    rw [List.getElem?_append_left (by simpa [← r.length] using h), List.getElem?_map]
    cases q : avs[i]? with
    | none => rw [q] at e; cases e
    | some x =>
      rw [q] at e
      cases e
      obtain ⟨u, e1, rv⟩ := r.get q
      rw [e1]
      exact ⟨u, rfl, rv⟩
  · rw [List.getElem?_append_right (by simpa using h), List.getElem?_replicate] at e
    split at e <;> cases e
theorem finR_post {G : Gh} {ι : List Addr} {H : Hp} {W : WX} {σ0 : L2.St} {Q : VK} {r : SR} (hW : ∀ C d σ σ' H, W C d σ H → W C d σ' H) (p : Post G (RV G) W σ0 ι H Q (finR r)) : PostS G W ι H { nx := fun _ H' => Q .non H', rt := Q } r := by
  cases r with
  | nx ρ h => exact fun ι' H' σ' x rh rs => p ι' H' .non x rh .non
  | rt v h => exact p
  | exc c fs ρ h => exact fun ι' H' σ' C d x rh rs rx => hW _ _ _ _ _ (p ι' H' C d x rh rx)
  | bk ρ h => exact p.elim
  | ct ρ h => exact p.elim
  | stk => exact p.elim
theorem findF_ok : ∀ {l : List FD} {x : Str} {f : FD}, findF l x = some f → f ∈ l ∧ f.name = x
  | [], _, _, h => by cases h
  | g :: r, x, f, h => by
    unfold findF at h
    by_cases c : g.name = x
    · rw [if_pos c] at h
      cases h
      exact ⟨List.mem_cons_self .., c⟩
    · rw [if_neg c] at h
      exact ⟨List.mem_cons_of_mem _ (findF_ok h).1, (findF_ok h).2⟩
theorem at_all {T : Tab} {K : PySem.W.Frag} {mg : Str → Option Value} (h : ∀ f ∈ T.defs, ∃ fa fd, At T K mg f.name f fa fd) : ∀ x f, findF T.defs x = some f → ∃ fa fd, At T K mg x f fa fd := fun x f e => by
  obtain ⟨h1, rfl⟩ := findF_ok e
  exact h f h1
theorem bindsK {K : PySem.W.Frag} {x qual : Str} {params : Arguments} {body : List Stmt} {scope : Scope} {f : Addr} {fd : FuncData} {ps ks : List Str} {n : Nat} {ord : List Nat} (F : FunD K x qual params body scope [] [] f fd)
    (h : ∀ (kV doc pm : Value) (an : Option Addr) (cdv ct : Value) (us ws : List Value), us.length = n → ws.length = ks.length → bindArgs (PySem.W.fnOf x qual params body scope .none kV doc pm an cdv ct) ⟨us, ks.zip ws⟩ = pure (ps.zip (pick ord (us ++ ws)))) :
    ∀ (s : Shared) (us ws : List Value), us.length = n → ws.length = ks.length → BindsTo s fd ⟨us, ks.zip ws⟩ (ps.zip (pick ord (us ++ ws))) := by
  obtain ⟨oc, od, dV, kV, doc, pm, an, cdv, ct, osl, rfl, lk, hcd, hD, hK⟩ := F.ex
  rcases hD with ⟨_, rfl⟩ | ⟨e, _⟩
  · exact fun s us ws h1 h2 => .of_eq (h kV doc pm an cdv ct us ws h1 h2)
  · exact absurd rfl e
section
variable {P : Program} {w : World} {mg : Str → Option Value} {base : Heap} {T : Tab} {G : Gh}
theorem fn_stk {k n : Nat} {fa : Addr} {fd : FuncData} {ps : List Str} : FnOk P w G.K mg base (L2.CX P w) k fa fd ps (spA G n fun _ _ => .stk) :=
  ⟨fun vs H Q E h => by obtain ⟨_, _, _, _, _, _, _, p⟩ := h; exact p.elim, fun A outer s H args us vs Q E _ _ _ _ h => by obtain ⟨_, _, _, _, _, _, _, p⟩ := h; exact p.elim⟩
/-- every def keeps the machine's promise -/
theorem fn_all (FT : Facts T G mg) : ∀ (k : Nat) (x : Str) (f : FD) (fa : Addr) (fd : FuncData), findF T.defs x = some f → At T G.K mg x f fa fd → FnOk P w G.K mg base (L2.CX P w) k fa fd f.ps (spA G f.ps.length (runF T k x))
  | 0, x, f, fa, fd, hf, at_ => fn_stk
  | k + 1, x, f, fa, fd, hf, at_ => by
    have ih := fn_all FT k
    refine at_.fn.ok at_.sc (fun vs H Q E h => spA_len h) fun cdv A outer s H vs Q E hr hsp => ?_
    obtain ⟨l, ι, h, avs, rh, rv, hl, p⟩ := hsp
    have e1 : runF T (k + 1) x = fun avs h => finR (blkM (exS (runF T k) f.fuel (dcOf T f)) f.body (startA f.N avs) h) := by
      show (match findF T.defs x with | none => _ | some f => _) = _
      rw [hf]
    rw [e1] at p
    have ok : XOk (cxOf (L2.CX P w) P w G.K mg base f.N f.qual f.sc fa cdv A outer s H E) (G.hide l) (dcOf T f) :=
      ⟨rfl, at_.sc.nd, rfl, rfl, by have := hr.un; show (A.deeper _).units + 65 < cLine; omega, fun x h => visB_ok h, fun x h => ⟨locB_ok h, .inl rfl⟩, fun x h => glB_ok h, fun x h => h, FT.free, FT.glob⟩
    have so : SOk (cxOf (L2.CX P w) P w G.K mg base f.N f.qual f.sc fa cdv A outer s H E) (dcOf T f) := ⟨rfl, at_.sc.kind, passes_of rfl⟩
    have tk : Takes (cxOf (L2.CX P w) P w G.K mg base f.N f.qual f.sc fa cdv A outer s H E) (fun C d _ H => E C d H) := takes_of rfl rfl rfl rfl
    have fo : FOk (cxOf (L2.CX P w) P w G.K mg base f.N f.qual f.sc fa cdv A outer s H E) (G.hide l) (dcOf T f) (runF T k) := by
      refine ⟨fun y ps hy => ?_, fun y n ks ord hk => ?_⟩
      · obtain ⟨g, hg, rfl⟩ := Option.map_eq_some_iff.mp (show (findF T.defs y).map (·.ps) = some ps from hy)
        obtain ⟨fa', fd', a⟩ := FT.at_ y g hg
        exact ⟨fa', fd', k, a.mg, a.fn.kp, ih y g fa' fd' hg a, hr, a.binds⟩
      · obtain ⟨e, he, rfl, rfl, rfl, rfl⟩ := kwOf_ok (show kwOf T.kws y n ks = some ord from hk)
        obtain ⟨g, hg⟩ := FT.kw e he
        obtain ⟨fa', fd', a⟩ := FT.at_ e.x g hg
        obtain ⟨b1, b2, b3⟩ := a.kw e he rfl
        exact ⟨fa', fd', k, g.ps, a.mg, a.fn.kp, ih e.x g fa' fd' hg a, hr, b1, b2, fun s us ws _ h1 h2 _ => b3 s us ws h1 h2⟩
    exact ⟨RSt (G.hide l) (fun C d _ H => E C d H) (blkM (exS (runF T k) f.fuel (dcOf T f)) f.body), rss f.body fun st _ => rs_all f.fuel _ _ _ _ ok so fo tk st, ι, startA f.N avs, h, rh, rs_start rv, finR_post (fun _ _ _ _ _ z => z) p⟩
end
/-- with whatever world -/
def CXa : CXT := fun outer H s E u s' => ∃ P w, L2.CX P w outer H s E u s'
theorem fn_any {P : Program} {w : World} {K : PySem.W.Frag} {mg : Str → Option Value} {base : Heap} {k : Nat} {f : Addr} {fd : FuncData} {ps : List Str} {sp : Sp} (F : FnOk P w K mg base (L2.CX P w) k f fd ps sp) : FnOk P w K mg base CXa k f fd ps sp :=
  ⟨F.len, fun A outer s H args us vs Q E hr he hb hv hs => codeAny_mono (F.run A outer s H args us vs Q E hr he hb hv hs) fun r s' hq => by
    cases r with
    | error e => exact ⟨P, w, hq⟩
    | ok fl => cases fl <;> exact hq⟩
theorem cxa_no {H : Hp} {s : Shared} {e : Value} {s' : Shared} (h : CXa [] H s (fun _ _ _ => False) e s') : False := by
  obtain ⟨P, w, a, B, H', cls, d, _, _, _, _, _, _, _, z⟩ := h
  exact z
end AM
/-! AMn: a module's facts. -/
namespace AM
open PySem PySem.Spec PyProof.Rows L2

def lookA : List (Str × AV) → Str → Option AV
  | [], _ => none
  | p :: r, x => if p.1 = x then some p.2 else lookA r x
theorem lookA_ok : ∀ {l : List (Str × AV)} {x : Str} {v : AV}, lookA l x = some v → (x, v) ∈ l
  | [], _, _, h => by cases h
  | p :: r, x, v, h => by
    unfold lookA at h
    by_cases c : p.1 = x
    · rw [if_pos c] at h
      cases h
      rw [← c]
      exact List.mem_cons_self ..
    · rw [if_neg c] at h
      exact List.mem_cons_of_mem _ (lookA_ok h)
def inL (l : List Str) (x : Str) : Bool := l.any fun y => decide (y = x)
theorem inL_ok {l : List Str} {x : Str} (h : inL l x = true) : x ∈ l := by
  obtain ⟨y, hy, e⟩ := List.any_eq_true.mp h
  rw [← of_decide_eq_true e]
  exact hy
/-- a name of the module as its value -/
def GlobOk (G : Gh) (mg : Str → Option Value) (p : Str × AV) : Prop := ∃ (u : Value) (w : V), mg p.1 = some u ∧ RelV w u ∧ ∀ l ι H, RV (G.hide l) ι H p.2 w
theorem glob_int {G : Gh} {mg : Str → Option Value} {x : Str} {i : Int} (h : ∃ t, mg x = some (.int i t)) : GlobOk G mg (x, .int i) := by
  obtain ⟨t, e⟩ := h
  exact ⟨_, .int i, e, ⟨t, rfl⟩, fun _ _ _ => .int i⟩
theorem glob_str {G : Gh} {mg : Str → Option Value} {x z : Str} (h : ∃ t, mg x = some (.str z t)) : GlobOk G mg (x, .str z) := by
  obtain ⟨t, e⟩ := h
  exact ⟨_, .str z, e, ⟨t, rfl⟩, fun _ _ _ => .str z⟩
theorem facts_of {T : Tab} {G : Gh} {mg : Str → Option Value} {gl : List (Str × AV)} {fr : List Str} (h1 : ∀ f ∈ T.defs, ∃ fa fd, At T G.K mg f.name f fa fd) (h2 : ∀ e ∈ T.kws, (findF T.defs e.x).isSome = true)
    (eg : T.glob = lookA gl) (h3 : ∀ p ∈ gl, GlobOk G mg p) (ef : T.free = inL fr) (h4 : ∀ x ∈ fr, mg x = none) : Facts T G mg :=
  ⟨at_all h1, fun e he => Option.isSome_iff_exists.mp (h2 e he), fun x v h => h3 (x, v) (lookA_ok (by rw [← eg]; exact h)), fun x h => h4 x (inL_ok (by rw [← ef]; exact h))⟩
/-- the law's end: law's machine answers True at every script -/
theorem walk_am {l : PySem.W.OpenLaw} {q : Program} {loose : List Str} {XP : (Str → Option Value) → Heap → Prop} {YP : World → Heap → Prop} {d : DefRec} {x : Str} (T : Tab) (k : Nat) (f : FD)
    (hn : l.most = some 63) (hdf : d.params.defaults = []) (hr : Room k callerA) (hname : d.name = f.name) (hf : findF T.defs f.name = some f) (hps : f.ps = [x])
    (F : ∀ (w : World) (mg : Str → Option Value) (h : Heap), YP w h → h.Ns mainGlobals mg → ∃ G : Gh, G.hid = [] ∧ G.K.In h ∧ Facts T G mg)
    (hb : ∀ (kV doc pm : Value) (an : Option Addr) (cdv ct u : Value), bindArgs (PySem.W.fnOf f.name f.qual f.params f.body f.sc .none kV doc pm an cdv ct) ⟨[u], []⟩ = pure [(x, u)])
    (run : ∀ ns : List Int, ns.length ≤ 63 → ∃ h', runF T k f.name [.ext (ns.map .int)] [] = .ok (.bl true) h') :
    PySem.W.WalkO q loose XP YP l.row.toRowW d [] (fun f vs => PySem.call f vs) := by
  refine walk_ofE (l := l) (n := 63) (k := k) (x := x) (CX := CXa) hn (by decide) hdf hr ?_ (fun _ _ _ _ z => cxa_no z)
  intro w mg fa h Y Gn hmg0
  obtain ⟨G, hG, KX, FT⟩ := F w mg h Y Gn
  obtain ⟨fa', fd, a⟩ := FT.at_ f.name f hf
  rw [hname] at hmg0
  have e : fa' = fa := by
    have := a.mg.symm.trans hmg0
    cases this
    rfl
  subst e
  refine ⟨G.K, fd, spA G f.ps.length (runF T k f.name), KX, fun s v => ?_, fun H ad ns hl hO hS => ?_, fun base _ _ => by
    rw [← hps]
    exact fn_any (fn_all FT k f.name f fa' fd hf a)⟩
  · obtain ⟨oc, od, dV, kV, doc, pm, an, cdv, ct, osl, e1, lk, hcd, hD, hK⟩ := a.fn.ex
    rcases hD with ⟨_, rfl⟩ | ⟨e, _⟩
    · rw [e1]
      exact .of_eq (hb kV doc pm an cdv ct v)
    · exact absurd rfl e
  · obtain ⟨h', er⟩ := run ns hl
    refine ⟨[], [], [], [.ext (ns.map .int)], ⟨rfl, .nil, fun a ha => absurd ha (by simp [Gh.hide]), fun n o a e => by simp at e⟩, ?_, by rw [hps]; rfl, ?_⟩
    · refine .cons (.ext ?_ (RVs.ofInts ns)) .nil
      rcases hS with q | q
      · exact .inl ⟨⟨by simp, by simp [Gh.hide]⟩, q⟩
      · exact .inr q
    · rw [er]
      intro ι' H' u x rh r
      cases r
      rfl
end AM
/-! AMo: the machine's meanings without names and places. -/
namespace AM
open PySem PySem.Spec PyProof.Rows L2

def evsN : List ME → MEs
  | [] => fun _ h => .ok [] h
  | m :: ms => fun ρ h => (m ρ h).bind fun v h1 => (evsN ms ρ h1).bind fun vs h2 => .ok (v :: vs) h2
def andN : List ME → ME
  | [] => fun _ _ => .stk
  | [m] => m
  | m :: ms => andM m (andN ms)
def orN : List ME → ME
  | [] => fun _ _ => .stk
  | [m] => m
  | m :: ms => orM m (orN ms)
def partN : Option ME → AM.Env → AH → Res (Option Int)
  | none => fun _ h => .ok none h
  | some m => fun ρ h => (m ρ h).bind fun v h1 => match v with
    | .int i => .ok (some i) h1
    | _ => .stk
def walkN (m : ME) : AM.Env → AH → Res (List AV) := fun ρ h => (m ρ h).bind itemsR
def rangeN (ms : List ME) : AM.Env → AH → Res (List AV) := fun ρ h => (evsN ms ρ h).bind rangeR
def enumN (ms : List ME) : AM.Env → AH → Res (List AV) := fun ρ h => (evsN ms ρ h).bind enumR
def asgN (i : Nat) : AV → AM.Env → Option AM.Env := fun v ρ => some (ρ.set i (some v))
def asgsN : List (AV → AM.Env → Option AM.Env) → List AV → AM.Env → Option AM.Env
  | [], [], ρ => some ρ
  | e :: es, v :: vs, ρ => (e v ρ).bind fun ρ1 => asgsN es vs ρ1
  | _, _, _ => none
def asgT (es : List (AV → AM.Env → Option AM.Env)) : AV → AM.Env → Option AM.Env := fun v ρ => match v with
  | .tup xs => asgsN es xs ρ
  | _ => none
def allT : AM.Env → AH → Res Bool := fun _ h => .ok true h
def compN (it : AM.Env → AH → Res (List AV)) (asg : AV → AM.Env → Option AM.Env) (test : AM.Env → AH → Res Bool) (elt : ME) (own : List Nat) : ME := fun ρ h =>
  (it ρ h).bind fun xs h1 => (compL asg test elt (wipeA ρ own) xs [] h1).bind fun ys h2 => .ok (.lst ys) h2
def dicN : ME := fun _ h => .ok (.dic [] []) h
/-! ### statements -/
abbrev MS := AM.Env → AH → SR
def blkN : List MS → MS
  | [], ρ, h => .nx ρ h
  | s :: r, ρ, h => (s ρ h).seq (blkN r)
def retN (m : ME) : MS := fun ρ h => exM (m ρ h) ρ fun v h1 => .rt v h1
def retN0 : MS := fun _ h => .rt .non h
def exprN (m : ME) : MS := fun ρ h => exM (m ρ h) ρ fun _ h1 => .nx ρ h1
def ifN (c : AM.Env → AH → Res Bool) (a b : List MS) : MS := fun ρ h => exM (c ρ h) ρ fun t h1 => if t then blkN a ρ h1 else blkN b ρ h1
def forN (it : AM.Env → AH → Res (List AV)) (asg : AV → AM.Env → Option AM.Env) (body : List MS) : MS := fun ρ h => exM (it ρ h) ρ fun xs h1 => forL asg (blkN body) xs ρ h1
def setNN (i : Nat) (m : ME) : MS := fun ρ h => exM (m ρ h) ρ fun v h1 => .nx (ρ.set i (some v)) h1
abbrev TGN := AV → AM.Env → AH → SR
def tgVar (i : Nat) : TGN := fun v ρ h => .nx (ρ.set i (some v)) h
def tgSub (o i : ME) : TGN := fun v ρ h => exM (o ρ h) ρ fun ov h1 => exM (i ρ h1) ρ fun iv h2 => match setF ov iv v h2 with
  | some h3 => .nx ρ h3
  | none => .stk
def tgsN : List TGN → List AV → AM.Env → AH → SR
  | [], [], ρ, h => .nx ρ h
  | e :: es, v :: vs, ρ, h => (e v ρ h).seq (tgsN es vs)
  | _, _, _, _ => .stk
def tgTup (n : Nat) (es : List TGN) : TGN := fun v ρ h => match v with
  | .tup xs => if Nat.beq xs.length n && true then tgsN es xs ρ h else .stk
  | _ => .stk
def asgS (m : ME) (t : TGN) : MS := fun ρ h => exM (m ρ h) ρ fun v h1 => t v ρ h1
def augN (i : Nat) (op : Operator) (m : ME) : MS := fun ρ h => match ρ[i]? with
  | some (some v) => exM (m ρ h) ρ fun w h1 => (match augF op v w with
    | some z => .nx (ρ.set i (some z)) h1
    | none => .stk)
  | _ => .stk
end AM
/-! AMp: loops and comprehensions of the machine. -/
namespace AM
open PySem PySem.Spec PyProof.Rows L2

/-- a comprehension whose elements change nothing -/
theorem compL_pure {asg : AV → AM.Env → Option AM.Env} {test : AM.Env → AH → Res Bool} {elt : ME} {ρ : AM.Env} {h : AH} (g : AV → AV) : ∀ (xs acc : List AV),
    (∀ a ∈ xs, ∃ ρ1, asg a ρ = some ρ1 ∧ test ρ1 h = .ok true h ∧ elt ρ1 h = .ok (g a) h) → acc.length + xs.length ≤ sizeLine → compL asg test elt ρ xs acc h = .ok (acc ++ xs.map g) h
  | [], acc, _, _ => by simp [compL]
  | a :: r, acc, hx, hl => by
    obtain ⟨ρ1, e1, e2, e3⟩ := hx a (List.mem_cons_self ..)
    have ih := compL_pure g r (acc ++ [g a]) (fun b hb => hx b (List.mem_cons_of_mem _ hb)) (by simp at hl ⊢; omega)
    unfold compL
    rw [e1]
    show (noX (test ρ1 h)).bind _ = _
    rw [e2]
    show ((noX (elt ρ1 h)).bind fun v h2 => if acc.length < sizeLine then compL asg test elt ρ r (acc ++ [v]) h2 else .stk) = _
    rw [e3]
    show (if acc.length < sizeLine then compL asg test elt ρ r (acc ++ [g a]) h else .stk) = _
    rw [if_pos (by simp at hl; omega), ih]
    simp
/-- a comprehension whose elements change the heap: I of the heap, P of the elements -/
theorem compL_inv {asg : AV → AM.Env → Option AM.Env} {test : AM.Env → AH → Res Bool} {elt : ME} {ρ : AM.Env} (I : AH → Prop) (P : AV → Prop) : ∀ (xs acc : List AV) (h : AH),
    (∀ a ∈ xs, ∀ h, I h → ∃ ρ1 v h', asg a ρ = some ρ1 ∧ test ρ1 h = .ok true h ∧ elt ρ1 h = .ok v h' ∧ I h' ∧ P v) → I h → (∀ v ∈ acc, P v) → acc.length + xs.length ≤ sizeLine →
      ∃ ys h', compL asg test elt ρ xs acc h = .ok ys h' ∧ I h' ∧ (∀ v ∈ ys, P v) ∧ ys.length = acc.length + xs.length
  | [], acc, h, _, hI, hP, _ => ⟨acc, h, rfl, hI, hP, by simp⟩
  | a :: r, acc, h, hx, hI, hP, hl => by
    obtain ⟨ρ1, v, h1, e1, e2, e3, i1, p1⟩ := hx a (List.mem_cons_self ..) h hI
    obtain ⟨ys, h', e, i2, p2, l2⟩ := compL_inv I P r (acc ++ [v]) h1 (fun b hb => hx b (List.mem_cons_of_mem _ hb)) i1 (fun z hz => by
      rcases List.mem_append.mp hz with q | q
      · exact hP z q
      · rw [List.mem_singleton.mp q]; exact p1) (by simp at hl ⊢; omega)
    refine ⟨ys, h', ?_, i2, p2, by simp at l2 ⊢; omega⟩
    unfold compL
    rw [e1]
    show (noX (test ρ1 h)).bind _ = _
    rw [e2]
    show ((noX (elt ρ1 h)).bind fun v h2 => if acc.length < sizeLine then compL asg test elt ρ r (acc ++ [v]) h2 else .stk) = _
    rw [e3]
    show (if acc.length < sizeLine then compL asg test elt ρ r (acc ++ [v]) h1 else .stk) = _
    rw [if_pos (by simp at hl; omega), e]
/-- a for whose turns end behind the body: I by the turn -/
theorem forL_inv {asg : AV → AM.Env → Option AM.Env} {body : MS} (I : Nat → AM.Env → AH → Prop) : ∀ (xs : List AV) (i : Nat) (ρ : AM.Env) (h : AH),
    (∀ (j : Nat) (a : AV), xs[j]? = some a → ∀ ρ h, I (i + j) ρ h → ∃ ρ1 ρ2 h2, asg a ρ = some ρ1 ∧ body ρ1 h = .nx ρ2 h2 ∧ I (i + j + 1) ρ2 h2) → I i ρ h → ∃ ρ' h', forL asg body xs ρ h = .nx ρ' h' ∧ I (i + xs.length) ρ' h'
  | [], i, ρ, h, _, hI => ⟨ρ, h, rfl, by simpa using hI⟩
  | a :: r, i, ρ, h, hx, hI => by
    obtain ⟨ρ1, ρ2, h2, e1, e2, i2⟩ := hx 0 a rfl ρ h (by simpa using hI)
    obtain ⟨ρ', h', e, i3⟩ := forL_inv I r (i + 1) ρ2 h2 (fun j b hb ρ h hI => by
      have := hx (j + 1) b (by simpa using hb) ρ h (by rw [show i + (j + 1) = i + 1 + j by omega]; exact hI)
      rw [show i + (j + 1) + 1 = i + 1 + j + 1 by omega] at this
      exact this) (by simpa using i2)
    refine ⟨ρ', h', ?_, by rw [List.length_cons, show i + (r.length + 1) = i + 1 + r.length by omega]; exact i3⟩
    unfold forL
    rw [e1]
    show forS (body ρ1 h) (forL asg body r) = _
    rw [e2]
    exact e
theorem forL_all {asg : AV → AM.Env → Option AM.Env} {body : MS} (I : AM.Env → AH → Prop) (xs : List AV) (ρ : AM.Env) (h : AH) (hx : ∀ a ∈ xs, ∀ ρ h, I ρ h → ∃ ρ1 ρ2 h2, asg a ρ = some ρ1 ∧ body ρ1 h = .nx ρ2 h2 ∧ I ρ2 h2) (hI : I ρ h) : ∃ ρ' h', forL asg body xs ρ h = .nx ρ' h' ∧ I ρ' h' := by
  obtain ⟨ρ', h', e, i⟩ := forL_inv (fun _ => I) xs 0 ρ h (fun j a ha => hx a (List.mem_of_getElem? ha)) hI
  exact ⟨ρ', h', e, i⟩
/-! ### step by step -/
section
variable {ρ : AM.Env} {h h1 h2 h3 : AH} {v w z : AV} {vs : List AV} {a b c m : ME} {es : MEs} {ms : List ME} {f : Op2} {r : Res AV} {i : Nat}
theorem x_slot (e : ρ[i]? = some (some v)) : slotM i ρ h = .ok v h := by unfold slotM; rw [e]
theorem x_ret : retM v ρ h = .ok v h := rfl
theorem x_nil : evsN [] ρ h = .ok [] h := rfl
theorem x_cons (e1 : m ρ h = .ok v h1) (e2 : evsN ms ρ h1 = .ok vs h2) : evsN (m :: ms) ρ h = .ok (v :: vs) h2 := by
  show (m ρ h).bind _ = _
  rw [e1]
  show (evsN ms ρ h1).bind _ = _
  rw [e2]
  rfl
theorem x_one (e1 : m ρ h = .ok v h1) : evsN [m] ρ h = .ok [v] h1 := x_cons e1 x_nil
theorem x_two {m2 : ME} (e1 : m ρ h = .ok v h1) (e2 : m2 ρ h1 = .ok w h2) : evsN [m, m2] ρ h = .ok [v, w] h2 := x_cons e1 (x_one e2)
theorem x_call {g : OpN} (e : es ρ h = .ok vs h1) (e2 : g vs h1 = r) : callM g es ρ h = r := by
  unfold callM
  rw [e]
  exact e2
theorem x_callK {g : OpN} {ks : MEs} {zs : List AV} {ord : List Nat} (e : es ρ h = .ok vs h1) (e1 : ks ρ h1 = .ok zs h2) (e2 : g (pick ord (vs ++ zs)) h2 = r) : callKM g ord es ks ρ h = r := by
  unfold callKM
  rw [e]
  show (ks ρ h1).bind _ = _
  rw [e1]
  exact e2
theorem x_bin (e1 : a ρ h = .ok v h1) (e2 : b ρ h1 = .ok w h2) (e3 : f v w h2 = r) : bin2 a b f ρ h = r := by
  unfold bin2
  rw [e1]
  show (b ρ h1).bind _ = _
  rw [e2]
  exact e3
theorem x_andT (e1 : a ρ h = .ok v h1) (t : truA v h1 = some true) (e2 : b ρ h1 = r) : andM a b ρ h = r := by
  unfold AM.andM
  rw [e1]
  show ((truR v h1).bind _) = _
  unfold truR
  rw [t]
  exact e2
theorem x_andF (e1 : a ρ h = .ok v h1) (t : truA v h1 = some false) : andM a b ρ h = .ok v h1 := by
  unfold AM.andM
  rw [e1]
  show ((truR v h1).bind _) = _
  unfold truR
  rw [t]
  rfl
theorem x_orT (e1 : a ρ h = .ok v h1) (t : truA v h1 = some true) : orM a b ρ h = .ok v h1 := by
  unfold AM.orM
  rw [e1]
  show ((truR v h1).bind _) = _
  unfold truR
  rw [t]
  rfl
theorem x_orF (e1 : a ρ h = .ok v h1) (t : truA v h1 = some false) (e2 : b ρ h1 = r) : orM a b ρ h = r := by
  unfold AM.orM
  rw [e1]
  show ((truR v h1).bind _) = _
  unfold truR
  rw [t]
  exact e2
theorem x_not {t : Bool} (e1 : a ρ h = .ok v h1) (t1 : truA v h1 = some t) : notM a ρ h = .ok (.bl (!t)) h1 := by
  unfold AM.notM
  rw [e1]
  show ((truR v h1).bind _) = _
  unfold truR
  rw [t1]
  rfl
theorem x_tst {t : Bool} (e1 : a ρ h = .ok v h1) (t1 : truA v h1 = some t) : tstM a ρ h = .ok t h1 := by
  unfold tstM
  rw [e1]
  show truR v h1 = _
  unfold truR
  rw [t1]
theorem x_chainT {g : Op2} (e1 : a ρ h = .ok v h1) (e2 : b ρ h1 = .ok w h2) (e3 : f v w h2 = .ok (.bl true) h2) (e4 : c ρ h2 = .ok z h3) (e5 : g w z h3 = r) : chainM a b c f g ρ h = r := by
  unfold chainM
  rw [e1]
  show (b ρ h1).bind _ = _
  rw [e2]
  show (f v w h2).bind _ = _
  rw [e3]
  show (c ρ h2).bind _ = _
  rw [e4]
  exact e5
theorem x_chainF {g : Op2} (e1 : a ρ h = .ok v h1) (e2 : b ρ h1 = .ok w h2) (e3 : f v w h2 = .ok (.bl false) h2) : chainM a b c f g ρ h = .ok (.bl false) h2 := by
  unfold chainM
  rw [e1]
  show (b ρ h1).bind _ = _
  rw [e2]
  show (f v w h2).bind _ = _
  rw [e3]
  rfl
theorem x_ite {t : AM.Env → AH → Res Bool} {k : Bool} (e1 : t ρ h = .ok k h1) (e2 : (if k then a ρ h1 else b ρ h1) = r) : iteM t a b ρ h = r := by
  unfold iteM
  rw [e1]
  exact e2
theorem x_tup (e : es ρ h = .ok vs h1) (l : lenOk vs.length = true) : tupM es ρ h = .ok (.tup vs) h1 := by
  unfold tupM
  rw [e]
  show (if lenOk vs.length then _ else _) = _
  rw [if_pos l]
theorem x_lst (e : es ρ h = .ok vs h1) (l : lenOk vs.length = true) : lstM es ρ h = .ok (.lst vs) h1 := by
  unfold lstM
  rw [e]
  show (if lenOk vs.length then _ else _) = _
  rw [if_pos l]
theorem x_new (e : es ρ h = .ok vs h1) (l : lenOk vs.length = true) : newM es ρ h = .ok (.ref h1.length) (h1 ++ [.lst vs]) := by
  unfold newM
  rw [e]
  show (if lenOk vs.length then _ else _) = _
  rw [if_pos l]
theorem x_part0 : partN none ρ h = .ok none h := rfl
theorem x_part {j : Int} (e : m ρ h = .ok (.int j) h1) : partN (some m) ρ h = .ok (some j) h1 := by
  show (m ρ h).bind _ = _
  rw [e]
  rfl
theorem x_slice {lo hi : AM.Env → AH → Res (Option Int)} {l u : Option Int} (e1 : m ρ h = .ok v h1) (e2 : lo ρ h1 = .ok l h2) (e3 : hi ρ h2 = .ok u h3) (e4 : sliceF v l u h3 = r) : sliceM m lo hi ρ h = r := by
  unfold sliceM
  rw [e1]
  show (lo ρ h1).bind _ = _
  rw [e2]
  show (hi ρ h2).bind _ = _
  rw [e3]
  exact e4
theorem x_walk {xs : List AV} (e : m ρ h = .ok v h1) (e2 : itemsOf v = some xs) : walkN m ρ h = .ok xs h1 := by
  unfold walkN
  rw [e]
  show itemsR v h1 = _
  unfold itemsR
  rw [e2]
theorem x_range {xs : List AV} (e : evsN ms ρ h = .ok vs h1) (e2 : rangeR vs h1 = .ok xs h1) : rangeN ms ρ h = .ok xs h1 := by
  unfold rangeN
  rw [e]
  exact e2
theorem x_comp {it : AM.Env → AH → Res (List AV)} {asg : AV → AM.Env → Option AM.Env} {test : AM.Env → AH → Res Bool} {own : List Nat} {xs ys : List AV} (e1 : it ρ h = .ok xs h1) (e2 : compL asg test m (wipeA ρ own) xs [] h1 = .ok ys h2) :
    compN it asg test m own ρ h = .ok (.lst ys) h2 := by
  unfold compN
  rw [e1]
  show (compL _ _ _ _ _ _ _).bind _ = _
  rw [e2]
  rfl
/-! statements -/
variable {ss : List MS} {R : SR} {ρ1 : AM.Env}
theorem s_set (e : m ρ h = .ok v h1) (k : blkN ss (ρ.set i (some v)) h1 = R) : blkN (setNN i m :: ss) ρ h = R := by
  show (exM (m ρ h) ρ _).seq _ = _
  rw [e]
  exact k
theorem s_expr (e : m ρ h = .ok v h1) (k : blkN ss ρ h1 = R) : blkN (exprN m :: ss) ρ h = R := by
  show (exM (m ρ h) ρ _).seq _ = _
  rw [e]
  exact k
theorem s_ret (e : m ρ h = .ok v h1) : blkN (retN m :: ss) ρ h = .rt v h1 := by
  show (exM (m ρ h) ρ _).seq _ = _
  rw [e]
  rfl
theorem s_asg {t : TGN} (e : m ρ h = .ok v h1) (e2 : t v ρ h1 = .nx ρ1 h2) (k : blkN ss ρ1 h2 = R) : blkN (asgS m t :: ss) ρ h = R := by
  show (exM (m ρ h) ρ _).seq _ = _
  rw [e]
  show (t v ρ h1).seq _ = _
  rw [e2]
  exact k
theorem s_if {t : AM.Env → AH → Res Bool} {k : Bool} {p q : List MS} (e : t ρ h = .ok k h1) (n : ((if k then blkN p ρ h1 else blkN q ρ h1).seq (blkN ss)) = R) : blkN (ifN t p q :: ss) ρ h = R := by
  show (exM (t ρ h) ρ _).seq _ = _
  rw [e]
  exact n
theorem s_ifF {t : AM.Env → AH → Res Bool} {p : List MS} (e : t ρ h = .ok false h1) (n : blkN ss ρ h1 = R) : blkN (ifN t p [] :: ss) ρ h = R := s_if e n
theorem s_ifT {t : AM.Env → AH → Res Bool} {p q : List MS} {R' : SR} (e : t ρ h = .ok true h1) (n : blkN p ρ h1 = R') (k : R'.seq (blkN ss) = R) : blkN (ifN t p q :: ss) ρ h = R := s_if e (by
  show (blkN p ρ h1).seq _ = _
  rw [n]
  exact k)
theorem s_for {it : AM.Env → AH → Res (List AV)} {asg : AV → AM.Env → Option AM.Env} {body : List MS} {xs : List AV} (e : it ρ h = .ok xs h1) (e2 : forL asg (blkN body) xs ρ h1 = .nx ρ1 h2) (k : blkN ss ρ1 h2 = R) : blkN (forN it asg body :: ss) ρ h = R := by
  show (exM (it ρ h) ρ _).seq _ = _
  rw [e]
  show (forL _ _ _ _ _).seq _ = _
  rw [e2]
  exact k
theorem s_end : blkN [] ρ h = .nx ρ h := rfl
end
end AM
/-! ### the law's module -/
namespace Mo
open PySem PySem.Spec PyProof.Rows L2 AM
def top (i : Nat) : Stmt := PySem.Challenge.pw_postalike_k01_words_of_any_kind.main.body.getD i (.Pass ⟨0, 0, 0, 0⟩)
def f_is_word : FD := ⟨"is_word", "is_word", defArgs (top 3), ["thing"], ["thing", "sign"], defBody (top 3), defScope (top 3), fun _ => false, 12⟩
def f__law_pool : FD := ⟨"_law_pool", "_law_pool", defArgs (top 5), ["_law_script", "_law_k"], ["_law_script", "_law_k", "_law_cell", "_law_mix", "_law_found", "_law_turn"], defBody (top 5), defScope (top 5), fun _ => true, 16⟩
def f__law_take : FD := ⟨"_law_take", "_law_take", defArgs (top 6), ["_law_pool_here", "_law_many"], ["_law_pool_here", "_law_many", "_law_digit"], defBody (top 6), defScope (top 6), fun _ => false, 10⟩
def f__law_is_word : FD := ⟨"_law_is_word", "_law_is_word", defArgs (top 7), ["_law_some_one"], ["_law_some_one", "_law_sign"], defBody (top 7), defScope (top 7), fun _ => false, 12⟩
def f__law_drawn : FD := ⟨"_law_drawn", "_law_drawn", defArgs (top 8), ["_law_pool_here"], ["_law_pool_here", "_law_found", "_law_place", "_law_spot", "_law_sign", "_law_some"], defBody (top 8), defScope (top 8), fun _ => false, 15⟩
def f_law : FD := ⟨"law", "law", defArgs (top 9), ["_law_script"], ["_law_script", "_law_odds", "_law_k", "_law_pool_here", "_law_one", "_law_found", "_law_turn"], defBody (top 9), defScope (top 9), fun _ => false, 14⟩
def gl : List (PySem.Str × AV) := [("LETTERS", .str "abcdefghijklmnopqrstuvwxyz"), ("MOST_SIGNS", .int 8)]
def fr : List PySem.Str := ["isinstance", "str", "all", "len", "sum", "range", "abs", "divmod", "max", "min", "bool"]
def T : Tab := ⟨[f_is_word, f__law_pool, f__law_take, f__law_is_word, f__law_drawn, f_law], lookA gl, inL fr, [⟨"is_word", 0, ["thing"], [0]⟩]⟩
def fn : List He.DefD := [⟨("is_word", none), "is_word", "is_word", defArgs (top 3), defBody (top 3), defScope (top 3), [], []⟩, ⟨("_law_pool", none), "_law_pool", "_law_pool", defArgs (top 5), defBody (top 5), defScope (top 5), [], []⟩, ⟨("_law_take", none), "_law_take", "_law_take", defArgs (top 6), defBody (top 6), defScope (top 6), [], []⟩, ⟨("_law_is_word", none), "_law_is_word", "_law_is_word", defArgs (top 7), defBody (top 7), defScope (top 7), [], []⟩, ⟨("_law_drawn", none), "_law_drawn", "_law_drawn", defArgs (top 8), defBody (top 8), defScope (top 8), [], []⟩, ⟨("law", none), "law", "law", defArgs (top 9), defBody (top 9), defScope (top 9), [], []⟩]
def fa : List He.Fa := [.glo "is_word", .glo "_law_pool", .glo "_law_take", .glo "_law_is_word", .glo "_law_drawn", .glo "law", .free "isinstance", .free "str", .free "all", .free "len", .free "sum", .free "range", .free "abs", .free "divmod", .free "max", .free "min", .free "bool", .str "LETTERS" "abcdefghijklmnopqrstuvwxyz", .int "MOST_SIGNS" 8]
abbrev R : PySem.W.OpenRow := PySem.W.OpenLaw.row PySem.Challenge.rw_postalike_k01_words_of_any_kind
abbrev hk : PySem.W.Hook := He.hookD 5 fa fn
def ob (s : PySem.W.SharedT) : He.AlD := He.obsDG 5 fa fn (HandSHeadRun.getT s)
theorem ob_eq (s : PySem.W.SharedT) : ob s = hk.obs s.abs := He.obsDG_eq (HandSHeadRun.getT_eq s)
def names : List PySem.Str := ["LETTERS", "MOST_SIGNS", "is_word", "_law_pool", "_law_take", "_law_is_word", "_law_drawn"]
theorem run (w : World) : HandSHeadRun.RunEq R (PySem.W.view R.prog [9]) hk ob 4000 names w := by
  intro os
  kernel_rfl
theorem at_is_word {K : PySem.W.Frag} {h : Heap} {mg : PySem.Str → Option Value} (X : K.In h) (G : h.Ns mainGlobals mg) (c : He.SaysD fa fn K) : ∃ fa fd, At T K mg f_is_word.name f_is_word fa fd := by
  obtain ⟨fd, F⟩ := c.def_ 0 (d := ⟨("is_word", none), "is_word", "is_word", defArgs (top 3), defBody (top 3), defScope (top 3), [], []⟩) rfl
  have g := He.glo_ok X G (c.fact 0 (f := .glo "is_word") rfl)
  exact ⟨_, fd, F, g, ⟨rfl, rfl, rfl, by decide +kernel, rfl, by decide +kernel, by decide +kernel⟩, F.bindsN fun _ _ _ _ _ _ us hl => match us, hl with | [_], _ => rfl, List.forall_mem_cons.2 ⟨fun _ => ⟨by decide, rfl, bindsK F fun _ _ _ _ _ _ us ws h1 h2 => match us, ws, h1, h2 with | [], [_], _, _ => rfl⟩, fun _ h => absurd h (by simp)⟩⟩
theorem at__law_pool {K : PySem.W.Frag} {h : Heap} {mg : PySem.Str → Option Value} (X : K.In h) (G : h.Ns mainGlobals mg) (c : He.SaysD fa fn K) : ∃ fa fd, At T K mg f__law_pool.name f__law_pool fa fd := by
  obtain ⟨fd, F⟩ := c.def_ 1 (d := ⟨("_law_pool", none), "_law_pool", "_law_pool", defArgs (top 5), defBody (top 5), defScope (top 5), [], []⟩) rfl
  have g := He.glo_ok X G (c.fact 1 (f := .glo "_law_pool") rfl)
  exact ⟨_, fd, F, g, ⟨rfl, rfl, rfl, by decide +kernel, rfl, by decide +kernel, by decide +kernel⟩, F.bindsN fun _ _ _ _ _ _ us hl => match us, hl with | [_, _], _ => rfl, fun e he hx => absurd hx ((by decide +kernel : ∀ e ∈ T.kws, e.x ≠ "_law_pool") e he)⟩
theorem at__law_take {K : PySem.W.Frag} {h : Heap} {mg : PySem.Str → Option Value} (X : K.In h) (G : h.Ns mainGlobals mg) (c : He.SaysD fa fn K) : ∃ fa fd, At T K mg f__law_take.name f__law_take fa fd := by
  obtain ⟨fd, F⟩ := c.def_ 2 (d := ⟨("_law_take", none), "_law_take", "_law_take", defArgs (top 6), defBody (top 6), defScope (top 6), [], []⟩) rfl
  have g := He.glo_ok X G (c.fact 2 (f := .glo "_law_take") rfl)
  exact ⟨_, fd, F, g, ⟨rfl, rfl, rfl, by decide +kernel, rfl, by decide +kernel, by decide +kernel⟩, F.bindsN fun _ _ _ _ _ _ us hl => match us, hl with | [_, _], _ => rfl, fun e he hx => absurd hx ((by decide +kernel : ∀ e ∈ T.kws, e.x ≠ "_law_take") e he)⟩
theorem at__law_is_word {K : PySem.W.Frag} {h : Heap} {mg : PySem.Str → Option Value} (X : K.In h) (G : h.Ns mainGlobals mg) (c : He.SaysD fa fn K) : ∃ fa fd, At T K mg f__law_is_word.name f__law_is_word fa fd := by
  obtain ⟨fd, F⟩ := c.def_ 3 (d := ⟨("_law_is_word", none), "_law_is_word", "_law_is_word", defArgs (top 7), defBody (top 7), defScope (top 7), [], []⟩) rfl
  have g := He.glo_ok X G (c.fact 3 (f := .glo "_law_is_word") rfl)
  exact ⟨_, fd, F, g, ⟨rfl, rfl, rfl, by decide +kernel, rfl, by decide +kernel, by decide +kernel⟩, F.bindsN fun _ _ _ _ _ _ us hl => match us, hl with | [_], _ => rfl, fun e he hx => absurd hx ((by decide +kernel : ∀ e ∈ T.kws, e.x ≠ "_law_is_word") e he)⟩
theorem at__law_drawn {K : PySem.W.Frag} {h : Heap} {mg : PySem.Str → Option Value} (X : K.In h) (G : h.Ns mainGlobals mg) (c : He.SaysD fa fn K) : ∃ fa fd, At T K mg f__law_drawn.name f__law_drawn fa fd := by
  obtain ⟨fd, F⟩ := c.def_ 4 (d := ⟨("_law_drawn", none), "_law_drawn", "_law_drawn", defArgs (top 8), defBody (top 8), defScope (top 8), [], []⟩) rfl
  have g := He.glo_ok X G (c.fact 4 (f := .glo "_law_drawn") rfl)
  exact ⟨_, fd, F, g, ⟨rfl, rfl, rfl, by decide +kernel, rfl, by decide +kernel, by decide +kernel⟩, F.bindsN fun _ _ _ _ _ _ us hl => match us, hl with | [_], _ => rfl, fun e he hx => absurd hx ((by decide +kernel : ∀ e ∈ T.kws, e.x ≠ "_law_drawn") e he)⟩
theorem at_law {K : PySem.W.Frag} {h : Heap} {mg : PySem.Str → Option Value} (X : K.In h) (G : h.Ns mainGlobals mg) (c : He.SaysD fa fn K) : ∃ fa fd, At T K mg f_law.name f_law fa fd := by
  obtain ⟨fd, F⟩ := c.def_ 5 (d := ⟨("law", none), "law", "law", defArgs (top 9), defBody (top 9), defScope (top 9), [], []⟩) rfl
  have g := He.glo_ok X G (c.fact 5 (f := .glo "law") rfl)
  exact ⟨_, fd, F, g, ⟨rfl, rfl, rfl, by decide +kernel, rfl, by decide +kernel, by decide +kernel⟩, F.bindsN fun _ _ _ _ _ _ us hl => match us, hl with | [_], _ => rfl, fun e he hx => absurd hx ((by decide +kernel : ∀ e ∈ T.kws, e.x ≠ "law") e he)⟩
theorem facts {K : PySem.W.Frag} {h : Heap} {mg : PySem.Str → Option Value} (X : K.In h) (Gn : h.Ns mainGlobals mg) (c : He.SaysD fa fn K) : Facts T ⟨K, fun _ => none, []⟩ mg :=
  facts_of (gl := gl) (fr := fr) (List.forall_mem_cons.2 ⟨at_is_word X Gn c, List.forall_mem_cons.2 ⟨at__law_pool X Gn c, List.forall_mem_cons.2 ⟨at__law_take X Gn c, List.forall_mem_cons.2 ⟨at__law_is_word X Gn c, List.forall_mem_cons.2 ⟨at__law_drawn X Gn c, List.forall_mem_cons.2 ⟨at_law X Gn c, fun _ h => absurd h (by simp)⟩⟩⟩⟩⟩⟩) (by decide +kernel) rfl (List.forall_mem_cons.2 ⟨glob_str (He.str_ok X Gn (c.fact 17 (f := .str "LETTERS" "abcdefghijklmnopqrstuvwxyz") rfl)), List.forall_mem_cons.2 ⟨glob_int (He.int_ok X Gn (c.fact 18 (f := .int "MOST_SIGNS" 8) rfl)), fun _ h => absurd h (by simp)⟩⟩) rfl (List.forall_mem_cons.2 ⟨He.free_ok X Gn (c.fact 6 (f := .free "isinstance") rfl), List.forall_mem_cons.2 ⟨He.free_ok X Gn (c.fact 7 (f := .free "str") rfl), List.forall_mem_cons.2 ⟨He.free_ok X Gn (c.fact 8 (f := .free "all") rfl), List.forall_mem_cons.2 ⟨He.free_ok X Gn (c.fact 9 (f := .free "len") rfl), List.forall_mem_cons.2 ⟨He.free_ok X Gn (c.fact 10 (f := .free "sum") rfl), List.forall_mem_cons.2 ⟨He.free_ok X Gn (c.fact 11 (f := .free "range") rfl), List.forall_mem_cons.2 ⟨He.free_ok X Gn (c.fact 12 (f := .free "abs") rfl), List.forall_mem_cons.2 ⟨He.free_ok X Gn (c.fact 13 (f := .free "divmod") rfl), List.forall_mem_cons.2 ⟨He.free_ok X Gn (c.fact 14 (f := .free "max") rfl), List.forall_mem_cons.2 ⟨He.free_ok X Gn (c.fact 15 (f := .free "min") rfl), List.forall_mem_cons.2 ⟨He.free_ok X Gn (c.fact 16 (f := .free "bool") rfl), fun _ h => absurd h (by simp)⟩⟩⟩⟩⟩⟩⟩⟩⟩⟩⟩)
end Mo
namespace Mo
open PySem AM
-- is_word: 0=thing 1=sign
def m_is_word (F : PySem.Str → OpN) : List MS :=
  [retN (andN [(callM isiF (evsN [(slotM 0), (retM (.ty "str"))])), (chainM (retM (.int 1)) (callM lenF (evsN [(slotM 0)])) (retM (.int 8)) leO leO), (callM allF (evsN [(compN (walkN (slotM 0)) (asgN 1) allT (bin2 (slotM 1) (retM (.str "abcdefghijklmnopqrstuvwxyz")) inO) [1])]))])]
theorem den_is_word (F : PySem.Str → OpN) (ρ : AM.Env) (h : AH) : blkM (exS F f_is_word.fuel (dcOf T f_is_word)) f_is_word.body ρ h = blkN (m_is_word F) ρ h := by kernel_rfl
theorem run_is_word (k : Nat) (avs : List AV) (h : AH) : runF T (k + 1) "is_word" avs h = finR (blkN (m_is_word (runF T k)) (startA f_is_word.N avs) h) := by
  show finR (blkM (exS (runF T k) f_is_word.fuel (dcOf T f_is_word)) f_is_word.body (startA f_is_word.N avs) h) = _
  rw [den_is_word]
-- _law_pool: 0=_law_script 1=_law_k 2=_law_cell 3=_law_mix 4=_law_found 5=_law_turn
def m__law_pool (F : PySem.Str → OpN) : List MS :=
  [setNN 2 (callM sumF (evsN [(sliceM (slotM 0) (partN (some (slotM 1))) (partN (some (bin2 (slotM 1) (retM (.int 1)) addO))))])),
   ifN (tstM (orN [(bin2 (slotM 2) (retM (.int 0)) ltO), (bin2 (slotM 2) (bin2 (retM (.int 10)) (retM (.int 18)) powO) geO)]))
     [retN (newM (evsN [(bin2 (callM absF (evsN [(slotM 2)])) (bin2 (bin2 (bin2 (bin2 (bin2 (bin2 (retM (.int 10)) (retM (.int 64)) powO) (bin2 (retM (.int 10)) (retM (.int 64)) powO) mulO) (bin2 (retM (.int 10)) (retM (.int 64)) powO) mulO) (bin2 (retM (.int 10)) (retM (.int 64)) powO) mulO) (bin2 (retM (.int 10)) (retM (.int 64)) powO) mulO) (bin2 (retM (.int 10)) (retM (.int 64)) powO) mulO) modO)]))]
     [],
   setNN 3 (bin2 (bin2 (bin2 (slotM 2) (retM (.int 48271)) mulO) (bin2 (bin2 (retM (.int 977)) (slotM 1) mulO) (slotM 1) mulO) addO) (retM (.int 13)) addO),
   setNN 4 (retM (.int 0)),
   forN (rangeN [(retM (.int 27))]) (asgN 5)
     [setNN 3 (bin2 (bin2 (bin2 (bin2 (bin2 (slotM 3) (retM (.int 999999999989)) modO) (retM (.int 69621)) mulO) (bin2 (retM (.int 40503)) (slotM 5) mulO) addO) (retM (.int 271)) addO) (retM (.int 999999999989)) modO),
      setNN 4 (bin2 (bin2 (slotM 4) (bin2 (retM (.int 10)) (retM (.int 11)) powO) mulO) (bin2 (bin2 (slotM 3) (bin2 (bin2 (slotM 3) (retM (.int 65537)) modO) (retM (.int 3)) addO) mulO) (retM (.int 99999999977)) modO) addO)],
   retN (newM (evsN [(slotM 4)]))]
theorem den__law_pool (F : PySem.Str → OpN) (ρ : AM.Env) (h : AH) : blkM (exS F f__law_pool.fuel (dcOf T f__law_pool)) f__law_pool.body ρ h = blkN (m__law_pool F) ρ h := by kernel_rfl
theorem run__law_pool (k : Nat) (avs : List AV) (h : AH) : runF T (k + 1) "_law_pool" avs h = finR (blkN (m__law_pool (runF T k)) (startA f__law_pool.N avs) h) := by
  show finR (blkM (exS (runF T k) f__law_pool.fuel (dcOf T f__law_pool)) f__law_pool.body (startA f__law_pool.N avs) h) = _
  rw [den__law_pool]
-- _law_take: 0=_law_pool_here 1=_law_many 2=_law_digit
def m__law_take (F : PySem.Str → OpN) : List MS :=
  [asgS (callM divmodF (evsN [(bin2 (slotM 0) (retM (.int 0)) idxO), (slotM 1)])) (tgTup 2 [(tgSub (slotM 0) (retM (.int 0))), (tgVar 2)]),
   retN (slotM 2)]
theorem den__law_take (F : PySem.Str → OpN) (ρ : AM.Env) (h : AH) : blkM (exS F f__law_take.fuel (dcOf T f__law_take)) f__law_take.body ρ h = blkN (m__law_take F) ρ h := by kernel_rfl
theorem run__law_take (k : Nat) (avs : List AV) (h : AH) : runF T (k + 1) "_law_take" avs h = finR (blkN (m__law_take (runF T k)) (startA f__law_take.N avs) h) := by
  show finR (blkM (exS (runF T k) f__law_take.fuel (dcOf T f__law_take)) f__law_take.body (startA f__law_take.N avs) h) = _
  rw [den__law_take]
-- _law_is_word: 0=_law_some_one 1=_law_sign
def m__law_is_word (F : PySem.Str → OpN) : List MS :=
  [ifN (tstM (orN [(notM (callM isiF (evsN [(slotM 0), (retM (.ty "str"))]))), (notM (chainM (retM (.int 1)) (callM lenF (evsN [(slotM 0)])) (retM (.int 8)) leO leO))]))
     [retN (retM (.bl false))]
     [],
   retN (callM allF (evsN [(compN (walkN (slotM 0)) (asgN 1) allT (bin2 (slotM 1) (retM (.str "abcdefghijklmnopqrstuvwxyz")) inO) [1])]))]
theorem den__law_is_word (F : PySem.Str → OpN) (ρ : AM.Env) (h : AH) : blkM (exS F f__law_is_word.fuel (dcOf T f__law_is_word)) f__law_is_word.body ρ h = blkN (m__law_is_word F) ρ h := by kernel_rfl
theorem run__law_is_word (k : Nat) (avs : List AV) (h : AH) : runF T (k + 1) "_law_is_word" avs h = finR (blkN (m__law_is_word (runF T k)) (startA f__law_is_word.N avs) h) := by
  show finR (blkM (exS (runF T k) f__law_is_word.fuel (dcOf T f__law_is_word)) f__law_is_word.body (startA f__law_is_word.N avs) h) = _
  rw [den__law_is_word]
-- _law_drawn: 0=_law_pool_here 1=_law_found 2=_law_place 3=_law_spot 4=_law_sign 5=_law_some
def m__law_drawn (F : PySem.Str → OpN) : List MS :=
  [setNN 1 (retM (.str "")),
   forN (rangeN [(bin2 (retM (.int 1)) (callM (F "_law_take") (evsN [(slotM 0), (retM (.int 10))])) addO)]) (asgN 2)
     [setNN 1 (bin2 (slotM 1) (bin2 (retM (.str "abcdefghijklmnopqrstuvwxyz")) (callM (F "_law_take") (evsN [(slotM 0), (retM (.int 26))])) idxO) addO)],
   setNN 3 (callM (F "_law_take") (evsN [(slotM 0), (bin2 (callM lenF (evsN [(slotM 1)])) (retM (.int 1)) addO)])),
   setNN 4 (bin2 (lstM (evsN [(retM (.str "A")), (retM (.str "0")), (retM (.str " ")), (retM (.str "-")), (retM (.str "\n")), (retM (.str "z")), (retM (.str "#")), (retM (.str "."))])) (callM (F "_law_take") (evsN [(slotM 0), (retM (.int 8))])) idxO),
   setNN 5 (lstM (evsN [(slotM 1), (slotM 1), (bin2 (bin2 (sliceM (slotM 1) (partN none) (partN (some (slotM 3)))) (slotM 4) addO) (sliceM (slotM 1) (partN (some (slotM 3))) (partN none)) addO), (bin2 (sliceM (slotM 1) (partN none) (partN (some (slotM 3)))) (sliceM (slotM 1) (partN (some (bin2 (slotM 3) (retM (.int 1)) addO))) (partN none)) addO)])),
   retN (bin2 (bin2 (slotM 5) (lstM (evsN [(bin2 (bin2 (sliceM (slotM 1) (partN none) (partN (some (slotM 3)))) (slotM 4) addO) (sliceM (slotM 1) (partN (some (bin2 (slotM 3) (retM (.int 1)) addO))) (partN none)) addO), (smt0 upperF (slotM 1))])) addO) (callM (F "_law_take") (evsN [(slotM 0), (retM (.int 6))])) idxO)]
theorem den__law_drawn (F : PySem.Str → OpN) (ρ : AM.Env) (h : AH) : blkM (exS F f__law_drawn.fuel (dcOf T f__law_drawn)) f__law_drawn.body ρ h = blkN (m__law_drawn F) ρ h := by kernel_rfl
theorem run__law_drawn (k : Nat) (avs : List AV) (h : AH) : runF T (k + 1) "_law_drawn" avs h = finR (blkN (m__law_drawn (runF T k)) (startA f__law_drawn.N avs) h) := by
  show finR (blkM (exS (runF T k) f__law_drawn.fuel (dcOf T f__law_drawn)) f__law_drawn.body (startA f__law_drawn.N avs) h) = _
  rw [den__law_drawn]
-- law: 0=_law_script 1=_law_odds 2=_law_k 3=_law_pool_here 4=_law_one 5=_law_found 6=_law_turn
def m_law (F : PySem.Str → OpN) : List MS :=
  [setNN 1 (lstM (evsN [(retM .non), (retM (.int 0)), (retM (.int 1)), (retM (.bl true)), (retM (.str "")), (retM (.str " ")), (tupM (evsN [(retM (.str "ann"))])), (lstM (evsN [(retM (.str "ann"))])), dicN, (tupM (evsN [(lstM (evsN []))])), (lstM (evsN [(lstM (evsN [(retM (.str "ann"))]))])), (retM (.str "ann ")), (retM (.str "Ann")), (retM (.str "a\nb")), (tupM (evsN [])), (retM (.str "#1")), (retM (.str "a1"))])),
   forN (rangeN [(callM maxF (evsN [(retM (.int 2)), (callM minF (evsN [(callM lenF (evsN [(slotM 0)])), (retM (.int 16))]))]))]) (asgN 2)
     [setNN 3 (callM (F "_law_pool") (evsN [(slotM 0), (slotM 2)])),
      forN (walkN (bin2 (bin2 (compN (rangeN [(retM (.int 6))]) (asgN 6) allT (callM (F "_law_drawn") (evsN [(slotM 3)])) [6]) (slotM 1) addO) (lstM (evsN [(retM (.str "abcdefgh")), (retM (.str "abcdefghi")), (retM (.str "a")), (bin2 (retM (.str "z")) (retM (.int 9)) mulO)])) addO)) (asgN 4)
        [setNN 5 (callM (F "is_word") (evsN [(slotM 4)])),
         ifN (tstM (orN [(notM (callM isiF (evsN [(slotM 5), (retM (.ty "bool"))]))), (bin2 (slotM 5) (callM (F "_law_is_word") (evsN [(slotM 4)])) neO), (bin2 (callKM (F "is_word") [0] (evsN []) (evsN [(slotM 4)])) (slotM 5) neO)]))
           [retN (retM (.bl false))]
           []]],
   retN (retM (.bl true))]
theorem den_law (F : PySem.Str → OpN) (ρ : AM.Env) (h : AH) : blkM (exS F f_law.fuel (dcOf T f_law)) f_law.body ρ h = blkN (m_law F) ρ h := by kernel_rfl
theorem run_law (k : Nat) (avs : List AV) (h : AH) : runF T (k + 1) "law" avs h = finR (blkN (m_law (runF T k)) (startA f_law.N avs) h) := by
  show finR (blkM (exS (runF T k) f_law.fuel (dcOf T f_law)) f_law.body (startA f_law.N avs) h) = _
  rw [den_law]
end Mo
namespace Mo
open PySem PySem.Spec PyProof.Rows L2 AM
/-- both word tests agree at v -/
def PW (v : AV) : Prop := ∃ b : Bool, ∀ h k, runF T (k + 1) "is_word" [v] h = .ok (.bl b) h ∧ runF T (k + 1) "_law_is_word" [v] h = .ok (.bl b) h
theorem pw_no {v : AV} (e1 : ∀ h k, runF T (k + 1) "is_word" [v] h = .ok (.bl false) h) (e2 : ∀ h k, runF T (k + 1) "_law_is_word" [v] h = .ok (.bl false) h) : PW v := ⟨false, fun h k => ⟨e1 h k, e2 h k⟩⟩
theorem pw_test : PW (.int 0) := pw_no (fun h k => by rw [run_is_word]; rfl) (fun h k => by rw [run__law_is_word]; rfl)
/-- a sign is a letter -/
def lb (a : AV) : Bool := match a with
  | .str c => !(Builtin.Str.occurrences "abcdefghijklmnopqrstuvwxyz" c 0 26 1).isEmpty
  | _ => false
theorem lb_all (z : Str) : blsOf ((AM.signs z).map fun a => .bl (lb a)) = some ((AM.signs z).map lb) := by
  have e : ((AM.signs z).map fun a => AV.bl (lb a)) = ((AM.signs z).map lb).map AV.bl := by simp
  rw [e, blsOf_map]
theorem signs_len (s : Str) : (AM.signs s).length = s.length := by unfold AM.signs; simp [Str.length]
theorem all_ok {ρ : AM.Env} {h : AH} {s : Str} (hρ : ρ[0]? = some (some (.str s))) (h1 : 1 < ρ.length) (hs : s.length ≤ 8) :
    callM allF (evsN [(compN (walkN (slotM 0)) (asgN 1) allT (bin2 (slotM 1) (retM (.str "abcdefghijklmnopqrstuvwxyz")) inO) [1])]) ρ h = .ok (.bl (((AM.signs s).map lb).all id)) h := by
  refine x_call (x_one (x_comp (x_walk (x_slot hρ) rfl) (compL_pure (fun a => .bl (lb a)) (AM.signs s) [] (fun a ha => ?_) ?_))) ?_
  · unfold AM.signs at ha
    obtain ⟨c, hc, rfl⟩ := List.mem_map.mp ha
    exact ⟨_, rfl, rfl, x_bin (x_slot (List.getElem?_set_self (by simpa [wipeA] using h1))) x_ret rfl⟩
  · rw [signs_len, sizeLine_eq]
    simp
    omega
  · show (match (blsOf ([] ++ (AM.signs s).map fun a => .bl (lb a))).map fun bs => AV.bl (bs.all id) with | some w => Res.ok w h | none => .stk) = _
    rw [List.nil_append, lb_all]
    rfl
theorem x_le {i j : Int} {h : AH} : leO (.int i) (.int j) h = .ok (.bl (decide (i ≤ j))) h := rfl
theorem isi_str {s : Str} {h : AH} : isiF [.str s, .ty "str"] h = .ok (.bl true) h := rfl
theorem len_str {s : Str} {h : AH} (hs : lenOk s.length = true) : lenF [.str s] h = .ok (.int s.length) h := by
  show (match (if lenOk s.length then some s.length else none) with | some n => Res.ok (AV.int n) h | none => .stk) = _
  rw [if_pos hs]
theorem pw_str {s : Str} (hs : lenOk s.length = true) : PW (.str s) := by
  have el : ∀ ρ : AM.Env, ∀ h, ρ[0]? = some (some (.str s)) → chainM (retM (.int 1)) (callM lenF (evsN [(slotM 0)])) (retM (.int 8)) leO leO ρ h = .ok (.bl (decide ((1 : Int) ≤ s.length) && decide ((s.length : Int) ≤ 8))) h := fun ρ h hρ => by
    have e1 : callM lenF (evsN [(slotM 0)]) ρ h = .ok (.int s.length) h := x_call (x_one (x_slot hρ)) (len_str hs)
    by_cases c : (1 : Int) ≤ s.length
    · rw [decide_eq_true c]
      exact x_chainT x_ret e1 (by rw [x_le, decide_eq_true c]) x_ret rfl
    · rw [decide_eq_false c]
      exact x_chainF x_ret e1 (by rw [x_le, decide_eq_false c])
  refine ⟨(decide ((1 : Int) ≤ s.length) && decide ((s.length : Int) ≤ 8)) && ((AM.signs s).map lb).all id, fun h k => ⟨?_, ?_⟩⟩
  · rw [run_is_word]
    have e : blkN (m_is_word (runF T k)) (startA f_is_word.N [.str s]) h = .rt (.bl ((decide ((1 : Int) ≤ s.length) && decide ((s.length : Int) ≤ 8)) && ((AM.signs s).map lb).all id)) h := by
      refine s_ret (x_andT (x_call (x_two (x_slot rfl) x_ret) isi_str) rfl ?_)
      by_cases c : (decide ((1 : Int) ≤ s.length) && decide ((s.length : Int) ≤ 8)) = true
      · rw [c, Bool.true_and]
        refine x_andT (el _ _ rfl) (by rw [c]; rfl) (all_ok rfl (show 1 < 2 by decide) (by simp at c; omega))
      · rw [Bool.eq_false_iff.mpr c]
        have := el [some (.str s), none] h rfl
        rw [Bool.eq_false_iff.mpr c] at this
        exact x_andF this rfl
    rw [e]
    rfl
  · rw [run__law_is_word]
    have e : blkN (m__law_is_word (runF T k)) (startA f__law_is_word.N [.str s]) h = .rt (.bl ((decide ((1 : Int) ≤ s.length) && decide ((s.length : Int) ≤ 8)) && ((AM.signs s).map lb).all id)) h := by
      have e1 : orM (notM (callM isiF (evsN [(slotM 0), (retM (.ty "str"))]))) (notM (chainM (retM (.int 1)) (callM lenF (evsN [(slotM 0)])) (retM (.int 8)) leO leO)) [some (.str s), none] h = .ok (.bl (!(decide ((1 : Int) ≤ s.length) && decide ((s.length : Int) ≤ 8)))) h :=
        x_orF (x_not (x_call (x_two (x_slot rfl) x_ret) isi_str) rfl) rfl (x_not (el _ _ rfl) rfl)
      by_cases c : (decide ((1 : Int) ≤ s.length) && decide ((s.length : Int) ≤ 8)) = true
      · rw [c] at e1
        rw [c, Bool.true_and]
        exact s_ifF (x_tst e1 rfl) (s_ret (all_ok rfl (show 1 < 2 by decide) (by simp at c; omega)))
      · rw [Bool.eq_false_iff.mpr c] at e1
        rw [Bool.eq_false_iff.mpr c]
        exact s_ifT (x_tst e1 rfl) (s_ret x_ret) rfl
    rw [e]
    rfl
/-! ### the pool -/
def Pl (p : Nat) (n : Int) (h : AH) : Prop := 0 ≤ n ∧ h[p]? = some (.lst [.int n])
theorem take_ok {k p : Nat} {m n : Int} {h : AH} (hp : Pl p n h) (h0 : 0 < m) (h1 : m < 1000000) : ∃ h', runF T (k + 1) "_law_take" [.ref p, .int m] h = .ok (.int (n % m)) h' ∧ Pl p (n / m) h' ∧ h'.length = h.length := by
  obtain ⟨hn, e⟩ := hp
  have hl : p < h.length := (List.getElem?_eq_some_iff.mp e).1
  refine ⟨h.set p (.lst [.int (n / m)]), ?_, ⟨Int.ediv_nonneg hn (by omega), List.getElem?_set_self hl⟩, by simp⟩
  rw [run__law_take]
  have ex : ∀ (ρ : AM.Env), ρ[0]? = some (some (.ref p)) → bin2 (slotM 0) (retM (.int 0)) idxO ρ h = .ok (.int n) h := fun ρ hρ => x_bin (x_slot hρ) x_ret (by
    show (match h[p]? with | some (.lst xs) => _ | _ => _) = _
    rw [e]
    rfl)
  have ed : divmodF [.int n, .int m] h = .ok (.tup [.int (n / m), .int (n % m)]) h := by
    have hd : Builtin.divisionGoesByPylong n m = false := by
      unfold Builtin.divisionGoesByPylong
      have : m.natAbs.log2 < 20 := (Nat.log2_lt (by omega)).mpr (by omega)
      simp only [Bool.and_eq_false_iff, decide_eq_false_iff_not]
      left
      split <;> omega
    show (if 0 < m ∧ Builtin.divisionGoesByPylong n m = false then Res.ok (AV.tup [.int (n / m), .int (n % m)]) h else .stk) = _
    rw [if_pos ⟨h0, hd⟩]
  have e2 : blkN (m__law_take (runF T k)) (startA f__law_take.N [.ref p, .int m]) h = .rt (.int (n % m)) (h.set p (.lst [.int (n / m)])) := by
    refine s_asg (x_call (x_two (ex _ rfl) (x_slot rfl)) ed) (ρ1 := [some (.ref p), some (.int m), some (.int (n % m))]) (h2 := h.set p (.lst [.int (n / m)])) ?_ (s_ret (x_slot rfl))
    show ((exM (.ok (.ref p) h) _ fun ov h1 => exM (.ok (.int 0) h1) _ fun iv h2 => match setF ov iv (.int (n / m)) h2 with | some h3 => SR.nx _ h3 | none => .stk).seq _) = _
    show ((match (match h[p]? with | some (.lst xs) => (ixN xs.length 0).map fun j => h.set p (.lst (xs.set j (.int (n / m)))) | _ => none) with | some h3 => SR.nx _ h3 | none => .stk).seq _) = _
    rw [e]
    rfl
  rw [e2]
  rfl
theorem x_add {i j : Int} {h : AH} : addO (.int i) (.int j) h = .ok (.int (i + j)) h := rfl
theorem x_cat {a b : Str} {h : AH} (l : a.length + b.length ≤ 1000) : addO (.str a) (.str b) h = .ok (.str (a ++ b)) h := by
  show (if lenOk (a.length + b.length) then _ else _) = _
  rw [if_pos]
  exact Nat.ble_eq_true_of_le (by rw [sizeLine_eq]; omega)
theorem ok_len {n : Nat} (l : n ≤ 1000) : lenOk n = true := Nat.ble_eq_true_of_le (by rw [sizeLine_eq]; omega)
theorem atI_nat {α : Type} {xs : List α} {j : Int} (h0 : 0 ≤ j) (h1 : j < xs.length) : ∃ x, atI xs j = some x ∧ x ∈ xs := by
  unfold atI ixN
  rw [if_pos h0, if_pos h1]
  have : j.toNat < xs.length := by omega
  exact ⟨xs[j.toNat], by simp [this], List.getElem_mem _⟩
/-- the letter that is taken -/
theorem letter_ok {j : Int} {h : AH} (h0 : 0 ≤ j) (h1 : j < 26) : ∃ c, idxO (.str "abcdefghijklmnopqrstuvwxyz") (.int j) h = .ok (.str ⟨#[c]⟩) h := by
  obtain ⟨c, e, _⟩ := atI_nat (xs := ("abcdefghijklmnopqrstuvwxyz" : Str).cps.toList) h0 h1
  refine ⟨c, ?_⟩
  show (if lenOk ("abcdefghijklmnopqrstuvwxyz" : Str).length then (match atI ("abcdefghijklmnopqrstuvwxyz" : Str).cps.toList j with | some c => Res.ok (AV.str ⟨#[c]⟩) h | none => .stk) else .stk) = _
  rw [e]
  rfl
/-- _law_take as a call within -/
theorem x_take {k p i : Nat} {ρ : AM.Env} {h h1 : AH} {m : ME} {n mm : Int} (hρ : ρ[i]? = some (some (.ref p))) (em : m ρ h = .ok (.int mm) h1) (hp : Pl p n h1) (h0 : 0 < mm) (h2 : mm < 1000000) :
    ∃ h', callM (runF T (k + 1) "_law_take") (evsN [slotM i, m]) ρ h = .ok (.int (n % mm)) h' ∧ Pl p (n / mm) h' ∧ h'.length = h1.length := by
  obtain ⟨h', e, q, l⟩ := take_ok (k := k) hp h0 h2
  exact ⟨h', x_call (x_two (x_slot hρ) em) e, q, l⟩
theorem range_ok {j : Int} {h : AH} (h0 : -1000 ≤ j) (h1 : j ≤ 1000) : rangeR [.int j] h = .ok (ranges 0 j.toNat) h := by
  show (if small62 j then _ else _) = _
  rw [if_pos]
  unfold small62
  rw [Bool.and_eq_true, decide_eq_true_eq, decide_eq_true_eq]
  omega
theorem ranges_len {lo : Int} {n : Nat} : (ranges lo n).length = n := by simp [ranges]
theorem ranges_at {lo : Int} {n j : Nat} {a : AV} (e : (ranges lo n)[j]? = some a) : j < n ∧ a = .int (lo + j) := by
  unfold ranges at e
  rw [List.getElem?_map] at e
  obtain ⟨i, e1, rfl⟩ := Option.map_eq_some_iff.mp e
  obtain ⟨hj, e2⟩ := List.getElem?_eq_some_iff.mp e1
  simp at hj e2
  subst e2
  exact ⟨hj, rfl⟩
theorem lst_at {xs : List AV} {j : Int} {h : AH} (h0 : 0 ≤ j) (h1 : j < xs.length) : ∃ x ∈ xs, idxO (.lst xs) (.int j) h = .ok x h := by
  obtain ⟨x, e, m⟩ := atI_nat h0 h1
  refine ⟨x, m, ?_⟩
  show (match atI xs j with | some x => Res.ok x h | none => .stk) = _
  rw [e]
theorem x_cut {s : Str} {lo hi : Option Int} {h : AH} (l : s.length ≤ 1000) : sliceF (.str s) lo hi h = .ok (.str (cutS s lo hi)) h := by
  show (if lenOk s.length then _ else _) = _
  rw [if_pos (ok_len l)]
theorem x_cutS {ρ : AM.Env} {h : AH} {s : Str} {i : Nat} {lo hi : AM.Env → AH → Res (Option Int)} {l u : Option Int} (hρ : ρ[i]? = some (some (.str s))) (ls : s.length ≤ 1000) (e2 : lo ρ h = .ok l h) (e3 : hi ρ h = .ok u h) : sliceM (slotM i) lo hi ρ h = .ok (.str (cutS s l u)) h :=
  x_slice (x_slot hρ) e2 e3 (x_cut ls)
theorem drawn_ok {k p : Nat} {n : Int} {h : AH} (hp : Pl p n h) : ∃ s n' h', runF T (k + 2) "_law_drawn" [.ref p] h = .ok (.str s) h' ∧ lenOk s.length = true ∧ Pl p n' h' ∧ h'.length = h.length := by
  rw [run__law_drawn]
  have main : ∃ s n' h', blkN (m__law_drawn (runF T (k + 1))) (startA f__law_drawn.N [.ref p]) h = .rt (.str s) h' ∧ lenOk s.length = true ∧ Pl p n' h' ∧ h'.length = h.length := by
    obtain ⟨h1, t1, p1, l1⟩ := x_take (k := k) (i := 0) (ρ := [some (.ref p), some (.str ""), none, none, none, none]) (m := retM (.int 10)) rfl x_ret hp (by decide) (by decide)
    have b1 := Int.emod_nonneg n (show (10 : Int) ≠ 0 by decide)
    have b2 := Int.emod_lt_of_pos n (show (0 : Int) < 10 by decide)
    obtain ⟨ρ', h2, e2, s, x, n2, rfl, ls, p2, l2⟩ := forL_inv (asg := asgN 2) (body := blkN [setNN 1 (bin2 (slotM 1) (bin2 (retM (.str "abcdefghijklmnopqrstuvwxyz")) (callM (runF T (k + 1) "_law_take") (evsN [(slotM 0), (retM (.int 26))])) idxO) addO)])
      (fun i ρ h2 => ∃ (s : Str) (x : Option AV) (n2 : Int), ρ = [some (.ref p), some (.str s), x, none, none, none] ∧ s.length = i ∧ Pl p n2 h2 ∧ h2.length = h.length) (ranges 0 (1 + n % 10).toNat) 0 [some (.ref p), some (.str ""), none, none, none, none] h1
      (fun j a ha ρ h3 ⟨s, x, n3, hρ, ls, p3, l3⟩ => by
        obtain ⟨hj, rfl⟩ := ranges_at ha
        subst hρ
        obtain ⟨h4, t4, p4, l4⟩ := x_take (k := k) (i := 0) (ρ := [some (.ref p), some (.str s), some (.int (0 + (j : Nat))), none, none, none]) (m := retM (.int 26)) rfl x_ret p3 (by decide) (by decide)
        obtain ⟨c, ec⟩ := letter_ok (j := n3 % 26) (h := h4) (Int.emod_nonneg _ (by decide)) (Int.emod_lt_of_pos _ (by decide))
        refine ⟨[some (.ref p), some (.str s), some (.int (0 + (j : Nat))), none, none, none], _, h4, rfl, s_set (x_bin (x_slot rfl) (x_bin x_ret t4 ec) (x_cat (by show s.length + 1 ≤ 1000; omega))) s_end, s ++ ⟨#[c]⟩, _, _, rfl, ?_, p4, l4.trans l3⟩
        rw [Str.length_append, ls]
        rfl) ⟨"", none, _, rfl, rfl, p1, l1⟩
    rw [ranges_len] at ls
    have ls : s.length ≤ 10 := by omega
    -- the spot
    obtain ⟨h3, t3, p3, l3⟩ := x_take (k := k) (i := 0) (ρ := [some (.ref p), some (.str s), x, none, none, none]) (m := bin2 (callM lenF (evsN [(slotM 1)])) (retM (.int 1)) addO) (h := h2) (mm := s.length + 1) rfl
      (x_bin (x_call (x_one (x_slot rfl)) (len_str (ok_len (by omega)))) x_ret x_add) p2 (by omega) (by omega)
    -- the sign
    obtain ⟨h4, t4, p4, l4⟩ := x_take (k := k) (i := 0) (ρ := [some (.ref p), some (.str s), x, some (.int (n2 % (s.length + 1))), none, none]) (m := retM (.int 8)) (h := h3) rfl x_ret p3 (by decide) (by decide)
    obtain ⟨sg, msg, esg⟩ := lst_at (xs := [.str "A", .str "0", .str " ", .str "-", .str "\n", .str "z", .str "#", .str "."]) (j := n2 / (s.length + 1) % 8) (h := h4) (Int.emod_nonneg _ (by decide)) (Int.emod_lt_of_pos _ (by decide))
    obtain ⟨z, rfl, lz⟩ : ∃ z : Str, sg = .str z ∧ z.length = 1 := by
      simp only [List.mem_cons, List.not_mem_nil, or_false] at msg
      rcases msg with rfl | rfl | rfl | rfl | rfl | rfl | rfl | rfl <;> exact ⟨_, rfl, rfl⟩
    -- the six
    have lu : (Txt.upper s).length ≤ 30 := by have := len_upper s; omega
    have lc : ∀ lo hi, (cutS s lo hi).length ≤ 10 := fun lo hi => Nat.le_trans (cutS_length s lo hi) ls
    obtain ⟨h5, t5, p5, l5⟩ := x_take (k := k) (i := 0) (ρ := [some (.ref p), some (.str s), x, some (.int (n2 % (s.length + 1))), some (.str z), some (.lst [.str s, .str s, .str (cutS s none (some (n2 % (s.length + 1))) ++ z ++ cutS s (some (n2 % (s.length + 1))) none), .str (cutS s none (some (n2 % (s.length + 1))) ++ cutS s (some (n2 % (s.length + 1) + 1)) none)])]) (m := retM (.int 6)) (h := h4) rfl x_ret p4 (by decide) (by decide)
    obtain ⟨r, mr, er⟩ := lst_at (xs := [.str s, .str s, .str (cutS s none (some (n2 % (s.length + 1))) ++ z ++ cutS s (some (n2 % (s.length + 1))) none), .str (cutS s none (some (n2 % (s.length + 1))) ++ cutS s (some (n2 % (s.length + 1) + 1)) none)] ++ [.str (cutS s none (some (n2 % (s.length + 1))) ++ z ++ cutS s (some (n2 % (s.length + 1) + 1)) none), .str (Txt.upper s)]) (j := n2 / (s.length + 1) / 8 % 6) (h := h5) (Int.emod_nonneg _ (by decide)) (Int.emod_lt_of_pos _ (by decide))
    obtain ⟨t, rfl, lt⟩ : ∃ t : Str, r = .str t ∧ t.length ≤ 30 := by
      simp only [List.mem_cons, List.mem_append, List.not_mem_nil, or_false] at mr
      have a1 := lc none (some (n2 % (s.length + 1)))
      have a2 := lc (some (n2 % (s.length + 1))) none
      have a3 := lc (some (n2 % (s.length + 1) + 1)) none
      rcases mr with (rfl | rfl | rfl | rfl) | rfl | rfl
      all_goals refine ⟨_, rfl, ?_⟩
      all_goals (try simp only [Str.length_append])
      all_goals omega
    refine ⟨t, _, h5, ?_, ok_len (by omega), p5, by omega⟩
    have c1 : ∀ (ρ : AM.Env) (h : AH), ρ[1]? = some (some (.str s)) → ρ[3]? = some (some (.int (n2 % (s.length + 1)))) → sliceM (slotM 1) (partN none) (partN (some (slotM 3))) ρ h = .ok (.str (cutS s none (some (n2 % (s.length + 1))))) h := fun ρ h e1 e3 => x_cutS e1 (by omega) x_part0 (x_part (x_slot e3))
    have c2 : ∀ (ρ : AM.Env) (h : AH), ρ[1]? = some (some (.str s)) → ρ[3]? = some (some (.int (n2 % (s.length + 1)))) → sliceM (slotM 1) (partN (some (slotM 3))) (partN none) ρ h = .ok (.str (cutS s (some (n2 % (s.length + 1))) none)) h := fun ρ h e1 e3 => x_cutS e1 (by omega) (x_part (x_slot e3)) x_part0
    have c3 : ∀ (ρ : AM.Env) (h : AH), ρ[1]? = some (some (.str s)) → ρ[3]? = some (some (.int (n2 % (s.length + 1)))) → sliceM (slotM 1) (partN (some (bin2 (slotM 3) (retM (.int 1)) addO))) (partN none) ρ h = .ok (.str (cutS s (some (n2 % (s.length + 1) + 1)) none)) h := fun ρ h e1 e3 => x_cutS e1 (by omega) (x_part (x_bin (x_slot e3) x_ret x_add)) x_part0
    have k1 := lc none (some (n2 % (s.length + 1)))
    have k2 := lc (some (n2 % (s.length + 1))) none
    have k3 := lc (some (n2 % (s.length + 1) + 1)) none
    have cz : (cutS s none (some (n2 % (s.length + 1))) ++ z).length ≤ 11 := by rw [Str.length_append]; omega
    refine s_set x_ret (s_for (x_range (x_one (x_bin x_ret t1 x_add)) (range_ok (by omega) (by omega))) e2 (s_set t3 (s_set (x_bin (x_lst (x_cons x_ret (x_cons x_ret (x_cons x_ret (x_cons x_ret (x_cons x_ret (x_cons x_ret (x_cons x_ret (x_cons x_ret x_nil)))))))) rfl) t4 esg)
      (s_set (x_lst (x_cons (x_slot rfl) (x_cons (x_slot rfl) (x_cons (x_bin (x_bin (c1 _ _ rfl rfl) (x_slot rfl) (x_cat (by omega))) (c2 _ _ rfl rfl) (x_cat (by omega))) (x_cons (x_bin (c1 _ _ rfl rfl) (c3 _ _ rfl rfl) (x_cat (by omega))) x_nil)))) rfl)
        (s_ret (x_bin (x_bin (x_slot rfl) (x_lst (x_cons (x_bin (x_bin (c1 _ _ rfl rfl) (x_slot rfl) (x_cat (by omega))) (c3 _ _ rfl rfl) (x_cat (by omega))) (x_cons ?_ x_nil)) rfl) rfl) t5 er))))))
    show ((slotM 1 _ _).bind _) = _
    rw [x_slot rfl]
    show (if s.length ≤ 5592405 then _ else _) = _
    rw [if_pos (by omega)]
  obtain ⟨s, n', h', e, q⟩ := main
  exact ⟨s, n', h', by rw [e]; rfl, q⟩
end Mo
namespace Mo
open PySem PySem.Spec PyProof.Rows L2 AM
def Sm (i : Int) : Prop := i.natAbs < 2 ^ 1000
theorem sm_of {i : Int} (h0 : 0 ≤ i) (h1 : i < 10 ^ 40) : Sm i := by
  unfold Sm
  have a : i.natAbs < 10 ^ 40 := by omega
  exact Nat.lt_trans a (by decide +kernel)
theorem mul_ok {i j : Int} {h : AH} (a : Sm i) (b : Sm j) : mulO (.int i) (.int j) h = .ok (.int (i * j)) h := by
  show (if i.natAbs.log2 + j.natAbs.log2 < 1000000 then _ else _) = _
  rw [if_pos]
  have x := PySem.Flt.log2_lt_of (by decide) a
  have y := PySem.Flt.log2_lt_of (by decide) b
  omega
theorem mod_ok {i j : Int} {h : AH} (a : 0 < j) : modO (.int i) (.int j) h = .ok (.int (i % j)) h := by
  show (if 0 < j then _ else _) = _
  rw [if_pos a]
theorem cut_map {α β : Type} (f : α → β) (xs : List α) (lo hi : Option Int) : cutA (xs.map f) lo hi = (cutA xs lo hi).map f := by
  unfold cutA
  rw [List.length_map, List.map_take, List.map_drop]
theorem sum_ok {ns : List Int} {h : AH} : sumF [.lst (ns.map .int)] h = .ok (.int ns.sum) h := by
  show (match (intsOf (ns.map .int)).map fun bs => AV.int bs.sum with | some w => Res.ok w h | none => .stk) = _
  rw [intsOf_map]
  rfl
theorem big_ok {ρ : AM.Env} {h : AH} : (bin2 (bin2 (bin2 (bin2 (bin2 (bin2 (retM (.int 10)) (retM (.int 64)) powO) (bin2 (retM (.int 10)) (retM (.int 64)) powO) mulO) (bin2 (retM (.int 10)) (retM (.int 64)) powO) mulO) (bin2 (retM (.int 10)) (retM (.int 64)) powO) mulO) (bin2 (retM (.int 10)) (retM (.int 64)) powO) mulO) (bin2 (retM (.int 10)) (retM (.int 64)) powO) mulO) ρ h = .ok (.int (10 ^ 384)) h := by kernel_rfl
theorem p18_ok {ρ : AM.Env} {h : AH} : bin2 (retM (.int 10)) (retM (.int 18)) powO ρ h = .ok (.int 1000000000000000000) h := by kernel_rfl
theorem p11_ok {ρ : AM.Env} {h : AH} : bin2 (retM (.int 10)) (retM (.int 11)) powO ρ h = .ok (.int 100000000000) h := by kernel_rfl
theorem pool_ok {k : Nat} {ns : List Int} {j : Int} {h : AH} (h0 : 0 ≤ j) (h1 : j < 1000) : ∃ n : Int, 0 ≤ n ∧ runF T (k + 1) "_law_pool" [.ext (ns.map .int), .int j] h = .ok (.ref h.length) (h ++ [.lst [.int n]]) := by
  have main : ∃ n : Int, 0 ≤ n ∧ blkN (m__law_pool (runF T k)) (startA f__law_pool.N [.ext (ns.map .int), .int j]) h = .rt (.ref h.length) (h ++ [.lst [.int n]]) := by
    let xs : AV := .ext (ns.map .int)
    let c : Int := (cutA ns (some j) (some (j + 1))).sum
    have hc : callM sumF (evsN [(sliceM (slotM 0) (partN (some (slotM 1))) (partN (some (bin2 (slotM 1) (retM (.int 1)) addO))))]) [some xs, some (.int j), none, none, none, none] h = .ok (.int c) h := by
      refine x_call (x_one (x_slice (x_slot rfl) (x_part (x_slot rfl)) (x_part (x_bin (x_slot rfl) x_ret x_add)) rfl)) ?_
      rw [cut_map, sum_ok]
    have ht : ∀ b : Bool, (decide (c < 0) || decide (1000000000000000000 ≤ c)) = b → tstM (orN [(bin2 (slotM 2) (retM (.int 0)) ltO), (bin2 (slotM 2) (bin2 (retM (.int 10)) (retM (.int 18)) powO) geO)]) [some xs, some (.int j), some (.int c), none, none, none] h = .ok b h := fun b hb => by
      have e1 : bin2 (slotM 2) (retM (.int 0)) ltO [some xs, some (.int j), some (.int c), none, none, none] h = .ok (.bl (decide (c < 0))) h := x_bin (x_slot rfl) x_ret rfl
      have e2 : bin2 (slotM 2) (bin2 (retM (.int 10)) (retM (.int 18)) powO) geO [some xs, some (.int j), some (.int c), none, none, none] h = .ok (.bl (decide (1000000000000000000 ≤ c))) h := x_bin (x_slot rfl) p18_ok rfl
      by_cases z : c < 0
      · rw [decide_eq_true z] at e1 hb
        rw [← hb]
        exact x_tst (x_orT e1 rfl) rfl
      · rw [decide_eq_false z] at e1 hb
        rw [Bool.false_or] at hb
        rw [← hb]
        exact x_tst (x_orF e1 rfl e2) rfl
    by_cases z : (decide (c < 0) || decide (1000000000000000000 ≤ c)) = true
    · refine ⟨(if c < 0 then -c else c) % 10 ^ 384, Int.emod_nonneg _ (by decide +kernel), ?_⟩
      exact s_set hc (s_ifT (ht true z) (s_ret (x_new (x_one (x_bin (x_call (x_one (x_slot rfl)) rfl) big_ok (mod_ok (by decide +kernel)))) rfl)) rfl)
    · have z := Bool.eq_false_iff.mpr z
      have zc : 0 ≤ c ∧ c < 1000000000000000000 := by
        rw [Bool.or_eq_false_iff, decide_eq_false_iff_not, decide_eq_false_iff_not] at z
        omega
      have jj : 0 ≤ 977 * j * j ∧ 977 * j * j < 1000000000 := by
        have a : 0 ≤ j * j := Int.mul_nonneg h0 h0
        have b : j * j ≤ 999 * 999 := Int.mul_le_mul (by omega) (by omega) h0 (by decide)
        rw [Int.mul_assoc]
        omega
      obtain ⟨ρ', h2, e2, mx, f, x, rfl, m0, m1, hf, rfl⟩ := forL_inv (asg := asgN 5) (body := blkN [setNN 3 (bin2 (bin2 (bin2 (bin2 (bin2 (slotM 3) (retM (.int 999999999989)) modO) (retM (.int 69621)) mulO) (bin2 (retM (.int 40503)) (slotM 5) mulO) addO) (retM (.int 271)) addO) (retM (.int 999999999989)) modO),
      setNN 4 (bin2 (bin2 (slotM 4) (bin2 (retM (.int 10)) (retM (.int 11)) powO) mulO) (bin2 (bin2 (slotM 3) (bin2 (bin2 (slotM 3) (retM (.int 65537)) modO) (retM (.int 3)) addO) mulO) (retM (.int 99999999977)) modO) addO)])
        (fun i ρ h2 => ∃ (mx : Int) (f : Nat) (x : Option AV), ρ = [some xs, some (.int j), some (.int c), some (.int mx), some (.int f), x] ∧ 0 ≤ mx ∧ mx < 10 ^ 30 ∧ (i ≤ 27 → f < 10 ^ (11 * i)) ∧ h2 = h) (ranges 0 27) 0 [some xs, some (.int j), some (.int c), some (.int (c * 48271 + 977 * j * j + 13)), some (.int 0), none] h
        (fun t a ha ρ h3 ⟨mx, f, x, hρ, m0, m1, hf, hh⟩ => by
          obtain ⟨hj, rfl⟩ := ranges_at ha
          subst hρ hh
          have hf := hf (by omega)
          have sf : Sm f := by
            have a : (f : Int).natAbs = f := by simp
            unfold Sm
            rw [a]
            exact Nat.lt_trans (Nat.lt_of_lt_of_le hf (Nat.pow_le_pow_right (by decide) (show 11 * (0 + t) ≤ 297 by omega))) (by decide +kernel)
          let m2 : Int := (mx % 999999999989 * 69621 + 40503 * (0 + (t : Nat)) + 271) % 999999999989
          have b0 : 0 ≤ m2 := Int.emod_nonneg _ (by decide)
          have b1 : m2 < 999999999989 := Int.emod_lt_of_pos _ (by decide)
          have e3 : bin2 (bin2 (bin2 (bin2 (bin2 (slotM 3) (retM (.int 999999999989)) modO) (retM (.int 69621)) mulO) (bin2 (retM (.int 40503)) (slotM 5) mulO) addO) (retM (.int 271)) addO) (retM (.int 999999999989)) modO [some xs, some (.int j), some (.int c), some (.int mx), some (.int f), some (.int (0 + (t : Nat)))] h3 = .ok (.int m2) h3 :=
            x_bin (x_bin (x_bin (x_bin (x_bin (x_slot rfl) x_ret (mod_ok (by decide))) x_ret (mul_ok (sm_of (Int.emod_nonneg _ (by decide)) (by have := Int.emod_lt_of_pos mx (show (0 : Int) < 999999999989 by decide); omega)) (sm_of (by decide) (by decide)))) (x_bin x_ret (x_slot rfl) (mul_ok (sm_of (by decide) (by decide)) (sm_of (by omega) (by omega)))) x_add) x_ret x_add) x_ret (mod_ok (by decide))
          let r : Int := m2 * (m2 % 65537 + 3) % 99999999977
          have r0 : 0 ≤ r := Int.emod_nonneg _ (by decide)
          have r1 : r < 99999999977 := Int.emod_lt_of_pos _ (by decide)
          have e4 : bin2 (bin2 (slotM 4) (bin2 (retM (.int 10)) (retM (.int 11)) powO) mulO) (bin2 (bin2 (slotM 3) (bin2 (bin2 (slotM 3) (retM (.int 65537)) modO) (retM (.int 3)) addO) mulO) (retM (.int 99999999977)) modO) addO [some xs, some (.int j), some (.int c), some (.int m2), some (.int f), some (.int (0 + (t : Nat)))] h3 = .ok (.int (f * 100000000000 + r)) h3 :=
            x_bin (x_bin (x_slot rfl) p11_ok (mul_ok sf (sm_of (by decide) (by decide)))) (x_bin (x_bin (x_slot rfl) (x_bin (x_bin (x_slot rfl) x_ret (mod_ok (by decide))) x_ret x_add) (mul_ok (sm_of b0 (by omega)) (sm_of (by have := Int.emod_nonneg m2 (show (65537 : Int) ≠ 0 by decide); omega) (by have := Int.emod_lt_of_pos m2 (show (0 : Int) < 65537 by decide); omega)))) x_ret (mod_ok (by decide))) x_add
          refine ⟨_, _, h3, rfl, s_set e3 (s_set e4 s_end), m2, f * 100000000000 + r.toNat, some (.int (0 + (t : Nat))), ?_, b0, by omega, fun _ => ?_, rfl⟩
          · have : ((f * 100000000000 + r.toNat : Nat) : Int) = f * 100000000000 + r := by omega
            rw [this]
            rfl
          · have e5 : (10 : Nat) ^ (11 * (0 + t + 1)) = 10 ^ (11 * (0 + t)) * 100000000000 := by
              rw [show 11 * (0 + t + 1) = 11 * (0 + t) + 11 by omega, Nat.pow_add]
            rw [e5]
            omega) ⟨_, 0, none, rfl, by omega, by omega, fun _ => by decide, rfl⟩
      refine ⟨f, by omega, ?_⟩
      refine s_set hc (s_ifF (ht false z) (s_set (x_bin (x_bin (x_bin (x_slot rfl) x_ret (mul_ok (sm_of zc.1 (by omega)) (sm_of (by decide) (by decide)))) (x_bin (x_bin x_ret (x_slot rfl) (mul_ok (sm_of (by decide) (by decide)) (sm_of h0 (by omega)))) (x_slot rfl) (mul_ok (sm_of (by omega) (by omega)) (sm_of h0 (by omega)))) x_add) x_ret x_add)
        (s_set x_ret (s_for (x_range (x_one x_ret) (range_ok (by decide) (by decide))) e2 (s_ret (x_new (x_one (x_slot rfl)) rfl))))))
  obtain ⟨n, hn, e⟩ := main
  exact ⟨n, hn, by rw [run__law_pool, e]; rfl⟩
end Mo
namespace Mo
open PySem PySem.Spec PyProof.Rows L2 AM
def OD : List AV := [.non, .int 0, .int 1, .bl true, .str "", .str " ", .tup [.str "ann"], .lst [.str "ann"], .dic [] [], .tup [.lst []], .lst [.lst [.str "ann"]], .str "ann ", .str "Ann", .str "a\nb", .tup [], .str "#1", .str "a1"]
theorem pw_od : ∀ v ∈ OD, PW v := by
  have no : ∀ {v : AV}, (∀ h k, runF T (k + 1) "is_word" [v] h = .ok (.bl false) h) → (∀ h k, runF T (k + 1) "_law_is_word" [v] h = .ok (.bl false) h) → PW v := pw_no
  intro v hv
  simp only [OD, List.mem_cons, List.not_mem_nil, or_false] at hv
  rcases hv with rfl | rfl | rfl | rfl | rfl | rfl | rfl | rfl | rfl | rfl | rfl | rfl | rfl | rfl | rfl | rfl | rfl
  all_goals first
    | exact pw_str rfl
    | exact no (fun h k => by rw [run_is_word]; rfl) (fun h k => by rw [run__law_is_word]; rfl)
theorem pw_end : ∀ v ∈ [AV.str "abcdefgh", .str "abcdefghi", .str "a", .str (Txt.mul "z" 9)], PW v := by
  intro v hv
  simp only [List.mem_cons, List.not_mem_nil, or_false] at hv
  rcases hv with rfl | rfl | rfl | rfl
  all_goals exact pw_str (by decide +kernel)
theorem x_catL {xs ys : List AV} {h : AH} (l : xs.length + ys.length ≤ 1000) : addO (.lst xs) (.lst ys) h = .ok (.lst (xs ++ ys)) h := by
  show (if lenOk (xs.length + ys.length) then _ else _) = _
  rw [if_pos (ok_len l)]
theorem ne_bl {b : Bool} {h : AH} : neO (.bl b) (.bl b) h = .ok (.bl false) h := by cases b <;> rfl
/-- one thing asked -/
theorem turn_ok {k : Nat} {v x0 x1 : AV} {x2 x3 x4 x5 x6 : Option AV} {h : AH} (pv : PW v) : ∃ ρ1 ρ2 h2, asgN 4 v [some x0, some x1, x2, x3, x4, x5, x6] = some ρ1 ∧ blkN [setNN 5 (callM (runF T (k + 1) "is_word") (evsN [(slotM 4)])),
         ifN (tstM (orN [(notM (callM isiF (evsN [(slotM 5), (retM (.ty "bool"))]))), (bin2 (slotM 5) (callM (runF T (k + 1) "_law_is_word") (evsN [(slotM 4)])) neO), (bin2 (callKM (runF T (k + 1) "is_word") [0] (evsN []) (evsN [(slotM 4)])) (slotM 5) neO)]))
           [retN (retM (.bl false))]
           []] ρ1 h = .nx ρ2 h2 ∧ (∃ y4 y5, ρ2 = [some x0, some x1, x2, x3, y4, y5, x6]) ∧ h2 = h := by
  obtain ⟨b, hb⟩ := pv
  have e1 := fun h => (hb h k).1
  have e2 := fun h => (hb h k).2
  refine ⟨_, [some x0, some x1, x2, x3, some v, some (.bl b), x6], h, rfl, ?_, ⟨_, _, rfl⟩, rfl⟩
  refine s_set (x_call (x_one (x_slot rfl)) (e1 h)) (s_ifF (x_tst (x_orF (x_not (t := true) (x_call (x_two (x_slot rfl) x_ret) rfl) rfl) rfl (x_orF (x_bin (x_slot rfl) (x_call (x_one (x_slot rfl)) (e2 h)) ne_bl) rfl (x_bin (x_callK x_nil (x_one (x_slot rfl)) (e1 h)) (x_slot rfl) ne_bl))) rfl) s_end)
theorem law_run : ∀ ns : List Int, ns.length ≤ 63 → ∃ h', runF T 40 f_law.name [.ext (ns.map .int)] [] = .ok (.bl true) h' := by
  intro ns hns
  show ∃ h', runF T (39 + 1) "law" [.ext (ns.map .int)] [] = .ok (.bl true) h'
  rw [run_law]
  have main : ∃ h', blkN (m_law (runF T 39)) (startA f_law.N [.ext (ns.map .int)]) [] = .rt (.bl true) h' := by
    let xs : AV := .ext (ns.map .int)
    let L : Int := ((ns.map AV.int).length : Nat)
    have hL : 0 ≤ L := Int.natCast_nonneg _
    let mn : Int := if (16 : Int) < L then (16 : Int) else L
    let r : Int := if mn > (2 : Int) then mn else (2 : Int)
    have hr : 2 ≤ r ∧ r ≤ 16 := by
      show 2 ≤ (if (if (16 : Int) < L then (16 : Int) else L) > (2 : Int) then (if (16 : Int) < L then (16 : Int) else L) else (2 : Int)) ∧ (if (if (16 : Int) < L then (16 : Int) else L) > (2 : Int) then (if (16 : Int) < L then (16 : Int) else L) else (2 : Int)) ≤ 16
      split <;> split <;> omega
    have e0 : lstM (evsN [(retM .non), (retM (.int 0)), (retM (.int 1)), (retM (.bl true)), (retM (.str "")), (retM (.str " ")), (tupM (evsN [(retM (.str "ann"))])), (lstM (evsN [(retM (.str "ann"))])), dicN, (tupM (evsN [(lstM (evsN []))])), (lstM (evsN [(lstM (evsN [(retM (.str "ann"))]))])), (retM (.str "ann ")), (retM (.str "Ann")), (retM (.str "a\nb")), (tupM (evsN [])), (retM (.str "#1")), (retM (.str "a1"))]) (startA f_law.N [xs]) [] = .ok (.lst OD) [] := rfl
    have er : rangeN [(callM maxF (evsN [(retM (.int 2)), (callM minF (evsN [(callM lenF (evsN [(slotM 0)])), (retM (.int 16))]))]))] [some xs, some (.lst OD), none, none, none, none, none] [] = .ok (ranges 0 r.toNat) [] :=
      x_range (x_one (x_call (x_two x_ret (x_call (x_two (x_call (x_one (x_slot rfl)) rfl) x_ret) rfl)) rfl)) (range_ok (by omega) (by omega))
    obtain ⟨ρ', h', e1, x2, x3, x4, x5, x6, rfl⟩ := forL_all (asg := asgN 2) (body := blkN [setNN 3 (callM (runF T 39 "_law_pool") (evsN [(slotM 0), (slotM 2)])),
      forN (walkN (bin2 (bin2 (compN (rangeN [(retM (.int 6))]) (asgN 6) allT (callM (runF T 39 "_law_drawn") (evsN [(slotM 3)])) [6]) (slotM 1) addO) (lstM (evsN [(retM (.str "abcdefgh")), (retM (.str "abcdefghi")), (retM (.str "a")), (bin2 (retM (.str "z")) (retM (.int 9)) mulO)])) addO)) (asgN 4)
        [setNN 5 (callM (runF T 39 "is_word") (evsN [(slotM 4)])),
         ifN (tstM (orN [(notM (callM isiF (evsN [(slotM 5), (retM (.ty "bool"))]))), (bin2 (slotM 5) (callM (runF T 39 "_law_is_word") (evsN [(slotM 4)])) neO), (bin2 (callKM (runF T 39 "is_word") [0] (evsN []) (evsN [(slotM 4)])) (slotM 5) neO)]))
           [retN (retM (.bl false))]
           []]])
      (fun ρ _ => ∃ x2 x3 x4 x5 x6, ρ = [some xs, some (.lst OD), x2, x3, x4, x5, x6]) (ranges 0 r.toNat) [some xs, some (.lst OD), none, none, none, none, none] [] (fun a ha ρ h hρ => by
        obtain ⟨x2, x3, x4, x5, x6, rfl⟩ := hρ
        obtain ⟨t, ht⟩ := List.mem_iff_getElem?.mp ha
        obtain ⟨hj, rfl⟩ := ranges_at ht
        obtain ⟨n, hn, ep⟩ := pool_ok (k := 38) (ns := ns) (j := 0 + (t : Nat)) (h := h) (by omega) (by omega)
        -- the six drawn
        obtain ⟨ys, h3, ec, _, hys, hl⟩ := compL_inv (asg := asgN 6) (test := allT) (elt := callM (runF T 39 "_law_drawn") (evsN [(slotM 3)])) (ρ := [some xs, some (.lst OD), some (.int (0 + (t : Nat))), some (.ref h.length), x4, x5, none])
          (fun h4 => ∃ n, Pl h.length n h4) PW (ranges 0 6) [] (h ++ [.lst [.int n]]) (fun a _ h4 ⟨n4, p4⟩ => by
            obtain ⟨s, n5, h5, e5, l5, p5, _⟩ := drawn_ok (k := 37) p4
            exact ⟨_, .str s, h5, rfl, rfl, x_call (x_one (x_slot rfl)) e5, ⟨n5, p5⟩, pw_str l5⟩) ⟨n, hn, by simp⟩ (by simp) (by rw [sizeLine_eq]; decide)
        have hys6 : ys.length = 6 := by rw [hl]; rfl
        -- all the things
        have ew : walkN (bin2 (bin2 (compN (rangeN [(retM (.int 6))]) (asgN 6) allT (callM (runF T 39 "_law_drawn") (evsN [(slotM 3)])) [6]) (slotM 1) addO) (lstM (evsN [(retM (.str "abcdefgh")), (retM (.str "abcdefghi")), (retM (.str "a")), (bin2 (retM (.str "z")) (retM (.int 9)) mulO)])) addO) [some xs, some (.lst OD), some (.int (0 + (t : Nat))), some (.ref h.length), x4, x5, x6] (h ++ [.lst [.int n]])
            = .ok ((ys ++ OD) ++ [AV.str "abcdefgh", .str "abcdefghi", .str "a", .str (Txt.mul "z" 9)]) h3 := by
          refine x_walk (x_bin (x_bin (x_comp (x_range (x_one x_ret) (range_ok (by decide) (by decide))) ec) (x_slot rfl) (x_catL (by rw [hys6]; decide))) (x_lst (x_cons x_ret (x_cons x_ret (x_cons x_ret (x_cons (x_bin x_ret x_ret ?_) x_nil)))) rfl) (x_catL (by rw [List.length_append, hys6]; decide))) rfl
          show (if MulOk "z" 9 then Res.ok (AV.str (Txt.mul "z" 9)) h3 else .stk) = _
          rw [if_pos (by decide +kernel)]
        obtain ⟨ρ3, h4, e4, ⟨y4, y5, rfl⟩⟩ := forL_all (asg := asgN 4) (body := blkN [setNN 5 (callM (runF T 39 "is_word") (evsN [(slotM 4)])),
         ifN (tstM (orN [(notM (callM isiF (evsN [(slotM 5), (retM (.ty "bool"))]))), (bin2 (slotM 5) (callM (runF T 39 "_law_is_word") (evsN [(slotM 4)])) neO), (bin2 (callKM (runF T 39 "is_word") [0] (evsN []) (evsN [(slotM 4)])) (slotM 5) neO)]))
           [retN (retM (.bl false))]
           []]) (fun ρ _ => ∃ y4 y5, ρ = [some xs, some (.lst OD), some (.int (0 + (t : Nat))), some (.ref h.length), y4, y5, x6]) ((ys ++ OD) ++ [AV.str "abcdefgh", .str "abcdefghi", .str "a", .str (Txt.mul "z" 9)]) [some xs, some (.lst OD), some (.int (0 + (t : Nat))), some (.ref h.length), x4, x5, x6] h3 (fun v hv ρ h5 ⟨y4, y5, hρ⟩ => by
            subst hρ
            have pv : PW v := by
              rcases List.mem_append.mp hv with q | q
              · rcases List.mem_append.mp q with q | q
                · exact hys v q
                · exact pw_od v q
              · exact pw_end v q
            obtain ⟨ρ1, ρ2, h2, a1, a2, a3, rfl⟩ := turn_ok (k := 38) (x2 := some (.int (0 + (t : Nat)))) (x3 := some (.ref h.length)) (x4 := y4) (x5 := y5) (x6 := x6) (x0 := xs) (x1 := .lst OD) (h := h5) pv
            exact ⟨ρ1, ρ2, _, a1, a2, a3⟩) ⟨x4, x5, rfl⟩
        exact ⟨_, _, h4, rfl, s_set (x_call (x_two (x_slot rfl) (x_slot rfl)) ep) (s_for ew e4 s_end), _, _, _, _, _, rfl⟩) ⟨none, none, none, none, none, rfl⟩
    exact ⟨h', s_set e0 (s_for er e1 (s_ret x_ret))⟩
  obtain ⟨h', e⟩ := main
  exact ⟨h', by rw [e]; rfl⟩
end Mo
open PySem PySem.W PySem.Calls PyProof.Rows
theorem PySem.Challenge.cw_postalike_k01_words_of_any_kind_holds : PySem.Challenge.rw_postalike_k01_words_of_any_kind.Holds := by
  w_on; o_law
  refine HandSHeadRun.head_any (r := OpenLaw.row PySem.Challenge.rw_postalike_k01_words_of_any_kind) (q := view (OpenLaw.row PySem.Challenge.rw_postalike_k01_words_of_any_kind).prog [9]) (H := Mo.hk) (ob := Mo.ob) (M := 4000) (loose := Mo.names) (d := HandSHeadRun.topDef (OpenLaw.row PySem.Challenge.rw_postalike_k01_words_of_any_kind).prog 9) (kwd := []) Mo.ob_eq
    (by kernel_rfl) (fun s => by kernel_rfl) Mo.run (by kernel_rfl) (by kernel_rfl) (by kernel_rfl) (by rfl) (by first | assumption | decide +kernel) (by decide +kernel) ⟨rfl, rfl, rfl, rfl, rfl, by decide +kernel⟩ ?hw ?hc
  case hw => w_witness2
  case hc =>
    exact AM.walk_am Mo.T 40 Mo.f_law rfl (by kernel_rfl) ⟨rfl, by decide, by decide⟩ (by kernel_rfl) rfl rfl (fun w mg h Y G => by
      obtain ⟨K, KX, c⟩ := Y
      exact ⟨⟨K, fun _ => none, []⟩, rfl, KX, Mo.facts KX G c⟩) (fun _ _ _ _ _ _ _ => rfl) Mo.law_run
