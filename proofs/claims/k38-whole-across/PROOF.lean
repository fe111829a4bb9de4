import PyProof.Rows.All
import Wide.All
import OpenK.AllK
import Wide.FinOn
import HandS.ForMost
import HandS.Wide
import HandS.WideMore
import HandS.IsInst
import HandS.Zip
import HandS.Flow
import HandS.Walk
import HandS.Zip0
import HandS.More
import HandS.CallLocal
import HandS.TupAny
import HandS.Style
import KE.KStateDown
import HandS.Words
import HandS.Head0
import HandS.Head1
import HandS.Head2
import HandS.HeadEnd
import HandS.HeadHook1
import HandS.HeadHook2
import HandS.HeadHook3
import HandS.HeadHook4
import Lean
import PySem.Challenge.RW_pagefall_k38_whole_across
set_option Elab.async false
set_option linter.all false
set_option maxRecDepth 100000
/-! The ghost layer: what a def's names hold told as plain data; lists that a body owns; one stream of draws. -/
namespace Gh
open PySem PySem.Spec PyProof.Rows L2

/-- plain data -/
inductive D where
  | non | bl (b : Bool) | int (i : Int) | str (s : Str) | lst (xs : List D) | tup (xs : List D)
  | emp            -- an empty dict
  | scr (ns : List Int) -- the script: a list of ints that is only read
  | mut            -- the stream of draws
  | ty (n : String) -- a built-in class
  | ref (a : Addr) -- some object of which nothing is told

def SL (K : PySem.W.Frag) (S : List Addr) (H : Hp) (a : Addr) (xs : List V) : Prop := (a ∉ S ∧ Rd H a (.lst xs)) ∨ SqL K (fun _ => none) a xs
def SU (K : PySem.W.Frag) (S : List Addr) (H : Hp) (a : Addr) (xs : List V) : Prop := (a ∉ S ∧ Rd H a (.tup xs)) ∨ SqT K (fun _ => none) a xs
theorem rd_none {a : Addr} {o : HO} : ¬ Rd (fun _ => none) a o := by
  rintro (h | ⟨_, h⟩) <;> cases h
theorem SL.sq {K : PySem.W.Frag} {S : List Addr} {H : Hp} {a : Addr} {xs : List V} (h : SL K S H a xs) : SqL K H a xs := by
  rcases h with ⟨_, h⟩ | h
  · exact .inl h
  · rcases h with h | h
    · exact (rd_none h).elim
    · exact .inr h
theorem SU.sq {K : PySem.W.Frag} {S : List Addr} {H : Hp} {a : Addr} {xs : List V} (h : SU K S H a xs) : SqT K H a xs := by
  rcases h with ⟨_, h⟩ | h
  · exact .inl h
  · rcases h with h | h
    · exact (rd_none h).elim
    · exact .inr h

mutual
inductive Rp (K : PySem.W.Frag) (p : Addr) (S : List Addr) (H : Hp) : V → D → Prop
  | non : Rp K p S H .non .non
  | bl (b : Bool) : Rp K p S H (.bl b) (.bl b)
  | int (i : Int) : Rp K p S H (.int i) (.int i)
  | str (x : Str) : Rp K p S H (.str x) (.str x)
  | lst {a : Addr} {xs : List V} {ds : List D} : a ∉ S → H a = some (.lst xs) → Rps K p S H xs ds → Rp K p S H (.ref a) (.lst ds)
  | scr {a : Addr} {ns : List Int} : SL K S H a (ns.map V.int) → Rp K p S H (.ref a) (.scr ns)
  | tup {a : Addr} {xs : List V} {ds : List D} : SU K S H a xs → Rps K p S H xs ds → Rp K p S H (.ref a) (.tup ds)
  | emp {a : Addr} : a ∉ S → H a = some (.dK []) → Rp K p S H (.ref a) .emp
  | mut : Rp K p S H (.ref p) .mut
  | ty (n : String) : Rp K p S H (.ty n) (.ty n)
  | ref (a : Addr) : Rp K p S H (.ref a) (.ref a)
inductive Rps (K : PySem.W.Frag) (p : Addr) (S : List Addr) (H : Hp) : List V → List D → Prop
  | nil : Rps K p S H [] []
  | cons {v : V} {vs : List V} {d : D} {ds : List D} : Rp K p S H v d → Rps K p S H vs ds → Rps K p S H (v :: vs) (d :: ds)
end

/-- all that stands is kept, but for S; what stands goes on to stand -/
def XT (S : List Addr) (H H' : Hp) : Prop := (∀ a o, a ∉ S → H a = some o → H' a = some o) ∧ ∀ a, H' a = none → H a = none
theorem XT.refl {S : List Addr} {H : Hp} : XT S H H := ⟨fun _ _ _ h => h, fun _ h => h⟩
theorem XT.trans {S : List Addr} {H H1 H2 : Hp} (a : XT S H H1) (b : XT S H1 H2) : XT S H H2 := ⟨fun x o n h => b.1 x o n (a.1 x o n h), fun x h => a.2 x (b.2 x h)⟩
theorem XT.mono {S S' : List Addr} {H H' : Hp} (x : XT S H H') (h : ∀ a ∈ S, a ∈ S') : XT S' H H' := ⟨fun a o n e => x.1 a o (fun m => n (h a m)) e, x.2⟩
theorem upd_none {H : Hp} {p a : Addr} {o : HO} (h : upd H p o a = none) : H a = none := by
  unfold upd at h
  split at h
  · cases h
  · exact h
theorem XT.new {S : List Addr} {H : Hp} {p : Addr} {o : HO} (h : H p = none) : XT S H (upd H p o) := ⟨fun a u _ e => by
  rw [upd_ne (ne_of_none e h)]; exact e, fun a h => upd_none h⟩
theorem rd_ext {S : List Addr} {H H' : Hp} {a : Addr} {u : HO} (x : XT S H H') (n : a ∉ S) (h : Rd H a u) : Rd H' a u := by
  rcases h with h | ⟨o, h⟩
  · exact .inl (x.1 a _ n h)
  · exact .inr ⟨o, x.1 a _ n h⟩

section
variable {K : PySem.W.Frag} {p : Addr} {S S' : List Addr} {H H' : Hp}
mutual
theorem Rp.imp (hL : ∀ a xs, SL K S H a xs → SL K S' H' a xs) (hU : ∀ a xs, SU K S H a xs → SU K S' H' a xs) (hE : ∀ a o, a ∉ S → H a = some o → a ∉ S' ∧ H' a = some o) :
    ∀ (d : D) (v : V), Rp K p S H v d → Rp K p S' H' v d
  | .non, _, h => by cases h; exact .non
  | .bl _, _, h => by cases h; exact .bl _
  | .int _, _, h => by cases h; exact .int _
  | .str _, _, h => by cases h; exact .str _
  | .lst ds, _, h => by
    cases h with
    | lst h1 h2 h3 => exact .lst (hE _ _ h1 h2).1 (hE _ _ h1 h2).2 (Rps.imp hL hU hE ds _ h3)
  | .scr ns, _, h => by
    cases h with
    | scr h1 => exact .scr (hL _ _ h1)
  | .tup ds, _, h => by
    cases h with
    | tup h1 h2 => exact .tup (hU _ _ h1) (Rps.imp hL hU hE ds _ h2)
  | .emp, _, h => by
    cases h with
    | emp h1 h2 => exact .emp (hE _ _ h1 h2).1 (hE _ _ h1 h2).2
  | .mut, _, h => by cases h; exact .mut
  | .ty _, _, h => by cases h; exact .ty _
  | .ref _, _, h => by cases h; exact .ref _
theorem Rps.imp (hL : ∀ a xs, SL K S H a xs → SL K S' H' a xs) (hU : ∀ a xs, SU K S H a xs → SU K S' H' a xs) (hE : ∀ a o, a ∉ S → H a = some o → a ∉ S' ∧ H' a = some o) :
    ∀ (ds : List D) (vs : List V), Rps K p S H vs ds → Rps K p S' H' vs ds
  | [], _, h => by cases h; exact .nil
  | d :: ds, _, h => by
    cases h with
    | cons h1 h2 => exact .cons (Rp.imp hL hU hE d _ h1) (Rps.imp hL hU hE ds _ h2)
end
theorem Rp.ext {v : V} {d : D} (h : Rp K p S H v d) (x : XT S H H') : Rp K p S H' v d :=
  Rp.imp (fun a xs q => q.elim (fun ⟨n, r⟩ => .inl ⟨n, rd_ext x n r⟩) .inr) (fun a xs q => q.elim (fun ⟨n, r⟩ => .inl ⟨n, rd_ext x n r⟩) .inr) (fun a o n e => ⟨n, x.1 a _ n e⟩) d v h
theorem Rps.ext {vs : List V} {ds : List D} (h : Rps K p S H vs ds) (x : XT S H H') : Rps K p S H' vs ds :=
  Rps.imp (fun a xs q => q.elim (fun ⟨n, r⟩ => .inl ⟨n, rd_ext x n r⟩) .inr) (fun a xs q => q.elim (fun ⟨n, r⟩ => .inl ⟨n, rd_ext x n r⟩) .inr) (fun a o n e => ⟨n, x.1 a _ n e⟩) ds vs h
theorem Rp.weak {v : V} {d : D} (h : Rp K p S H v d) (s : ∀ a ∈ S', a ∈ S) : Rp K p S' H v d :=
  Rp.imp (fun a xs q => q.elim (fun ⟨n, r⟩ => .inl ⟨fun m => n (s a m), r⟩) .inr) (fun a xs q => q.elim (fun ⟨n, r⟩ => .inl ⟨fun m => n (s a m), r⟩) .inr) (fun a o n e => ⟨fun m => n (s a m), e⟩) d v h
theorem Rps.weak {vs : List V} {ds : List D} (h : Rps K p S H vs ds) (s : ∀ a ∈ S', a ∈ S) : Rps K p S' H vs ds :=
  Rps.imp (fun a xs q => q.elim (fun ⟨n, r⟩ => .inl ⟨fun m => n (s a m), r⟩) .inr) (fun a xs q => q.elim (fun ⟨n, r⟩ => .inl ⟨fun m => n (s a m), r⟩) .inr) (fun a o n e => ⟨fun m => n (s a m), e⟩) ds vs h
theorem rd_ne {a b : Addr} {u : HO} (h : Rd H a u) (e : H b = none) : a ≠ b := by
  rcases h with h | ⟨o, h⟩
  · exact ne_of_none h e
  · exact ne_of_none h e
/-- a new address is in no data -/
theorem Rp.fresh {v : V} {d : D} {b : Addr} (h : Rp K p S H v d) (e : H b = none) : Rp K p (b :: S) H v d :=
  Rp.imp (fun a xs q => q.elim (fun ⟨n, r⟩ => .inl ⟨fun m => (List.mem_cons.mp m).elim (rd_ne r e) n, r⟩) .inr) (fun a xs q => q.elim (fun ⟨n, r⟩ => .inl ⟨fun m => (List.mem_cons.mp m).elim (rd_ne r e) n, r⟩) .inr)
    (fun a o n q => ⟨fun m => (List.mem_cons.mp m).elim (ne_of_none q e) n, q⟩) d v h
theorem Rps.fresh {vs : List V} {ds : List D} {b : Addr} (h : Rps K p S H vs ds) (e : H b = none) : Rps K p (b :: S) H vs ds :=
  Rps.imp (fun a xs q => q.elim (fun ⟨n, r⟩ => .inl ⟨fun m => (List.mem_cons.mp m).elim (rd_ne r e) n, r⟩) .inr) (fun a xs q => q.elim (fun ⟨n, r⟩ => .inl ⟨fun m => (List.mem_cons.mp m).elim (rd_ne r e) n, r⟩) .inr)
    (fun a o n q => ⟨fun m => (List.mem_cons.mp m).elim (ne_of_none q e) n, q⟩) ds vs h
/-- other forbidden addresses: each is forbidden already, or new -/
theorem Rp.to {v : V} {d : D} (h : Rp K p S H v d) (e : ∀ b ∈ S', b ∈ S ∨ H b = none) : Rp K p S' H v d :=
  Rp.imp (fun a xs q => q.elim (fun ⟨n, r⟩ => .inl ⟨fun m => (e a m).elim n fun z => rd_ne r z rfl, r⟩) .inr) (fun a xs q => q.elim (fun ⟨n, r⟩ => .inl ⟨fun m => (e a m).elim n fun z => rd_ne r z rfl, r⟩) .inr)
    (fun a o n q => ⟨fun m => (e a m).elim n fun z => ne_of_none q z rfl, q⟩) d v h
theorem Rps.to {vs : List V} {ds : List D} (h : Rps K p S H vs ds) (e : ∀ b ∈ S', b ∈ S ∨ H b = none) : Rps K p S' H vs ds :=
  Rps.imp (fun a xs q => q.elim (fun ⟨n, r⟩ => .inl ⟨fun m => (e a m).elim n fun z => rd_ne r z rfl, r⟩) .inr) (fun a xs q => q.elim (fun ⟨n, r⟩ => .inl ⟨fun m => (e a m).elim n fun z => rd_ne r z rfl, r⟩) .inr)
    (fun a o n q => ⟨fun m => (e a m).elim n fun z => ne_of_none q z rfl, q⟩) ds vs h
theorem Rps.length : ∀ {vs : List V} {ds : List D}, Rps K p S H vs ds → vs.length = ds.length
  | _, [], h => by cases h; rfl
  | _, d :: ds, h => by
    cases h with
    | cons h1 h2 => simp [Rps.length h2]
theorem Rps.append : ∀ {vs ws : List V} {ds es : List D}, Rps K p S H vs ds → Rps K p S H ws es → Rps K p S H (vs ++ ws) (ds ++ es)
  | _, _, [], _, h, k => by cases h; exact k
  | _, _, d :: ds, _, h, k => by
    cases h with
    | cons h1 h2 => exact .cons h1 (Rps.append h2 k)
theorem Rps.one {v : V} {d : D} (h : Rp K p S H v d) : Rps K p S H [v] [d] := .cons h .nil
theorem Rps.get : ∀ {vs : List V} {ds : List D} {i : Nat} {d : D}, Rps K p S H vs ds → ds[i]? = some d → ∃ v, vs[i]? = some v ∧ Rp K p S H v d
  | _, [], _, _, h, e => by simp at e
  | _, c :: ds, 0, d, h, e => by
    cases h with
    | cons h1 h2 => simp at e; subst e; exact ⟨_, rfl, h1⟩
  | _, c :: ds, i + 1, d, h, e => by
    cases h with
    | cons h1 h2 => simpa using Rps.get (i := i) h2 (by simpa using e)
theorem Rps.getV : ∀ {vs : List V} {ds : List D} {i : Nat} {v : V}, Rps K p S H vs ds → vs[i]? = some v → ∃ d, ds[i]? = some d ∧ Rp K p S H v d
  | _, [], _, _, h, e => by cases h; simp at e
  | _, c :: ds, 0, v, h, e => by
    cases h with
    | cons h1 h2 => simp at e; subst e; exact ⟨_, rfl, h1⟩
  | _, c :: ds, i + 1, v, h, e => by
    cases h with
    | cons h1 h2 => simpa using Rps.getV (i := i) h2 (by simpa using e)
theorem Rps.take : ∀ {vs : List V} {ds : List D} (n : Nat), Rps K p S H vs ds → Rps K p S H (vs.take n) (ds.take n)
  | _, _, 0, _ => by simp; exact .nil
  | _, [], n + 1, h => by cases h; exact .nil
  | _, d :: ds, n + 1, h => by
    cases h with
    | cons h1 h2 => exact .cons h1 (Rps.take n h2)
theorem Rps.drop : ∀ {vs : List V} {ds : List D} (n : Nat), Rps K p S H vs ds → Rps K p S H (vs.drop n) (ds.drop n)
  | _, _, 0, h => by simpa using h
  | _, [], n + 1, h => by cases h; exact .nil
  | _, d :: ds, n + 1, h => by
    cases h with
    | cons h1 h2 => simpa using Rps.drop n h2
theorem Rps.reverse : ∀ {vs : List V} {ds : List D}, Rps K p S H vs ds → Rps K p S H vs.reverse ds.reverse
  | _, [], h => by cases h; exact .nil
  | _, d :: ds, h => by
    cases h with
    | cons h1 h2 => simpa using (Rps.reverse h2).append (.one h1)
theorem Rps.set : ∀ {vs : List V} {ds : List D} {v : V} {d : D} (i : Nat), Rps K p S H vs ds → Rp K p S H v d → Rps K p S H (vs.set i v) (ds.set i d)
  | _, [], _, _, _, h, _ => by cases h; exact .nil
  | _, c :: ds, _, _, 0, h, k => by
    cases h with
    | cons h1 h2 => exact .cons k h2
  | _, c :: ds, _, _, i + 1, h, k => by
    cases h with
    | cons h1 h2 => exact .cons h1 (Rps.set i h2 k)
theorem Rps.eraseIdx : ∀ {vs : List V} {ds : List D} (i : Nat), Rps K p S H vs ds → Rps K p S H (vs.eraseIdx i) (ds.eraseIdx i)
  | _, [], _, h => by cases h; exact .nil
  | _, c :: ds, 0, h => by
    cases h with
    | cons h1 h2 => exact h2
  | _, c :: ds, i + 1, h => by
    cases h with
    | cons h1 h2 => exact .cons h1 (Rps.eraseIdx i h2)
theorem Rps.dropLast {vs : List V} {ds : List D} (h : Rps K p S H vs ds) : Rps K p S H vs.dropLast ds.dropLast := by
  rw [List.dropLast_eq_take, List.dropLast_eq_take, h.length]; exact h.take _
theorem Rps.ints : ∀ {vs : List V} {ns : List Int}, Rps K p S H vs (ns.map D.int) → vs = ns.map V.int
  | _, [], h => by cases h; rfl
  | _, n :: ns, h => by
    cases h with
    | cons h1 h2 => cases h1; simp [Rps.ints h2]
theorem Rps.ofInts : ∀ (ns : List Int), Rps K p S H (ns.map V.int) (ns.map D.int)
  | [] => .nil
  | n :: ns => .cons (.int n) (Rps.ofInts ns)
theorem Rps.bls : ∀ {vs : List V} {bs : List Bool}, Rps K p S H vs (bs.map D.bl) → vs = bs.map V.bl
  | _, [], h => by cases h; rfl
  | _, n :: ns, h => by
    cases h with
    | cons h1 h2 => cases h1; simp [Rps.bls h2]
end

/-! ### slots and frames -/
inductive G where
  | no
  | val (d : D)
  | own (ds : List D)
abbrev Sx := Option (List Int)
def StA (p : Addr) (S : List Addr) (H : Hp) : Sx → Prop
  | none => True
  | some xs => p ∈ S ∧ H p = some (.lst (xs.map V.int))
def XP (p : Addr) (s : Sx) (H H' : Hp) : Prop := (∀ a o, H a = some o → (s = none ∨ a ≠ p) → H' a = some o) ∧ ∀ a, H' a = none → H a = none
theorem XP.refl {p : Addr} {s : Sx} {H : Hp} : XP p s H H := ⟨fun _ _ h _ => h, fun _ h => h⟩
theorem XP.trans {p : Addr} {s : Sx} {H H1 H2 : Hp} (a : XP p s H H1) (b : XP p s H1 H2) : XP p s H H2 := ⟨fun x o h n => b.1 x o (a.1 x o h n) n, fun x h => a.2 x (b.2 x h)⟩
theorem XP.kind {p : Addr} {s s' : Sx} {H H' : Hp} (x : XP p s H H') (k : s.isSome = s'.isSome) : XP p s' H H' := ⟨fun a o h n => x.1 a o h (n.elim (fun e => .inl (by
  subst e
  cases s with
  | none => rfl
  | some _ => cases k)) .inr), x.2⟩
theorem XP.xt {p : Addr} {s : Sx} {S : List Addr} {H H' : Hp} (x : XP p s H H') (h : StA p S H s) : XT S H H' := ⟨fun a o n e => x.1 a o e (by
  cases s with
  | none => exact .inl rfl
  | some xs => exact .inr fun z => n (z ▸ h.1)), x.2⟩
theorem XP.new {p b : Addr} {s : Sx} {H : Hp} {o : HO} (h : H b = none) : XP p s H (upd H b o) := ⟨fun a u e _ => by
  rw [upd_ne (ne_of_none e h)]; exact e, fun a h => upd_none h⟩

/-- a body: its context, the heap at its entry, the addresses that no data of it may hold, the stream's address -/
structure Fx where
  X : Cx
  H0 : Hp
  S0 : List Addr
  p : Addr
  act : Bool
abbrev Fx.K (F : Fx) : PySem.W.Frag := F.X.K
/-- an expression's step: all is kept but the stream -/
def XE (F : Fx) (H H' : Hp) : Prop := (∀ a o, ¬ (F.act = true ∧ a = F.p ∧ a ∈ F.S0) → H a = some o → H' a = some o) ∧ ∀ a, H' a = none → H a = none
theorem XE.refl {F : Fx} {H : Hp} : XE F H H := ⟨fun _ _ _ h => h, fun _ h => h⟩
theorem XE.trans {F : Fx} {H H1 H2 : Hp} (a : XE F H H1) (b : XE F H1 H2) : XE F H H2 := ⟨fun x o n h => b.1 x o n (a.1 x o n h), fun x h => a.2 x (b.2 x h)⟩
theorem XE.new {F : Fx} {H : Hp} {p : Addr} {o : HO} (h : H p = none) : XE F H (upd H p o) := ⟨fun a u _ e => by
  rw [upd_ne (ne_of_none e h)]; exact e, fun a h => upd_none h⟩
theorem XE.xt {F : Fx} {O : List Addr} {H H' : Hp} (x : XE F H H') : XT (O ++ F.S0) H H' := ⟨fun a o n h => x.1 a o (fun z => n (List.mem_append_right _ z.2.2)) h, x.2⟩
theorem XP.xe {F : Fx} {s : Sx} {H H' : Hp} (x : XP F.p s H H') (h : StA F.p F.S0 H s) (kd : s.isSome = F.act) : XE F H H' := ⟨fun a o n e => x.1 a o e (by
  cases s with
  | none => exact .inl rfl
  | some xs => exact .inr fun z => n ⟨kd.symm, z, z ▸ h.1⟩), x.2⟩
def Slot (K : PySem.W.Frag) (p : Addr) (S : List Addr) (H : Hp) (o : Option V) : G → Prop
  | .no => True
  | .val d => ∃ v, o = some v ∧ Rp K p S H v d
  | .own ds => ∃ a vs, o = some (.ref a) ∧ a ∈ S ∧ H a = some (.lst vs) ∧ Rps K p S H vs ds
structure Fm (F : Fx) (O : List Addr) (σ : L2.St) (H : Hp) (ρ : List G) (s : Sx) : Prop where
  ext : XP F.p s F.H0 H
  slot : ∀ (i : Nat) (g : G), ρ[i]? = some g → ∃ o, σ[i]? = some o ∧ Slot F.X.K F.p (O ++ F.S0) H o g
  own : ∀ (i : Nat) (ds : List D) (a : Addr), ρ[i]? = some (.own ds) → σ[i]? = some (some (.ref a)) → a ∈ O
  dis : ∀ (i j : Nat) (ds es : List D) (a : Addr), i ≠ j → ρ[i]? = some (.own ds) → ρ[j]? = some (.own es) → σ[i]? = some (some (.ref a)) → σ[j]? ≠ some (some (.ref a))
  fre : ∀ a ∈ O, F.H0 a = none ∧ a ∉ F.S0
  trk : ∀ a ∈ O ++ F.S0, ∃ o, H a = some o
  st : StA F.p F.S0 H s
  kd : s.isSome = F.act
section
variable {F : Fx} {O : List Addr} {σ : L2.St} {H H' : Hp} {ρ : List G} {s s' : Sx}
/-- the heap grows, the stream turns -/
theorem Fm.grow (f : Fm F O σ H ρ s) (x : XP F.p s H H') (k : s.isSome = s'.isSome) (h : StA F.p F.S0 H' s') : Fm F O σ H' ρ s' := by
  have xt : XT (O ++ F.S0) H H' := (x.xt f.st).mono fun a m => List.mem_append_right _ m
  have np : ∀ a ∈ O, s = none ∨ a ≠ F.p := fun a ha => by
    have q := f.st
    cases s with
    | none => exact .inl rfl
    | some xs => exact .inr fun z => (f.fre a ha).2 (z ▸ q.1)
  refine ⟨(f.ext.trans x).kind k, fun i g hg => ?_, f.own, f.dis, f.fre, fun a ha => ?_, h, k.symm.trans f.kd⟩
  · obtain ⟨o, ho, q⟩ := f.slot i g hg
    refine ⟨o, ho, ?_⟩
    cases g with
    | no => trivial
    | val d =>
      obtain ⟨v, e, r⟩ := q
      exact ⟨v, e, r.ext xt⟩
    | own ds =>
      obtain ⟨a, vs, e, m, ha, r⟩ := q
      subst e
      exact ⟨a, vs, rfl, m, x.1 a _ ha (np a (f.own i ds a hg ho)), r.ext xt⟩
  · obtain ⟨o, e⟩ := f.trk a ha
    cases e' : H' a with
    | none => rw [x.2 a e'] at e; cases e
    | some o' => exact ⟨o', rfl⟩
theorem Fm.fresh (f : Fm F O σ H ρ s) {b : Addr} (h : H b = none) : b ∉ O ++ F.S0 := fun m => by
  obtain ⟨o, e⟩ := f.trk b m
  rw [h] at e; cases e
theorem Fm.new (f : Fm F O σ H ρ s) {b : Addr} {o : HO} (h : H b = none) : Fm F O σ (upd H b o) ρ s := by
  refine f.grow (XP.new h) rfl ?_
  have q := f.st
  cases s with
  | none => trivial
  | some xs => exact ⟨q.1, by rw [upd_ne (ne_of_none q.2 h)]; exact q.2⟩
/-- a new list that is owned -/
theorem Fm.newO (f : Fm F O σ H ρ s) {b : Addr} {vs : List V} (h : H b = none) : Fm F (b :: O) σ (upd H b (.lst vs)) ρ s := by
  have g := f.new (o := .lst vs) h
  have nb := f.fresh h
  refine ⟨g.ext, fun i q hq => ?_, fun i ds a h1 h2 => List.mem_cons_of_mem _ (f.own i ds a h1 h2), f.dis, fun a m => ?_, fun a m => ?_, g.st, g.kd⟩
  · obtain ⟨o, ho, k⟩ := f.slot i q hq
    refine ⟨o, ho, ?_⟩
    cases q with
    | no => trivial
    | val d =>
      obtain ⟨v, e, r⟩ := k
      exact ⟨v, e, (r.fresh h).ext (.new h)⟩
    | own ds =>
      obtain ⟨a, ws, e, m, ha, r⟩ := k
      exact ⟨a, ws, e, List.mem_cons_of_mem _ m, by rw [upd_ne (ne_of_none ha h)]; exact ha, (r.fresh h).ext (.new h)⟩
  · rcases List.mem_cons.mp m with rfl | m
    · exact ⟨f.ext.2 _ h, fun z => nb (List.mem_append_right _ z)⟩
    · exact f.fre a m
  · rcases List.mem_cons.mp m with rfl | m
    · exact ⟨_, upd_same⟩
    · exact g.trk a m
theorem Fm.drop {a : Addr} (f : Fm F O σ H ρ s) (g : Fm F (a :: O) σ H' ρ s') : Fm F O σ H' ρ s' := by
  refine ⟨g.ext, fun i q hq => ?_, f.own, f.dis, f.fre, fun b m => g.trk b (List.mem_cons_of_mem _ m), g.st, g.kd⟩
  obtain ⟨o, ho, k⟩ := g.slot i q hq
  refine ⟨o, ho, ?_⟩
  cases q with
  | no => trivial
  | val d =>
    obtain ⟨v, e, r⟩ := k
    exact ⟨v, e, r.weak fun b m => List.mem_cons_of_mem _ m⟩
  | own ds =>
    obtain ⟨b, ws, e, m, hb, r⟩ := k
    subst e
    exact ⟨b, ws, rfl, List.mem_append_left _ (f.own i ds b hq ho), hb, r.weak fun b m => List.mem_cons_of_mem _ m⟩
end

/-! ### the weakest wishes -/
def WE (X : Cx) (e : Expr) : TE := fun σ H Q => ∀ pins s, Inv X pins σ H s → wpAny (model X.prog X.w) X.A (eval e X.env) (EP X pins σ Q) X.xe s
def WT (X : Cx) (e : Expr) : TT := fun σ H Q => ∀ pins s, Inv X pins σ H s → wpAny (model X.prog X.w) X.A (isTrue e X.env (eval e X.env)) (TP X pins σ Q) X.xe s
def WW (X : Cx) (e : Expr) : TT := fun σ H Q => ∀ whole pins s, Inv X pins σ H s → wpAny (model X.prog X.w) X.A (isTrue e X.env whole) (TP X pins σ Q) X.xe s
def WA (X : Cx) (es : List Expr) : TA := fun σ H Q => ∀ pos pins s, Inv X pins σ H s → wpAny (model X.prog X.w) X.A (spliced (backTo pos (starEach es X.env))) (AP X pins σ Q) X.xe s
def WS (X : Cx) (st : Stmt) : TS := fun D σ H => ∀ pins s, Inv X pins σ H s → wpAny (model X.prog X.w) X.A (exec st X.env) (SP X pins D) X.xe s
def WB (X : Cx) (st : List Stmt) : TS := fun D σ H => ∀ pins s, Inv X pins σ H s → wpAny (model X.prog X.w) X.A (execs st X.env) (SP X pins D) X.xe s
theorem pe_we {X : Cx} {e : Expr} : PE X e (WE X e) := ⟨fun pins s _ _ _ I h => h pins s I⟩
theorem pt_wt {X : Cx} {e : Expr} : PT X e (WT X e) := ⟨fun pins s _ _ _ I h => h pins s I⟩
theorem pw_ww {X : Cx} {e : Expr} : PW X e (WW X e) := ⟨fun whole pins s _ _ _ I h => h whole pins s I⟩
theorem pa_wa {X : Cx} {es : List Expr} : PA X es (WA X es) := ⟨fun pos pins s _ _ _ I h => h pos pins s I⟩
theorem ps_ws {X : Cx} {st : Stmt} : PS X st (WS X st) := ⟨fun pins s _ _ _ I h => h pins s I⟩
theorem pss_wb {X : Cx} {st : List Stmt} : PSs X st (WB X st) := ⟨fun pins s _ _ _ I h => h pins s I⟩
section
variable {X : Cx} {σ : L2.St} {H : Hp}
theorem we {e : Expr} {t : TE} {Q : VK} (p : PE X e t) (h : t σ H Q) : WE X e σ H Q := fun pins s I => p.run pins s σ H Q I h
theorem wt {e : Expr} {t : TT} {Q : Bool → Hp → Prop} (p : PT X e t) (h : t σ H Q) : WT X e σ H Q := fun pins s I => p.run pins s σ H Q I h
theorem ww {e : Expr} {t : TT} {Q : Bool → Hp → Prop} (p : PW X e t) (h : t σ H Q) : WW X e σ H Q := fun whole pins s I => p.run whole pins s σ H Q I h
theorem wa {es : List Expr} {t : TA} {Q : List V → Hp → Prop} (p : PA X es t) (h : t σ H Q) : WA X es σ H Q := fun pos pins s I => p.run pos pins s σ H Q I h
theorem ws {st : Stmt} {t : TS} {D : Ends} (p : PS X st t) (h : t D σ H) : WS X st D σ H := fun pins s I => p.run pins s σ H D I h
theorem wb {st : List Stmt} {t : TS} {D : Ends} (p : PSs X st t) (h : t D σ H) : WB X st D σ H := fun pins s I => p.run pins s σ H D I h
theorem WE.mono {e : Expr} {Q Q' : VK} (h : WE X e σ H Q) (k : ∀ v H', Q v H' → Q' v H') : WE X e σ H Q' := fun pins s I => thn (h pins s I) fun _ _ ⟨v, H', J, r, q⟩ => ⟨v, H', J, r, k v H' q⟩
end
end Gh
set_option Elab.async false
set_option linter.all false
set_option maxRecDepth 100000
namespace Gh
open PySem PySem.Spec PyProof.Rows L2

/-! ### the judgements: what an expression is worth -/
def Ed (F : Fx) (ρ : List G) (s : Sx) (e : Expr) (d : D) (s' : Sx) : Prop :=
  s.isSome = s'.isSome ∧ ∀ O σ H, Fm F O σ H ρ s → ∀ Q : VK, (∀ v H', Fm F O σ H' ρ s' → XE F H H' → Rp F.X.K F.p (O ++ F.S0) H' v d → Q v H') → WE F.X e σ H Q
def Ea (F : Fx) (ρ : List G) (s : Sx) (es : List Expr) (ds : List D) (s' : Sx) : Prop :=
  s.isSome = s'.isSome ∧ ∀ O σ H, Fm F O σ H ρ s → ∀ Q : List V → Hp → Prop, (∀ vs H', Fm F O σ H' ρ s' → XE F H H' → Rps F.X.K F.p (O ++ F.S0) H' vs ds → Q vs H') → WA F.X es σ H Q
/-- a new list -/
def El (F : Fx) (ρ : List G) (s : Sx) (e : Expr) (ds : List D) (s' : Sx) : Prop :=
  s.isSome = s'.isSome ∧ ∀ O σ H, Fm F O σ H ρ s → ∀ Q : VK, (∀ a vs H', Fm F (a :: O) σ H' ρ s' → XE F H H' → H a = none → H' a = some (.lst vs) → Rps F.X.K F.p (a :: (O ++ F.S0)) H' vs ds → Q (.ref a) H') → WE F.X e σ H Q
def Et (F : Fx) (ρ : List G) (s : Sx) (e : Expr) (b : Bool) (s' : Sx) : Prop :=
  s.isSome = s'.isSome ∧ ∀ O σ H, Fm F O σ H ρ s → ∀ Q : Bool → Hp → Prop, (∀ H', Fm F O σ H' ρ s' → XE F H H' → Q b H') → WT F.X e σ H Q
def Ew (F : Fx) (ρ : List G) (s : Sx) (e : Expr) (b : Bool) (s' : Sx) : Prop :=
  s.isSome = s'.isSome ∧ ∀ O σ H, Fm F O σ H ρ s → ∀ Q : Bool → Hp → Prop, (∀ H', Fm F O σ H' ρ s' → XE F H H' → Q b H') → WW F.X e σ H Q
/-- a two-place operation; a call, by data -/
def R2d (F : Fx) (ρ : List G) (s : Sx) (r : R2) (x y z : D) : Prop :=
  ∀ O σ H, Fm F O σ H ρ s → ∀ v w, Rp F.X.K F.p (O ++ F.S0) H v x → Rp F.X.K F.p (O ++ F.S0) H w y → ∀ Q : VK, (∀ u H', Fm F O σ H' ρ s → XE F H H' → Rp F.X.K F.p (O ++ F.S0) H' u z → Q u H') → r v w H Q
def R2l (F : Fx) (ρ : List G) (s : Sx) (r : R2) (x y : D) (zs : List D) : Prop :=
  ∀ O σ H, Fm F O σ H ρ s → ∀ v w, Rp F.X.K F.p (O ++ F.S0) H v x → Rp F.X.K F.p (O ++ F.S0) H w y → ∀ Q : VK, (∀ a vs H', Fm F (a :: O) σ H' ρ s → XE F H H' → H a = none → H' a = some (.lst vs) → Rps F.X.K F.p (a :: (O ++ F.S0)) H' vs zs → Q (.ref a) H') → r v w H Q
def CRd (F : Fx) (ρ : List G) (s : Sx) (r : List V → Hp → VK → Prop) (xs : List D) (z : D) : Prop :=
  ∀ O σ H, Fm F O σ H ρ s → ∀ vs, Rps F.X.K F.p (O ++ F.S0) H vs xs → ∀ Q : VK, (∀ u H', Fm F O σ H' ρ s → XE F H H' → Rp F.X.K F.p (O ++ F.S0) H' u z → Q u H') → r vs H Q
def CRl (F : Fx) (ρ : List G) (s : Sx) (r : List V → Hp → VK → Prop) (xs zs : List D) : Prop :=
  ∀ O σ H, Fm F O σ H ρ s → ∀ vs, Rps F.X.K F.p (O ++ F.S0) H vs xs → ∀ Q : VK, (∀ a ws H', Fm F (a :: O) σ H' ρ s → XE F H H' → H a = none → H' a = some (.lst ws) → Rps F.X.K F.p (a :: (O ++ F.S0)) H' ws zs → Q (.ref a) H') → r vs H Q

section
variable {F : Fx} {ρ : List G} {s s1 s2 s3 : Sx} {a b c e : Expr} {es : List Expr} {x y z d : D} {xs zs ds : List D} {pos p : Pos}

theorem El.ed (h : El F ρ s e ds s1) : Ed F ρ s e (.lst ds) s1 := ⟨h.1, fun O σ H f Q q => h.2 O σ H f Q fun a vs H' f' x' n h' r =>
  q _ _ (f.drop f') x' (.lst (f.fresh n) h' (r.weak fun a m => List.mem_cons_of_mem _ m))⟩

/-! names, constants -/
theorem ed_var (i : Nat) {x : Str} (hN : F.X.N[i]? = some x) (hv : Vis F.X.env.scope x) (hρ : ρ[i]? = some (.val d)) (hd : (x == ("__debug__" : Str)) = false := by decide) (hcd : (x == ("__classdict__" : Str)) = false := by decide) : Ed F ρ s (.Name x pos) d s :=
  ⟨rfl, fun O σ H f Q q => by
    obtain ⟨o, ho, v, e, r⟩ := f.slot i _ hρ
    subst e
    exact we (pe_var hN hv hd hcd) ⟨v, ho, q v H f .refl r⟩⟩
theorem ed_int {i : Int} {j} : Ed F ρ s (.Constant (.int i) j pos) (.int i) s := ⟨rfl, fun O σ H f Q q => we pe_int (q _ _ f .refl (.int i))⟩
theorem ed_bl {i : Bool} {j} : Ed F ρ s (.Constant (.bool i) j pos) (.bl i) s := ⟨rfl, fun O σ H f Q q => we pe_bl (q _ _ f .refl (.bl i))⟩
theorem ed_str {i : Str} {j} : Ed F ρ s (.Constant (.str i) j pos) (.str i) s := ⟨rfl, fun O σ H f Q q => we pe_str (q _ _ f .refl (.str i))⟩
theorem ed_non {j} : Ed F ρ s (.Constant .none j pos) .non s := ⟨rfl, fun O σ H f Q q => we pe_non (q _ _ f .refl .non)⟩
theorem ed_ty {x : Str} {n : String} (hg : Gl F.X x) (hm : F.X.mg x = none) (hv : bootBuiltins x = some (.type n)) (hn : x ≠ "__name__" := by decide) (hd : (x == ("__debug__" : Str)) = false := by decide) : Ed F ρ s (.Name x pos) (.ty n) s :=
  ⟨rfl, fun O σ H f Q q => we (pe_bltn (v := .ty n) hg hm hv rfl hn hd) (q _ _ f .refl (.ty n))⟩
theorem ed_glob {x : Str} {v : V} {u : Value} (hg : Gl F.X x) (hm : F.X.mg x = some u) (r : RelV v u) (hr : ∀ p S H, Rp F.X.K p S H v d) (hd : (x == ("__debug__" : Str)) = false := by decide) : Ed F ρ s (.Name x pos) d s :=
  ⟨rfl, fun O σ H f Q q => we (pe_glob hg hm r hd) (q _ _ f .refl (hr _ _ _))⟩

/-! lists of expressions, displays -/
theorem ea_nil : Ea F ρ s [] [] s := ⟨rfl, fun O σ H f Q q => wa pa_nil (q _ _ f .refl .nil)⟩
theorem ea_cons (ha : Ed F ρ s e d s1) (hr : Ea F ρ s1 es ds s2) (hs : starEach (e :: es) F.X.env = (false, eval e F.X.env) :: starEach es F.X.env := by rfl) : Ea F ρ s (e :: es) (d :: ds) s2 :=
  ⟨ha.1.trans hr.1, fun O σ H f Q q => wa (pa_cons pe_we pa_wa hs) (ha.2 O σ H f _ fun v H1 f1 x1 r1 => hr.2 O σ H1 f1 _ fun vs H2 f2 x2 r2 => q _ _ f2 (x1.trans x2) (.cons (r1.ext x2.xt) r2))⟩
theorem ed_tup {k} (h : Ea F ρ s es ds s1) (hl : ds.length ≤ sizeLine := by exact Nat.le_of_ble_eq_true rfl) : Ed F ρ s (.Tuple es k pos) (.tup ds) s1 :=
  ⟨h.1, fun O σ H f Q q => we (pe_tup pa_wa) (h.2 O σ H f _ fun vs H1 f1 x1 r1 => ⟨by rw [r1.length]; exact hl, fun a n => q _ _ (f1.new n) (x1.trans (.new n)) (.tup (.inl ⟨f1.fresh n, .inl upd_same⟩) (r1.ext (.new n)))⟩)⟩
theorem el_lst (h : Ea F ρ s es ds s1) (hl : ds.length ≤ sizeLine := by exact Nat.le_of_ble_eq_true rfl) : El F ρ s (.List es pos) ds s1 :=
  ⟨h.1, fun O σ H f Q q => we (pe_lst pa_wa) (h.2 O σ H f _ fun vs H1 f1 x1 r1 => ⟨by rw [r1.length]; exact hl, fun a n => q a vs _ (f1.newO n) (x1.trans (.new n)) (x1.2 a n) upd_same ((r1.fresh n).ext (.new n))⟩)⟩

/-! operators -/
theorem ed_op {op : Operator} {r : R2} (ho : OpR F.X (binaryOp op) r) (ha : Ed F ρ s a x s1) (hb : Ed F ρ s1 b y s2) (hr : R2d F ρ s2 r x y z) : Ed F ρ s (.BinOp a op b pos) z s2 :=
  ⟨ha.1.trans hb.1, fun O σ H f Q q => we (pe_op ho pe_we pe_we) (ha.2 O σ H f _ fun v H1 f1 x1 r1 => hb.2 O σ H1 f1 _ fun w H2 f2 x2 r2 => hr O σ H2 f2 v w (r1.ext x2.xt) r2 Q fun u H3 f3 x3 r3 => q u H3 f3 ((x1.trans x2).trans x3) r3)⟩
theorem el_op {op : Operator} {r : R2} (ho : OpR F.X (binaryOp op) r) (ha : Ed F ρ s a x s1) (hb : Ed F ρ s1 b y s2) (hr : R2l F ρ s2 r x y zs) : El F ρ s (.BinOp a op b pos) zs s2 :=
  ⟨ha.1.trans hb.1, fun O σ H f Q q => we (pe_op ho pe_we pe_we) (ha.2 O σ H f _ fun v H1 f1 x1 r1 => hb.2 O σ H1 f1 _ fun w H2 f2 x2 r2 => hr O σ H2 f2 v w (r1.ext x2.xt) r2 Q fun u vs H3 f3 x3 n3 h3 r3 => q u vs H3 f3 ((x1.trans x2).trans x3) (x1.2 u (x2.2 u n3)) h3 r3)⟩
/-- a comparison: as a value, as a test -/
def Cp (F : Fx) (ρ : List G) (s : Sx) (op : CmpOp) (a b : Expr) (k : Bool) (s' : Sx) : Prop := s.isSome = s'.isSome ∧ behindInMarks op b = false ∧ ∃ r, OpR F.X (compareOp op) r ∧
  ∀ O σ H, Fm F O σ H ρ s → ∀ Q : VK, (∀ H', Fm F O σ H' ρ s' → XE F H H' → Q (.bl k) H') → tOp r (WE F.X a) (WE F.X b) σ H Q
theorem Cp.ed {op : CmpOp} {k : Bool} (h : Cp F ρ s op a b k s1) : Ed F ρ s (.Compare a [op] [b] pos) (.bl k) s1 := by
  obtain ⟨kd, hm, r, ho, h⟩ := h
  exact ⟨kd, fun O σ H f Q q => we (pe_cmpR ho pe_we pe_we hm) (h O σ H f Q fun H' f' x' => q _ H' f' x' (.bl k))⟩
theorem Cp.et {op : CmpOp} {k : Bool} (h : Cp F ρ s op a b k s1) : Et F ρ s (.Compare a [op] [b] pos) k s1 := by
  obtain ⟨kd, hm, r, ho, h⟩ := h
  exact ⟨kd, fun O σ H f Q q => wt (pt_cmpR ho pe_we pe_we hm) (h O σ H f _ fun H' f' x' => ⟨k, rfl, q H' f' x'⟩)⟩
theorem cp_of {op : CmpOp} {r : R2} {k : Bool} (ho : OpR F.X (compareOp op) r) (ha : Ed F ρ s a x s1) (hb : Ed F ρ s1 b y s2) (hr : R2d F ρ s2 r x y (.bl k)) (hm : behindInMarks op b = false) : Cp F ρ s op a b k s2 :=
  ⟨ha.1.trans hb.1, hm, r, ho, fun O σ H f Q q => ha.2 O σ H f _ fun v H1 f1 x1 r1 => hb.2 O σ H1 f1 _ fun w H2 f2 x2 r2 => hr O σ H2 f2 v w (r1.ext x2.xt) r2 Q fun u H3 f3 x3 r3 => by cases r3; exact q H3 f3 ((x1.trans x2).trans x3)⟩
theorem r2_I0 {g : Int → Int → V} {i j : Int} (h : ∀ p S H, Rp F.X.K p S H (g i j) z) : R2d F ρ s (rI0 g) (.int i) (.int j) z := fun O σ H f v w r1 r2 Q q => by
  cases r1; cases r2; exact ⟨i, j, rfl, rfl, q _ _ f .refl (h _ _ _)⟩
theorem r2_I {C : Int → Int → Prop} {g : Int → Int → V} {i j : Int} (hc : C i j) (h : ∀ p S H, Rp F.X.K p S H (g i j) z) : R2d F ρ s (rI C g) (.int i) (.int j) z := fun O σ H f v w r1 r2 Q q => by
  cases r1; cases r2; exact ⟨i, j, rfl, rfl, hc, q _ _ f .refl (h _ _ _)⟩
section
variable {i j : Int}
theorem ed_add (ha : Ed F ρ s a (.int i) s1) (hb : Ed F ρ s1 b (.int j) s2) : Ed F ρ s (.BinOp a .Add b pos) (.int (i + j)) s2 := ed_op op_add ha hb (r2_I0 fun _ _ _ => .int _)
theorem ed_sub (ha : Ed F ρ s a (.int i) s1) (hb : Ed F ρ s1 b (.int j) s2) : Ed F ρ s (.BinOp a .Sub b pos) (.int (i - j)) s2 := ed_op op_sub ha hb (r2_I0 fun _ _ _ => .int _)
theorem ed_mul (hc : CMul i j) (ha : Ed F ρ s a (.int i) s1) (hb : Ed F ρ s1 b (.int j) s2) : Ed F ρ s (.BinOp a .Mult b pos) (.int (i * j)) s2 := ed_op op_mul ha hb (r2_I hc fun _ _ _ => .int _)
theorem ed_mulW (hc : CMulW i j) (ha : Ed F ρ s a (.int i) s1) (hb : Ed F ρ s1 b (.int j) s2) : Ed F ρ s (.BinOp a .Mult b pos) (.int (i * j)) s2 := ed_op op_mulW ha hb (r2_I hc fun _ _ _ => .int _)
theorem ed_fdiv (hc : CDivW i j) (ha : Ed F ρ s a (.int i) s1) (hb : Ed F ρ s1 b (.int j) s2) : Ed F ρ s (.BinOp a .FloorDiv b pos) (.int (i / j)) s2 := ed_op op_fdivW ha hb (r2_I hc fun _ _ _ => .int _)
theorem ed_mod (hc : 0 < j) (ha : Ed F ρ s a (.int i) s1) (hb : Ed F ρ s1 b (.int j) s2) : Ed F ρ s (.BinOp a .Mod b pos) (.int (i % j)) s2 := ed_op op_mod ha hb (r2_I hc fun _ _ _ => .int _)
theorem ed_pow (hc : CPow i j) (ha : Ed F ρ s a (.int i) s1) (hb : Ed F ρ s1 b (.int j) s2) : Ed F ρ s (.BinOp a .Pow b pos) (.int (i ^ j.toNat)) s2 := ed_op op_pow ha hb (r2_I hc fun _ _ _ => .int _)
theorem cp_lt (ha : Ed F ρ s a (.int i) s1) (hb : Ed F ρ s1 b (.int j) s2) : Cp F ρ s .Lt a b (decide (i < j)) s2 := cp_of op_lt ha hb (r2_I0 fun _ _ _ => .bl _) (nomark _)
theorem cp_le (ha : Ed F ρ s a (.int i) s1) (hb : Ed F ρ s1 b (.int j) s2) : Cp F ρ s .LtE a b (decide (i ≤ j)) s2 := cp_of op_le ha hb (r2_I0 fun _ _ _ => .bl _) (nomark _)
theorem cp_gt (ha : Ed F ρ s a (.int i) s1) (hb : Ed F ρ s1 b (.int j) s2) : Cp F ρ s .Gt a b (decide (j < i)) s2 := cp_of op_gt ha hb (r2_I0 fun _ _ _ => .bl _) (nomark _)
theorem cp_ge (ha : Ed F ρ s a (.int i) s1) (hb : Ed F ρ s1 b (.int j) s2) : Cp F ρ s .GtE a b (decide (j ≤ i)) s2 := cp_of op_ge ha hb (r2_I0 fun _ _ _ => .bl _) (nomark _)
end

/-! tests, and, or, not, if -/
theorem et_val {k : Bool} (h : Ed F ρ s e (.bl k) s1) (hs : ∀ (whole : Sem Value), PySem.isTrue e F.X.env whole = (do let v ← whole; standAt e.pos; holding [v] (truthy v)) := by intro _; rfl) : Et F ρ s e k s1 :=
  ⟨h.1, fun O σ H f Q q => wt (pt_val pe_we hs) (h.2 O σ H f _ fun v H1 f1 x1 r1 => by cases r1; exact ⟨k, rfl, q H1 f1 x1⟩)⟩
theorem Ew.et {k : Bool} (h : Ew F ρ s e k s1) : Et F ρ s e k s1 := ⟨h.1, fun O σ H f Q q => wt (PW.pt pw_ww) (h.2 O σ H f Q q)⟩
end
end Gh
set_option Elab.async false
set_option linter.all false
set_option maxRecDepth 100000
namespace Gh
open PySem PySem.Spec PyProof.Rows L2
section
variable {F : Fx} {ρ : List G} {s s1 s2 s3 : Sx} {a b c e : Expr} {es rest : List Expr} {x y z d : D} {xs zs ds : List D} {pos p : Pos} {k l : Bool}

/-! and, or, not as values -/
theorem ed_one {op} (h : Ed F ρ s e d s1) : Ed F ρ s (.BoolOp op [e] pos) d s1 := ⟨h.1, fun O σ H f Q q => we (pe_one pe_we) (h.2 O σ H f Q q)⟩
theorem ed_andT (ha : Ed F ρ s a (.bl true) s1) (hb : Ed F ρ s1 (.BoolOp .And (b :: rest) pos) d s2) : Ed F ρ s (.BoolOp .And (a :: b :: rest) pos) d s2 :=
  ⟨ha.1.trans hb.1, fun O σ H f Q q => we (pe_and pe_we pe_we) (ha.2 O σ H f _ fun v H1 f1 x1 r1 => by cases r1; exact ⟨true, rfl, iteT (hb.2 O σ H1 f1 Q fun v H2 f2 x2 r2 => q v H2 f2 (x1.trans x2) r2)⟩)⟩
theorem ed_andF (ha : Ed F ρ s a (.bl false) s1) : Ed F ρ s (.BoolOp .And (a :: b :: rest) pos) (.bl false) s1 :=
  ⟨ha.1, fun O σ H f Q q => we (pe_and pe_we pe_we) (ha.2 O σ H f _ fun v H1 f1 x1 r1 => by cases r1; exact ⟨false, rfl, iteF (q _ H1 f1 x1 (.bl false))⟩)⟩
theorem ed_orT (ha : Ed F ρ s a (.bl true) s1) : Ed F ρ s (.BoolOp .Or (a :: b :: rest) pos) (.bl true) s1 :=
  ⟨ha.1, fun O σ H f Q q => we (pe_or pe_we pe_we) (ha.2 O σ H f _ fun v H1 f1 x1 r1 => by cases r1; exact ⟨true, rfl, iteT (q _ H1 f1 x1 (.bl true))⟩)⟩
theorem ed_orF (ha : Ed F ρ s a (.bl false) s1) (hb : Ed F ρ s1 (.BoolOp .Or (b :: rest) pos) d s2) : Ed F ρ s (.BoolOp .Or (a :: b :: rest) pos) d s2 :=
  ⟨ha.1.trans hb.1, fun O σ H f Q q => we (pe_or pe_we pe_we) (ha.2 O σ H f _ fun v H1 f1 x1 r1 => by cases r1; exact ⟨false, rfl, iteF (hb.2 O σ H1 f1 Q fun v H2 f2 x2 r2 => q v H2 f2 (x1.trans x2) r2)⟩)⟩
/-- what is asked is not known, and nothing is drawn -/
theorem ed_and (ha : Ed F ρ s a (.bl k) s) (hb : k = true → Ed F ρ s (.BoolOp .And (b :: rest) pos) (.bl l) s) : Ed F ρ s (.BoolOp .And (a :: b :: rest) pos) (.bl (k && l)) s := by
  cases k with
  | true => exact ed_andT ha (hb rfl)
  | false => exact ed_andF ha
theorem ed_or (ha : Ed F ρ s a (.bl k) s) (hb : k = false → Ed F ρ s (.BoolOp .Or (b :: rest) pos) (.bl l) s) : Ed F ρ s (.BoolOp .Or (a :: b :: rest) pos) (.bl (k || l)) s := by
  cases k with
  | true => exact ed_orT ha
  | false => exact ed_orF ha (hb rfl)
theorem ed_not (ha : Ed F ρ s a (.bl k) s1) : Ed F ρ s (.UnaryOp .Not a pos) (.bl (!k)) s1 :=
  ⟨ha.1, fun O σ H f Q q => we (pe_not pe_we) (ha.2 O σ H f _ fun v H1 f1 x1 r1 => by cases r1; exact ⟨k, rfl, q _ H1 f1 x1 (.bl _)⟩)⟩
theorem ed_neg {i : Int} (ha : Ed F ρ s a (.int i) s1) : Ed F ρ s (.UnaryOp .USub a pos) (.int (-i)) s1 :=
  ⟨ha.1, fun O σ H f Q q => we (pe_un un_neg pe_we) (ha.2 O σ H f _ fun v H1 f1 x1 r1 => by cases r1; exact ⟨i, rfl, q _ H1 f1 x1 (.int _)⟩)⟩
/-! as tests -/
theorem et_not (ha : Et F ρ s a k s1) : Et F ρ s (.UnaryOp .Not a pos) (!k) s1 := ⟨ha.1, fun O σ H f Q q => wt (pt_not pt_wt) (ha.2 O σ H f _ fun H1 f1 x1 => q H1 f1 x1)⟩
theorem ew_and1 (ha : Et F ρ s a k s1) : Ew F ρ s (.BoolOp .And [a] pos) k s1 := ⟨ha.1, fun O σ H f Q q => ww (pw_and1 pt_wt) (ha.2 O σ H f Q q)⟩
theorem ew_or1 (ha : Et F ρ s a k s1) : Ew F ρ s (.BoolOp .Or [a] pos) k s1 := ⟨ha.1, fun O σ H f Q q => ww (pw_or1 pt_wt) (ha.2 O σ H f Q q)⟩
theorem ew_andT (ha : Et F ρ s a true s1) (hb : Ew F ρ s1 (.BoolOp .And (b :: rest) pos) k s2) : Ew F ρ s (.BoolOp .And (a :: b :: rest) pos) k s2 :=
  ⟨ha.1.trans hb.1, fun O σ H f Q q => ww (pw_and pt_wt pw_ww) (ha.2 O σ H f _ fun H1 f1 x1 => iteT (hb.2 O σ H1 f1 Q fun H2 f2 x2 => q H2 f2 (x1.trans x2)))⟩
theorem ew_andF (ha : Et F ρ s a false s1) : Ew F ρ s (.BoolOp .And (a :: b :: rest) pos) false s1 :=
  ⟨ha.1, fun O σ H f Q q => ww (pw_and pt_wt pw_ww) (ha.2 O σ H f _ fun H1 f1 x1 => iteF (q H1 f1 x1))⟩
theorem ew_orT (ha : Et F ρ s a true s1) : Ew F ρ s (.BoolOp .Or (a :: b :: rest) pos) true s1 :=
  ⟨ha.1, fun O σ H f Q q => ww (pw_or pt_wt pw_ww) (ha.2 O σ H f _ fun H1 f1 x1 => iteT (q H1 f1 x1))⟩
theorem ew_orF (ha : Et F ρ s a false s1) (hb : Ew F ρ s1 (.BoolOp .Or (b :: rest) pos) k s2) : Ew F ρ s (.BoolOp .Or (a :: b :: rest) pos) k s2 :=
  ⟨ha.1.trans hb.1, fun O σ H f Q q => ww (pw_or pt_wt pw_ww) (ha.2 O σ H f _ fun H1 f1 x1 => iteF (hb.2 O σ H1 f1 Q fun H2 f2 x2 => q H2 f2 (x1.trans x2)))⟩
theorem ew_and (ha : Et F ρ s a k s) (hb : k = true → Ew F ρ s (.BoolOp .And (b :: rest) pos) l s) : Ew F ρ s (.BoolOp .And (a :: b :: rest) pos) (k && l) s := by
  cases k with
  | true => exact ew_andT ha (hb rfl)
  | false => exact ew_andF ha
theorem ew_or (ha : Et F ρ s a k s) (hb : k = false → Ew F ρ s (.BoolOp .Or (b :: rest) pos) l s) : Ew F ρ s (.BoolOp .Or (a :: b :: rest) pos) (k || l) s := by
  cases k with
  | true => exact ew_orT ha
  | false => exact ew_orF ha (hb rfl)
/-- a if c else b -/
theorem ed_ifT (hc : Et F ρ s c true s1) (ha : Ed F ρ s1 a d s2) : Ed F ρ s (.IfExp c a b pos) d s2 :=
  ⟨hc.1.trans ha.1, fun O σ H f Q q => we (pe_ifExp pt_wt pe_we pe_we) (hc.2 O σ H f _ fun H1 f1 x1 => iteT (ha.2 O σ H1 f1 Q fun v H2 f2 x2 r2 => q v H2 f2 (x1.trans x2) r2))⟩
theorem ed_ifF (hc : Et F ρ s c false s1) (hb : Ed F ρ s1 b d s2) : Ed F ρ s (.IfExp c a b pos) d s2 :=
  ⟨hc.1.trans hb.1, fun O σ H f Q q => we (pe_ifExp pt_wt pe_we pe_we) (hc.2 O σ H f _ fun H1 f1 x1 => iteF (hb.2 O σ H1 f1 Q fun v H2 f2 x2 r2 => q v H2 f2 (x1.trans x2) r2))⟩
theorem ed_if (hc : Et F ρ s c k s1) (ha : k = true → Ed F ρ s1 a x s1) (hb : k = false → Ed F ρ s1 b y s1) : Ed F ρ s (.IfExp c a b pos) (if k then x else y) s1 := by
  cases k with
  | true => exact ed_ifT hc (ha rfl)
  | false => exact ed_ifF hc (hb rfl)

/-! items -/
theorem atI_rps {K : PySem.W.Frag} {q : Addr} {S : List Addr} {H : Hp} {vs : List V} {i : Int} (r : Rps K q S H vs xs) (h : atI xs i = some d) : ∃ v, atI vs i = some v ∧ Rp K q S H v d := by
  unfold atI at h ⊢
  rw [r.length]
  cases e : ixN xs.length i with
  | none => rw [e] at h; cases h
  | some j =>
    rw [e] at h
    exact r.get h
theorem ed_ixL {i : Int} (ha : Ed F ρ s a (.lst xs) s1) (hb : Ed F ρ s1 b (.int i) s2) (h : atI xs i = some d) (hs : PlainIx b := by exact fun _ _ => rfl) : Ed F ρ s (.Subscript a b pos) d s2 :=
  ⟨ha.1.trans hb.1, fun O σ H f Q q => we (pe_ix ix_list pe_we pe_we hs) (ha.2 O σ H f _ fun v H1 f1 x1 r1 => hb.2 O σ H1 f1 _ fun w H2 f2 x2 r2 => by
    cases r2
    cases r1.ext x2.xt with
    | lst n h1 h2 =>
      obtain ⟨v, e, r⟩ := atI_rps h2 h
      exact ⟨_, _, i, v, rfl, rfl, .inl (.inl h1), e, q v H2 f2 (x1.trans x2) r⟩)⟩
theorem ed_ixT {i : Int} (ha : Ed F ρ s a (.tup xs) s1) (hb : Ed F ρ s1 b (.int i) s2) (h : atI xs i = some d) (hs : PlainIx b := by exact fun _ _ => rfl) : Ed F ρ s (.Subscript a b pos) d s2 :=
  ⟨ha.1.trans hb.1, fun O σ H f Q q => we (pe_ix ix_tup pe_we pe_we hs) (ha.2 O σ H f _ fun v H1 f1 x1 r1 => hb.2 O σ H1 f1 _ fun w H2 f2 x2 r2 => by
    cases r2
    cases r1.ext x2.xt with
    | tup h1 h2 =>
      obtain ⟨v, e, r⟩ := atI_rps h2 h
      exact ⟨_, _, i, v, rfl, rfl, h1.sq, e, q v H2 f2 (x1.trans x2) r⟩)⟩
theorem ed_ixS {i n : Int} {ns : List Int} (ha : Ed F ρ s a (.scr ns) s1) (hb : Ed F ρ s1 b (.int i) s2) (h : atI ns i = some n) (hs : PlainIx b := by exact fun _ _ => rfl) : Ed F ρ s (.Subscript a b pos) (.int n) s2 :=
  ⟨ha.1.trans hb.1, fun O σ H f Q q => we (pe_ix ix_list pe_we pe_we hs) (ha.2 O σ H f _ fun v H1 f1 x1 r1 => hb.2 O σ H1 f1 _ fun w H2 f2 x2 r2 => by
    cases r2
    cases r1.ext x2.xt with
    | scr h1 =>
      have e : atI (ns.map V.int) i = some (.int n) := by
        unfold atI at h ⊢
        rw [List.length_map]
        cases e : ixN ns.length i with
        | none => rw [e] at h; cases h
        | some j => rw [e] at h; simp only [Option.bind_some] at h ⊢; rw [List.getElem?_map, h]; rfl
      exact ⟨_, _, i, _, rfl, rfl, h1.sq, e, q _ H2 f2 (x1.trans x2) (.int n)⟩)⟩

/-! calls of built-ins -/
theorem ed_callB {x : Str} {id : String} {r : List V → Hp → VK → Prop} (hc : CallR F.X (.builtin id) r) (hm : F.X.mg x = none) (hv : bootBuiltins x = some (.builtin id)) (ha : Ea F ρ s (e :: es) xs s1) (hr : CRd F ρ s1 r xs z) (hg : Gl F.X x := by rfl) (hn : x ≠ "__name__" := by decide) (hdb : (x == ("__debug__" : Str)) = false := by decide)
    (he : starEach (e :: es) F.X.env = (false, eval e F.X.env) :: starEach es F.X.env := by rfl) (hpl : (backTo pos (starEach es F.X.env)).any (·.1) = false := by rfl) : Ed F ρ s (.Call (.Name x p) (e :: es) [] pos) z s1 :=
  ⟨ha.1, fun O σ H f Q q => we (pe_callB hc hg hm hv pa_wa hn hdb he hpl) (ha.2 O σ H f _ fun vs H1 f1 x1 r1 => hr O σ H1 f1 vs r1 Q fun u H2 f2 x2 r2 => q u H2 f2 (x1.trans x2) r2)⟩
theorem ed_callTy {x : Str} {T : String} {r : List V → Hp → VK → Prop} (hc : CallR F.X (.type T) r) (hm : F.X.mg x = none) (hv : bootBuiltins x = some (.type T)) (ha : Ea F ρ s (e :: es) xs s1) (hr : CRd F ρ s1 r xs z) (hg : Gl F.X x := by rfl) (hn : x ≠ "__name__" := by decide) (hdb : (x == ("__debug__" : Str)) = false := by decide)
    (he : starEach (e :: es) F.X.env = (false, eval e F.X.env) :: starEach es F.X.env := by rfl) (hpl : (backTo pos (starEach es F.X.env)).any (·.1) = false := by rfl) : Ed F ρ s (.Call (.Name x p) (e :: es) [] pos) z s1 :=
  ⟨ha.1, fun O σ H f Q q => we (pe_callTy hc hg hm hv pa_wa hn hdb he hpl) (ha.2 O σ H f _ fun vs H1 f1 x1 r1 => hr O σ H1 f1 vs r1 Q fun u H2 f2 x2 r2 => q u H2 f2 (x1.trans x2) r2)⟩
theorem el_callTy {x : Str} {T : String} {r : List V → Hp → VK → Prop} (hc : CallR F.X (.type T) r) (hm : F.X.mg x = none) (hv : bootBuiltins x = some (.type T)) (ha : Ea F ρ s (e :: es) xs s1) (hr : CRl F ρ s1 r xs zs) (hg : Gl F.X x := by rfl) (hn : x ≠ "__name__" := by decide) (hdb : (x == ("__debug__" : Str)) = false := by decide)
    (he : starEach (e :: es) F.X.env = (false, eval e F.X.env) :: starEach es F.X.env := by rfl) (hpl : (backTo pos (starEach es F.X.env)).any (·.1) = false := by rfl) : El F ρ s (.Call (.Name x p) (e :: es) [] pos) zs s1 :=
  ⟨ha.1, fun O σ H f Q q => we (pe_callTy hc hg hm hv pa_wa hn hdb he hpl) (ha.2 O σ H f _ fun vs H1 f1 x1 r1 => hr O σ H1 f1 vs r1 Q fun u ws H2 f2 x2 n2 h2 r2 => q u ws H2 f2 (x1.trans x2) (x1.2 u n2) h2 r2)⟩
/-- the built-in names that the module leaves as they are -/
structure Bf (mg : Str → Option Value) : Prop where
  len : mg "len" = none
  isi : mg "isinstance" = none
  abs : mg "abs" = none
  min : mg "min" = none
  max : mg "max" = none
  sum : mg "sum" = none
  all : mg "all" = none
  any : mg "any" = none
  range : mg "range" = none
  zip : mg "zip" = none
  enum : mg "enumerate" = none
  sorted : mg "sorted" = none
  int : mg "int" = none
  bool : mg "bool" = none
  str : mg "str" = none
  list : mg "list" = none
  tuple : mg "tuple" = none
  dict : mg "dict" = none
  set : mg "set" = none
theorem boot_isi : bootBuiltins "isinstance" = some (.builtin "isinstance") := by decide +kernel
theorem boot_abs' : bootBuiltins "abs" = some (.builtin "abs") := by decide +kernel
theorem boot_min' : bootBuiltins "min" = some (.builtin "min") := by decide +kernel
theorem boot_max' : bootBuiltins "max" = some (.builtin "max") := by decide +kernel
theorem boot_sum' : bootBuiltins "sum" = some (.builtin "sum") := by decide +kernel
theorem boot_all' : bootBuiltins "all" = some (.builtin "all") := by decide +kernel
theorem boot_any' : bootBuiltins "any" = some (.builtin "any") := by decide +kernel
theorem boot_sorted' : bootBuiltins "sorted" = some (.builtin "sorted") := by decide +kernel
theorem boot_int' : bootBuiltins "int" = some (.type "int") := by decide +kernel
theorem boot_bool' : bootBuiltins "bool" = some (.type "bool") := by decide +kernel
theorem boot_str' : bootBuiltins "str" = some (.type "str") := by decide +kernel
theorem boot_list' : bootBuiltins "list" = some (.type "list") := by decide +kernel
theorem boot_tuple' : bootBuiltins "tuple" = some (.type "tuple") := by decide +kernel
theorem boot_dict' : bootBuiltins "dict" = some (.type "dict") := by decide +kernel

/-! len -/
def D.size : D → Option Nat
  | .lst xs => some xs.length
  | .tup xs => some xs.length
  | .scr ns => some ns.length
  | _ => none
theorem ed_len {n : Nat} (B : Bf F.X.mg) (ha : Ed F ρ s a x s1) (h : x.size = some n) (hg : Gl F.X "len" := by rfl) (he : starEach [a] F.X.env = (false, eval a F.X.env) :: starEach [] F.X.env := by rfl) : Ed F ρ s (.Call (.Name "len" p) [a] [] pos) (.int n) s1 :=
  ed_callB call_len_seq B.len boot_len (ea_cons ha ea_nil he) (fun O σ H f vs r Q q => by
    cases r with
    | cons r1 r2 =>
      cases r2
      cases x with
      | lst xs =>
        cases r1 with
        | lst m h1 h2 =>
          obtain rfl : xs.length = n := Option.some.inj h
          refine ⟨_, _, rfl, .inl (.inl (.inl h1)), ?_⟩
          rw [h2.length]
          exact q _ _ f .refl (.int _)
      | tup xs =>
        cases r1 with
        | tup h1 h2 =>
          obtain rfl : xs.length = n := Option.some.inj h
          refine ⟨_, _, rfl, .inr h1.sq, ?_⟩
          rw [h2.length]
          exact q _ _ f .refl (.int _)
      | scr ns =>
        cases r1 with
        | scr h1 =>
          obtain rfl : ns.length = n := Option.some.inj h
          refine ⟨_, _, rfl, .inl h1.sq, ?_⟩
          rw [List.length_map]
          exact q _ _ f .refl (.int _)
      | _ => cases h) hg (by decide) (by decide) he rfl
theorem ed_abs {i : Int} (B : Bf F.X.mg) (ha : Ed F ρ s a (.int i) s1) (hg : Gl F.X "abs" := by rfl) (he : starEach [a] F.X.env = (false, eval a F.X.env) :: starEach [] F.X.env := by rfl) : Ed F ρ s (.Call (.Name "abs" p) [a] [] pos) (.int i.natAbs) s1 :=
  ed_callB call_abs B.abs boot_abs' (ea_cons ha ea_nil he) (fun O σ H f vs r Q q => by
    cases r with
    | cons r1 r2 =>
      cases r2; cases r1
      refine ⟨i, rfl, ?_⟩
      have e : (if i < 0 then -i else i) = (i.natAbs : Int) := by split <;> omega
      rw [e]
      exact q _ _ f .refl (.int _)) hg (by decide) (by decide) he rfl
theorem ed_intI {i : Int} (B : Bf F.X.mg) (ha : Ed F ρ s a (.int i) s1) (hg : Gl F.X "int" := by rfl) (he : starEach [a] F.X.env = (false, eval a F.X.env) :: starEach [] F.X.env := by rfl) : Ed F ρ s (.Call (.Name "int" p) [a] [] pos) (.int i) s1 :=
  ed_callTy call_int1 B.int boot_int' (ea_cons ha ea_nil he) (fun O σ H f vs r Q q => by
    cases r with
    | cons r1 r2 => cases r2; cases r1; exact .inl ⟨i, rfl, q _ _ f .refl (.int _)⟩) hg (by decide) (by decide) he rfl
theorem ed_max2 {i j : Int} (B : Bf F.X.mg) (hc : F.X.calm = true) (ha : Ed F ρ s a (.int i) s1) (hb : Ed F ρ s1 b (.int j) s2) (hg : Gl F.X "max" := by rfl) (he : starEach [a, b] F.X.env = (false, eval a F.X.env) :: starEach [b] F.X.env := by rfl) (hf : starEach [b] F.X.env = (false, eval b F.X.env) :: starEach [] F.X.env := by rfl) (hpl : (backTo pos (starEach [b] F.X.env)).any (·.1) = false := by rfl) :
    Ed F ρ s (.Call (.Name "max" p) [a, b] [] pos) (.int (max i j)) s2 :=
  ed_callB (call_max2 hc) B.max boot_max' (ea_cons ha (ea_cons hb ea_nil hf) he) (fun O σ H f vs r Q q => by
    cases r with
    | cons r1 r2 =>
      cases r2 with
      | cons r2 r3 =>
        cases r3; cases r1; cases r2
        refine ⟨i, j, rfl, ?_⟩
        have e : (if j > i then j else i) = max i j := by split <;> omega
        rw [e]
        exact q _ _ f .refl (.int _)) hg (by decide) (by decide) he hpl
theorem ed_min2 {i j : Int} (B : Bf F.X.mg) (hc : F.X.calm = true) (ha : Ed F ρ s a (.int i) s1) (hb : Ed F ρ s1 b (.int j) s2) (hg : Gl F.X "min" := by rfl) (he : starEach [a, b] F.X.env = (false, eval a F.X.env) :: starEach [b] F.X.env := by rfl) (hf : starEach [b] F.X.env = (false, eval b F.X.env) :: starEach [] F.X.env := by rfl) (hpl : (backTo pos (starEach [b] F.X.env)).any (·.1) = false := by rfl) :
    Ed F ρ s (.Call (.Name "min" p) [a, b] [] pos) (.int (min i j)) s2 :=
  ed_callB (call_min2 hc) B.min boot_min' (ea_cons ha (ea_cons hb ea_nil hf) he) (fun O σ H f vs r Q q => by
    cases r with
    | cons r1 r2 =>
      cases r2 with
      | cons r2 r3 =>
        cases r3; cases r1; cases r2
        refine ⟨i, j, rfl, ?_⟩
        have e : (if j < i then j else i) = min i j := by split <;> omega
        rw [e]
        exact q _ _ f .refl (.int _)) hg (by decide) (by decide) he hpl
theorem ed_sum {ns : List Int} (B : Bf F.X.mg) (hc : F.X.calm = true) (ha : Ed F ρ s a (.lst (ns.map D.int)) s1) (hg : Gl F.X "sum" := by rfl) (he : starEach [a] F.X.env = (false, eval a F.X.env) :: starEach [] F.X.env := by rfl) : Ed F ρ s (.Call (.Name "sum" p) [a] [] pos) (.int ns.sum) s1 :=
  ed_callB (cr_sum hc) B.sum boot_sum' (ea_cons ha ea_nil he) (fun O σ H f vs r Q q => by
    cases r with
    | cons r1 r2 =>
      cases r2
      cases r1 with
      | lst m h1 h2 =>
        have e := h2.ints
        subst e
        exact ⟨_, ns, rfl, .inl (.inl h1), q _ _ f .refl (.int _)⟩) hg (by decide) (by decide) he rfl
theorem ed_all {bs : List Bool} (B : Bf F.X.mg) (hc : F.X.calm = true) (ha : Ed F ρ s a (.lst (bs.map D.bl)) s1) (hg : Gl F.X "all" := by rfl) (he : starEach [a] F.X.env = (false, eval a F.X.env) :: starEach [] F.X.env := by rfl) : Ed F ρ s (.Call (.Name "all" p) [a] [] pos) (.bl (bs.all id)) s1 :=
  ed_callB (cr_all hc) B.all boot_all' (ea_cons ha ea_nil he) (fun O σ H f vs r Q q => by
    cases r with
    | cons r1 r2 =>
      cases r2
      cases r1 with
      | lst m h1 h2 =>
        have e := h2.bls
        subst e
        exact ⟨_, bs, rfl, .inl (.inl h1), q _ _ f .refl (.bl _)⟩) hg (by decide) (by decide) he rfl
theorem ed_any {bs : List Bool} (B : Bf F.X.mg) (hc : F.X.calm = true) (ha : Ed F ρ s a (.lst (bs.map D.bl)) s1) (hg : Gl F.X "any" := by rfl) (he : starEach [a] F.X.env = (false, eval a F.X.env) :: starEach [] F.X.env := by rfl) : Ed F ρ s (.Call (.Name "any" p) [a] [] pos) (.bl (bs.any id)) s1 :=
  ed_callB (cr_any hc) B.any boot_any' (ea_cons ha ea_nil he) (fun O σ H f vs r Q q => by
    cases r with
    | cons r1 r2 =>
      cases r2
      cases r1 with
      | lst m h1 h2 =>
        have e := h2.bls
        subst e
        exact ⟨_, bs, rfl, .inl (.inl h1), q _ _ f .refl (.bl _)⟩) hg (by decide) (by decide) he rfl
/-! list(x), tuple(x) -/
theorem el_listOf (B : Bf F.X.mg) (ha : Ed F ρ s a x s1) (h : x = .lst xs ∨ x = .tup xs) (hg : Gl F.X "list" := by rfl) (he : starEach [a] F.X.env = (false, eval a F.X.env) :: starEach [] F.X.env := by rfl) : El F ρ s (.Call (.Name "list" p) [a] [] pos) xs s1 :=
  el_callTy call_list_of B.list boot_list' (ea_cons ha ea_nil he) (fun O σ H f vs r Q q => by
    cases r with
    | cons r1 r2 =>
      cases r2
      rcases h with rfl | rfl
      · cases r1 with
        | lst m h1 h2 => exact ⟨_, _, rfl, .inl (.inl (.inl h1)), fun l n => q l _ _ (f.newO n) (.new n) n upd_same ((h2.fresh n).ext (.new n))⟩
      · cases r1 with
        | tup h1 h2 => exact ⟨_, _, rfl, .inr h1.sq, fun l n => q l _ _ (f.newO n) (.new n) n upd_same ((h2.fresh n).ext (.new n))⟩) hg (by decide) (by decide) he rfl
theorem ed_tupleOf (B : Bf F.X.mg) (ha : Ed F ρ s a x s1) (h : x = .lst xs ∨ x = .tup xs) (hg : Gl F.X "tuple" := by rfl) (he : starEach [a] F.X.env = (false, eval a F.X.env) :: starEach [] F.X.env := by rfl) : Ed F ρ s (.Call (.Name "tuple" p) [a] [] pos) (.tup xs) s1 :=
  ed_callTy call_tuple_of B.tuple boot_tuple' (ea_cons ha ea_nil he) (fun O σ H f vs r Q q => by
    cases r with
    | cons r1 r2 =>
      cases r2
      rcases h with rfl | rfl
      · cases r1 with
        | lst m h1 h2 => exact ⟨_, _, rfl, .inl ⟨.inl (.inl h1), fun l n => q _ _ (f.new n) (.new n) (.tup (.inl ⟨f.fresh n, .inl upd_same⟩) (h2.ext (.new n)))⟩⟩
      · cases r1 with
        | tup h1 h2 => exact ⟨_, _, rfl, .inr ⟨h1.sq, q _ _ f .refl (.tup h1 h2)⟩⟩) hg (by decide) (by decide) he rfl
end
end Gh
set_option Elab.async false
set_option linter.all false
set_option maxRecDepth 100000
namespace Gh
open PySem PySem.Spec PyProof.Rows L2
/-! isinstance -/
inductive Kn where
  | none | bool | int | str | list | tuple | dict
  deriving DecidableEq
def Kn.name : Kn → String
  | .none => "NoneType" | .bool => "bool" | .int => "int" | .str => "str" | .list => "list" | .tuple => "tuple" | .dict => "dict"
def D.kind : D → Option Kn
  | .non => some .none | .bl _ => some .bool | .int _ => some .int | .str _ => some .str | .lst _ => some .list | .scr _ => some .list | .tup _ => some .tuple | .emp => some .dict
  | .mut => Option.none | .ref _ => Option.none | .ty _ => Option.none
/-- is what is of the first kind of the second class -/
def isK : Kn → Kn → Bool
  | .none, .none => true | .bool, .bool => true | .bool, .int => true | .int, .int => true | .str, .str => true | .list, .list => true | .tuple, .tuple => true | .dict, .dict => true
  | _, _ => false
theorem kit_isK {K : PySem.W.Frag} (k c : Kn) (hc : c ≠ .none) : PySem.W.kitOne K (.type k.name) (.type c.name) = some (isK k c) := by
  refine kit_ty ?_
  cases k <;> cases c <;> first | exact absurd rfl hc | decide +kernel
theorem kitAny_isK {K : PySem.W.Frag} (k : Kn) : ∀ (cs : List Kn), (∀ c ∈ cs, c ≠ .none) → PySem.W.kitAny K (.type k.name) (cs.map fun c => Value.type c.name) = some (cs.any (isK k))
  | [], _ => rfl
  | c :: cs, h => by
    have h1 := kit_isK (K := K) k c (h c List.mem_cons_self)
    have h2 := kitAny_isK (K := K) k cs fun d m => h d (List.mem_cons_of_mem _ m)
    refine kitAny_cons h1 (fun e => ?_) fun e => ?_
    · rw [h2, List.any_cons, e, Bool.false_or]
    · rw [List.any_cons, e, Bool.true_or]
theorem sqK_list {K : PySem.W.Frag} {a : Addr} {xs : List V} (h : SqL K (fun _ => none) a xs) : ∃ o, K.lookup a = some o ∧ o.cls = .type "list" := by
  rcases h with h | ⟨o, _, _, h1, h2, _⟩
  · exact (rd_none h).elim
  · exact ⟨o, h1, h2⟩
theorem sqK_tup {K : PySem.W.Frag} {a : Addr} {xs : List V} (h : SqT K (fun _ => none) a xs) : ∃ o, K.lookup a = some o ∧ o.cls = .type "tuple" := by
  rcases h with h | ⟨o, _, _, h1, h2, _⟩
  · exact (rd_none h).elim
  · exact ⟨o, h1, h2⟩
theorem tyx_of {K : PySem.W.Frag} {p : Addr} {S : List Addr} {H : Hp} {v : V} {d : D} {k : Kn} (r : Rp K p S H v d) (h : d.kind = some k) : TyX K H v (.type k.name) := by
  cases r with
  | non => cases h; exact .base .non
  | bl b => cases h; exact .base (.bl b)
  | int i => cases h; exact .base (.int i)
  | str x => cases h; exact .base (.str x)
  | lst m h1 h2 => cases h; exact .base (.lst h1)
  | scr h1 =>
    cases h
    rcases h1 with ⟨_, h1 | ⟨o, h1⟩⟩ | h1
    · exact .base (.lst h1)
    · exact .base (.frz h1)
    · obtain ⟨o, e, c⟩ := sqK_list h1
      exact .kList e c
  | tup h1 h2 =>
    cases h
    rcases h1 with ⟨_, h1 | ⟨o, h1⟩⟩ | h1
    · exact .base (.tup h1)
    · exact .fTuple h1
    · obtain ⟨o, e, c⟩ := sqK_tup h1
      exact .kTuple e c
  | emp m h1 => cases h; exact .base (.dK h1)
  | _ => cases h
section
variable {F : Fx} {ρ : List G} {s s1 s2 s3 : Sx} {a b c e : Expr} {es rest : List Expr} {x y z d : D} {xs zs ds : List D} {pos p : Pos} {k l : Bool}
/-- a class's name -/
def Cn (F : Fx) (e : Expr) (c : Kn) : Prop := ∀ ρ s, Ed F ρ s e (.ty c.name) s
theorem cn_list (B : Bf F.X.mg) (hg : Gl F.X "list" := by rfl) : Cn F (.Name "list" p) .list := fun ρ s => ed_ty hg B.list boot_list'
theorem cn_tuple (B : Bf F.X.mg) (hg : Gl F.X "tuple" := by rfl) : Cn F (.Name "tuple" p) .tuple := fun ρ s => ed_ty hg B.tuple boot_tuple'
theorem cn_int (B : Bf F.X.mg) (hg : Gl F.X "int" := by rfl) : Cn F (.Name "int" p) .int := fun ρ s => ed_ty hg B.int boot_int'
theorem cn_bool (B : Bf F.X.mg) (hg : Gl F.X "bool" := by rfl) : Cn F (.Name "bool" p) .bool := fun ρ s => ed_ty hg B.bool boot_bool'
theorem cn_str (B : Bf F.X.mg) (hg : Gl F.X "str" := by rfl) : Cn F (.Name "str" p) .str := fun ρ s => ed_ty hg B.str boot_str'
theorem cn_dict (B : Bf F.X.mg) (hg : Gl F.X "dict" := by rfl) : Cn F (.Name "dict" p) .dict := fun ρ s => ed_ty hg B.dict boot_dict'
/-- isinstance(a, T) -/
theorem ed_isi {t : Expr} {c k : Kn} (B : Bf F.X.mg) (ha : Ed F ρ s a x s1) (hk : x.kind = some k) (ht : Cn F t c) (hc : c ≠ .none := by decide) (hg : Gl F.X "isinstance" := by rfl) (he : starEach [a, t] F.X.env = (false, eval a F.X.env) :: starEach [t] F.X.env := by rfl)
    (hf : starEach [t] F.X.env = (false, eval t F.X.env) :: starEach [] F.X.env := by rfl) (hpl : (backTo pos (starEach [t] F.X.env)).any (·.1) = false := by rfl) : Ed F ρ s (.Call (.Name "isinstance" p) [a, t] [] pos) (.bl (isK k c)) s1 :=
  ed_callB call_isi B.isi boot_isi (ea_cons ha (ea_cons (ht ρ s1) ea_nil hf) he) (fun O σ H f vs r Q q => by
    cases r with
    | cons r1 r2 =>
      cases r2 with
      | cons r2 r3 =>
        cases r3; cases r2
        exact ⟨_, _, _, _, isK k c, rfl, .ty _, tyx_of r1 hk, kit_isK k c hc, q _ _ f .refl (.bl _)⟩) hg (by decide) (by decide) he hpl
/-- (T1, T2, ..): the names of classes -/
inductive Cns (F : Fx) : List Expr → List Kn → Prop
  | nil : Cns F [] []
  | cons {t : Expr} {ts : List Expr} {c : Kn} {cs : List Kn} : Cn F t c → starEach (t :: ts) F.X.env = (false, eval t F.X.env) :: starEach ts F.X.env → Cns F ts cs → Cns F (t :: ts) (c :: cs)
theorem Cns.ea {ts : List Expr} {cs : List Kn} (h : Cns F ts cs) : ∀ ρ s, Ea F ρ s ts (cs.map fun c => D.ty c.name) s := by
  induction h with
  | nil => intro ρ s; exact ea_nil
  | cons h1 h2 h3 ih => intro ρ s; exact ea_cons (h1 ρ s) (ih ρ s) h2
theorem rps_tys {K : PySem.W.Frag} {q : Addr} {S : List Addr} {H : Hp} : ∀ {cs : List Kn} {vs : List V}, Rps K q S H vs (cs.map fun c => D.ty c.name) → Paired ClsV vs (cs.map fun c => Value.type c.name)
  | [], _, h => by cases h; exact .nil
  | c :: cs, _, h => by
    cases h with
    | cons h1 h2 => cases h1; exact .cons (.ty _) (rps_tys h2)
theorem rps_len {K : PySem.W.Frag} {q : Addr} {S : List Addr} {H : Hp} {cs : List Kn} {vs : List V} (h : Rps K q S H vs (cs.map fun c => D.ty c.name)) : vs.length = cs.length := by rw [h.length, List.length_map]
theorem ed_isiT {ts : List Expr} {cs : List Kn} {k : Kn} {kk} {tpos : Pos} (B : Bf F.X.mg) (ha : Ed F ρ s a x s1) (hk : x.kind = some k) (ht : Cns F ts cs) (hc : ∀ c ∈ cs, c ≠ .none := by decide) (hl : cs.length ≤ sizeLine := by decide) (hg : Gl F.X "isinstance" := by rfl)
    (he : starEach [a, .Tuple ts kk tpos] F.X.env = (false, eval a F.X.env) :: starEach [.Tuple ts kk tpos] F.X.env := by rfl)
    (hf : starEach [.Tuple ts kk tpos] F.X.env = (false, eval (.Tuple ts kk tpos) F.X.env) :: starEach [] F.X.env := by rfl) (hpl : (backTo pos (starEach [.Tuple ts kk tpos] F.X.env)).any (·.1) = false := by rfl) :
    Ed F ρ s (.Call (.Name "isinstance" p) [a, .Tuple ts kk tpos] [] pos) (.bl (cs.any (isK k))) s1 :=
  ⟨ha.1, fun O σ H f Q q => we (pe_callB call_isiT hg B.isi boot_isi (pa_cons pe_we (pa_cons (pe_tup pa_wa) pa_nil hf) he) (by decide) (by decide) he hpl) (ha.2 O σ H f _ fun v H1 f1 x1 r1 =>
    (ht.ea ρ s1).2 O σ H1 f1 _ fun vs H2 f2 x2 r2 => ⟨by rw [rps_len r2]; exact hl, fun t n => ⟨v, t, vs, _, _, cs.any (isK k), rfl, upd_same, rps_tys r2, tyx_of ((r1.ext x2.xt).ext (.new n)) hk, kitAny_isK k cs hc, q _ _ (f2.new n) ((x1.trans x2).trans (.new n)) (.bl _)⟩⟩)⟩
theorem cns_nil : Cns F [] [] := .nil
theorem cns_cons {t : Expr} {ts : List Expr} {c : Kn} {cs : List Kn} (h1 : Cn F t c) (h2 : Cns F ts cs) (h : starEach (t :: ts) F.X.env = (false, eval t F.X.env) :: starEach ts F.X.env := by rfl) : Cns F (t :: ts) (c :: cs) := .cons h1 h h2
end

/-! ### calls of defs -/
/-- a def's promise: for these data, this state of the stream: that, and that state behind -/
def spOf (K : PySem.W.Frag) (ds : List D) (s : Sx) (d : D) (s' : Sx) : Sp := fun vs H Q _ => ∃ (p : Addr) (S : List Addr), Rps K p S H vs ds ∧ (∀ a ∈ S, ∃ o, H a = some o) ∧ StA p S H s ∧
  ∀ v H', Rp K p S H' v d → XP p s H H' → StA p S H' s' → Q v H'
structure En where
  P : Program
  w : World
  K : PySem.W.Frag
  mg : Str → Option Value
  base : Heap
/-- the def f, called with these data, hands back that -/
structure Rn (E : En) (k : Nat) (f : Str) (ds : List D) (s : Sx) (d : D) (s' : Sx) : Prop where
  kd : s.isSome = s'.isSome
  ok : ∃ fa fd ps, E.mg f = some (.ref fa) ∧ PySem.W.keepIn E.K (.ref fa) = true ∧ Binds E.K fd ps [] ∧ FnOk E.P E.w E.K E.mg E.base CX0 k fa fd ps (spOf E.K ds s d s')
abbrev Fx.en (F : Fx) : En := ⟨F.X.prog, F.X.w, F.X.K, F.X.mg, F.X.base⟩
theorem Rn.is {E : En} {k : Nat} {f : Str} {ds : List D} {s s' : Sx} {d d' : D} (r : Rn E k f ds s d s') (h : d = d') : Rn E k f ds s d' s' := h ▸ r
theorem Rn.mono {E : En} {j k : Nat} {f : Str} {ds : List D} {s s' : Sx} {d : D} (r : Rn E j f ds s d s') (h : j ≤ k) : Rn E k f ds s d s' := by
  obtain ⟨kd, fa, fd, ps, h1, h2, h3, h4⟩ := r
  exact ⟨kd, fa, fd, ps, h1, h2, h3, h4.mono h⟩
section
variable {F : Fx} {ρ : List G} {s s1 s2 s3 : Sx} {e : Expr} {es : List Expr} {d : D} {ds : List D} {pos p : Pos}
theorem ed_call {f : Str} {k : Nat} (R : Rn F.en k f ds s1 d s2) (hr : Room k F.X.A) (ha : Ea F ρ s (e :: es) ds s1) (hg : Gl F.X f := by rfl) (hdb : (f == ("__debug__" : Str)) = false := by decide)
    (he : starEach (e :: es) F.X.env = (false, eval e F.X.env) :: starEach es F.X.env := by rfl) (hpl : (backTo pos (starEach es F.X.env)).any (·.1) = false := by rfl) : Ed F ρ s (.Call (.Name f p) (e :: es) [] pos) d s2 := by
  obtain ⟨kd, fa, fd, ps, h1, h2, h3, h4⟩ := R
  refine ⟨ha.1.trans kd, fun O σ H fm Q q => we (pe_call h4 hr hg h1 h2 h3 .nil pass0 pa_wa hdb he hpl) (ha.2 O σ H fm _ fun vs H1 f1 x1 r1 => ?_)⟩
  rw [List.append_nil]
  refine ⟨F.p, O ++ F.S0, r1, f1.trk, ?_, fun v H2 r2 x2 t2 => ?_⟩
  · have q := f1.st
    cases s1 with
    | none => trivial
    | some ys => exact ⟨List.mem_append_right _ q.1, q.2⟩
  · have t3 : StA F.p F.S0 H2 s2 := by
      have q := f1.st
      cases s2 with
      | none => trivial
      | some ys =>
        cases s1 with
        | none => cases kd
        | some zs => exact ⟨q.1, t2.2⟩
    exact q v H2 (f1.grow x2 kd t3) (x1.trans (x2.xe f1.st f1.kd)) r2
theorem ed_call0 {f : Str} {k : Nat} (R : Rn F.en k f [] s d s2) (hr : Room k F.X.A) (hg : Gl F.X f := by rfl) (hdb : (f == ("__debug__" : Str)) = false := by decide) : Ed F ρ s (.Call (.Name f p) [] [] pos) d s2 := by
  obtain ⟨kd, fa, fd, ps, h1, h2, h3, h4⟩ := R
  refine ⟨kd, fun O σ H fm Q q => we (pe_call0 h4 hr hg h1 h2 h3 .nil pass0 hdb) ?_⟩
  refine ⟨F.p, O ++ F.S0, .nil, fm.trk, ?_, fun v H2 r2 x2 t2 => ?_⟩
  · have q := fm.st
    cases s with
    | none => trivial
    | some ys => exact ⟨List.mem_append_right _ q.1, q.2⟩
  · have t3 : StA F.p F.S0 H2 s2 := by
      have q := fm.st
      cases s2 with
      | none => trivial
      | some ys =>
        cases s with
        | none => cases kd
        | some zs => exact ⟨q.1, t2.2⟩
    exact q v H2 (fm.grow x2 kd t3) (x2.xe fm.st fm.kd) r2
end

/-! ### statements -/
structure GE where
  nx : List G → Sx → Prop
  rt : D → Sx → Prop
  bk : List G → Sx → Prop := fun _ _ => False
  ct : List G → Sx → Prop := fun _ _ => False
/-- from a block's start to its end: data are kept, owned ones that came are new -/
structure Step (F : Fx) (O : List Addr) (H : Hp) (O' : List Addr) (H' : Hp) : Prop where
  xt : XT (O ++ F.S0) H H'
  gr : ∀ a ∈ O', a ∈ O ∨ H a = none
theorem Step.refl {F : Fx} {O : List Addr} {H : Hp} : Step F O H O H := ⟨.refl, fun _ m => .inl m⟩
theorem Step.of {F : Fx} {O : List Addr} {H H' : Hp} (x : XT (O ++ F.S0) H H') : Step F O H O H' := ⟨x, fun _ m => .inl m⟩
theorem Step.trans {F : Fx} {O O1 O2 : List Addr} {H H1 H2 : Hp} (a : Step F O H O1 H1) (b : Step F O1 H1 O2 H2) : Step F O H O2 H2 := by
  refine ⟨⟨fun x o n h => b.xt.1 x o (fun m => ?_) (a.xt.1 x o n h), fun x h => a.xt.2 x (b.xt.2 x h)⟩, fun x m => ?_⟩
  · rcases List.mem_append.mp m with m | m
    · rcases a.gr x m with m | z
      · exact n (List.mem_append_left _ m)
      · rw [z] at h; cases h
    · exact n (List.mem_append_right _ m)
  · rcases b.gr x m with m | z
    · exact a.gr x m
    · exact .inr (a.xt.2 x z)
structure GE.ok (k : GE) (F : Fx) (O : List Addr) (H : Hp) (E : Ends) : Prop where
  nx : ∀ O' σ' H' ρ' s', Fm F O' σ' H' ρ' s' → Step F O H O' H' → k.nx ρ' s' → E.nx σ' H'
  rt : ∀ v H d s, Rp F.X.K F.p F.S0 H v d → XP F.p s F.H0 H → StA F.p F.S0 H s → k.rt d s → E.rt v H
  bk : ∀ O' σ' H' ρ' s', Fm F O' σ' H' ρ' s' → Step F O H O' H' → k.bk ρ' s' → E.bk σ' H'
  ct : ∀ O' σ' H' ρ' s', Fm F O' σ' H' ρ' s' → Step F O H O' H' → k.ct ρ' s' → E.ct σ' H'
theorem GE.ok.to {k : GE} {F : Fx} {O O1 : List Addr} {H H1 : Hp} {E : Ends} (h : k.ok F O H E) (t : Step F O H O1 H1) : k.ok F O1 H1 E :=
  ⟨fun O' σ' H' ρ' s' f st q => h.nx O' σ' H' ρ' s' f (t.trans st) q, h.rt, fun O' σ' H' ρ' s' f st q => h.bk O' σ' H' ρ' s' f (t.trans st) q, fun O' σ' H' ρ' s' f st q => h.ct O' σ' H' ρ' s' f (t.trans st) q⟩
/-- the block, from these names' data, ends as k says -/
def Bk (F : Fx) (sts : List Stmt) (ρ : List G) (s : Sx) (k : GE) : Prop := ∀ O σ H, Fm F O σ H ρ s → ∀ E : Ends, k.ok F O H E → WB F.X sts E σ H
def Bs (F : Fx) (st : Stmt) (ρ : List G) (s : Sx) (k : GE) : Prop := ∀ O σ H, Fm F O σ H ρ s → ∀ E : Ends, k.ok F O H E → WS F.X st E σ H
section
variable {F : Fx} {ρ : List G} {s s1 s2 s3 : Sx} {c e : Expr} {es : List Expr} {d : D} {ds : List D} {pos p : Pos} {k : GE} {st : Stmt} {sts : List Stmt}
theorem bk_nil (h : k.nx ρ s) : Bk F [] ρ s k := fun O σ H f E q => wb pss_nil (q.nx O σ H ρ s f .refl h)
theorem bk_cons (h1 : Bs F st ρ s { k with nx := fun ρ' s' => Bk F sts ρ' s' k }) : Bk F (st :: sts) ρ s k := fun O σ H f E q => wb (pss_cons ps_ws pss_wb) (h1 O σ H f _
  ⟨fun O' σ' H' ρ' s' f' st h' => h' O' σ' H' f' E (q.to st), q.rt, q.bk, q.ct⟩)
theorem bs_pass (h : k.nx ρ s) : Bs F (.Pass pos) ρ s k := fun O σ H f E q => ws ps_pass (q.nx O σ H ρ s f .refl h)
theorem bs_break (h : k.bk ρ s) : Bs F (.Break pos) ρ s k := fun O σ H f E q => ws ps_break (q.bk O σ H ρ s f .refl h)
theorem bs_continue (h : k.ct ρ s) : Bs F (.Continue pos) ρ s k := fun O σ H f E q => ws ps_continue (q.ct O σ H ρ s f .refl h)
theorem bs_ret (h : Ed F ρ s e d s1) (hk : k.rt d s1) : Bs F (.Return (some e) pos) ρ s k := fun O σ H f E q => ws (ps_ret pe_we) (h.2 O σ H f _ fun v H1 f1 x1 r1 =>
  q.rt v H1 d s1 (r1.weak fun a m => List.mem_append_right _ m) f1.ext f1.st hk)
theorem bs_retN (hk : k.rt .non s) : Bs F (.Return none pos) ρ s k := fun O σ H f E q => ws ps_retN (q.rt .non H .non s .non f.ext f.st hk)
theorem bs_expr (h : Ed F ρ s e d s1) (hk : k.nx ρ s1) (hs : swapsWith e none pos.line F.X.env = pure false := by rfl) : Bs F (.Expr e pos) ρ s k := fun O σ H f E q => ws (ps_expr pe_we hs) (h.2 O σ H f _ fun v H1 f1 x1 r1 => q.nx O σ H1 ρ s1 f1 (.of x1.xt) hk)
theorem bs_ifT {a b : List Stmt} (hc : Et F ρ s c true s1) (h : Bk F a ρ s1 k) : Bs F (.If c a b pos) ρ s k := fun O σ H f E q => ws (ps_if pt_wt pss_wb pss_wb) (hc.2 O σ H f _ fun H1 f1 x1 => iteT (h O σ H1 f1 E (q.to (.of x1.xt))))
theorem bs_ifF {a b : List Stmt} (hc : Et F ρ s c false s1) (h : Bk F b ρ s1 k) : Bs F (.If c a b pos) ρ s k := fun O σ H f E q => ws (ps_if pt_wt pss_wb pss_wb) (hc.2 O σ H f _ fun H1 f1 x1 => iteF (h O σ H1 f1 E (q.to (.of x1.xt))))
theorem bs_if {a b : List Stmt} {t : Bool} (hc : Et F ρ s c t s1) (h1 : t = true → Bk F a ρ s1 k) (h2 : t = false → Bk F b ρ s1 k) : Bs F (.If c a b pos) ρ s k := by
  cases t with
  | true => exact bs_ifT hc (h1 rfl)
  | false => exact bs_ifF hc (h2 rfl)
/-- a name gets data -/
theorem Fm.set {O : List Addr} {σ : L2.St} {H : Hp} {v : V} {i : Nat} (f : Fm F O σ H ρ s) (r : Rp F.X.K F.p (O ++ F.S0) H v d) : Fm F O (σ.set i (some v)) H (ρ.set i (.val d)) s := by
  have key : ∀ (j : Nat) (g : G), (ρ.set i (.val d))[j]? = some g → (j = i ∧ g = .val d ∧ j < ρ.length) ∨ (j ≠ i ∧ ρ[j]? = some g) := fun j g h => by
    by_cases e : i = j
    · subst e
      by_cases hl : i < ρ.length
      · rw [List.getElem?_set_self hl] at h; exact .inl ⟨rfl, (Option.some.inj h).symm, hl⟩
      · rw [List.getElem?_eq_none (by simpa using hl)] at h; cases h
    · rw [List.getElem?_set_ne e] at h; exact .inr ⟨fun z => e z.symm, h⟩
  have own : ∀ (j : Nat) (es : List D), (ρ.set i (.val d))[j]? = some (.own es) → j ≠ i ∧ ρ[j]? = some (.own es) := fun j es h => by
    rcases key j _ h with ⟨_, z, _⟩ | q
    · cases z
    · exact q
  refine ⟨f.ext, fun j g hg => ?_, fun j es a hg ha => ?_, fun j l es fs a hne h1 h2 h3 => ?_, f.fre, f.trk, f.st, f.kd⟩
  · rcases key j g hg with ⟨rfl, rfl, hl⟩ | ⟨hne, hg⟩
    · have : j < σ.length := by
        have hx : ρ[j]? = some ρ[j] := List.getElem?_eq_getElem hl
        obtain ⟨o, ho, _⟩ := f.slot j _ hx
        exact (List.getElem?_eq_some_iff.mp ho).1
      exact ⟨some v, List.getElem?_set_self this, v, rfl, r⟩
    · obtain ⟨o, ho, q⟩ := f.slot j g hg
      exact ⟨o, by rw [List.getElem?_set_ne (Ne.symm hne)]; exact ho, q⟩
  · obtain ⟨hne, hg⟩ := own j es hg
    rw [List.getElem?_set_ne (Ne.symm hne)] at ha
    exact f.own j es a hg ha
  · obtain ⟨n1, h1⟩ := own j es h1
    obtain ⟨n2, h2⟩ := own l fs h2
    rw [List.getElem?_set_ne (Ne.symm n1)] at h3
    rw [List.getElem?_set_ne (Ne.symm n2)]
    exact f.dis j l es fs a hne h1 h2 h3
theorem bs_set (i : Nat) {x : Str} {pos' : Pos} (hN : F.X.N.Nodup) (hi : F.X.N[i]? = some x) (hx : Loc F.X.env.scope x) (h : Ed F ρ s e d s1) (hk : k.nx (ρ.set i (.val d)) s1) (hs : swapsWith e (some (.Name x pos')) pos.line F.X.env = pure false := by rfl)
    (hf : F.X.fn x = true ∨ F.X.env.scope.names.lookup x = some .local := by first | exact .inl rfl | exact .inr rfl | assumption) : Bs F (.Assign [.Name x pos'] e pos) ρ s k :=
  fun O σ H f E q => ws (ps_set hN hi hx pe_we hs hf) (h.2 O σ H f _ fun v H1 f1 x1 r1 => q.nx O _ H1 _ s1 (f1.set r1) (.of x1.xt) hk)
end

/-! ### a def's body -/
/-- the data at the entry -/
def gStart (N : List Str) (ds : List D) : List G := ds.map G.val ++ List.replicate (N.length - ds.length) .no
theorem fm_start {F : Fx} {N : List Str} {vs : List V} {ds : List D} {s : Sx} (r : Rps F.X.K F.p F.S0 F.H0 vs ds) (tr : ∀ a ∈ F.S0, ∃ o, F.H0 a = some o) (t : StA F.p F.S0 F.H0 s) (kd : s.isSome = F.act) : Fm F [] (L2.start N vs) F.H0 (gStart N ds) s := by
  have hl := r.length
  have no : ∀ (i : Nat) (es : List D), (gStart N ds)[i]? ≠ some (.own es) := fun i es h => by
    unfold gStart at h
    by_cases hi : i < ds.length
    · rw [List.getElem?_append_left (by simpa using hi), List.getElem?_map] at h
      cases e : ds[i]? with
      | none => rw [e] at h; cases h
      | some z => rw [e] at h; cases h
    · rw [List.getElem?_append_right (by simpa using hi), List.getElem?_replicate] at h
      split at h <;> cases h
  refine ⟨.refl, fun i g hg => ?_, fun i es a h => absurd h (no i es), fun i j es fs a _ h => absurd h (no i es), fun a m => absurd m (by simp), fun a m => tr a (by simpa using m), t, kd⟩
  unfold gStart at hg
  unfold L2.start
  by_cases hi : i < ds.length
  · rw [List.getElem?_append_left (by simpa using hi), List.getElem?_map] at hg
    rw [List.getElem?_append_left (by simpa [hl] using hi), List.getElem?_map]
    cases e : ds[i]? with
    | none => rw [e] at hg; cases hg
    | some z =>
      rw [e] at hg
      cases hg
      obtain ⟨v, e1, e2⟩ := r.get e
      exact ⟨some v, by rw [e1]; rfl, v, rfl, by simpa using e2⟩
  · rw [List.getElem?_append_right (by simpa using hi), List.getElem?_replicate] at hg
    rw [List.getElem?_append_right (by simpa [hl] using hi), List.getElem?_replicate]
    simp only [List.length_map] at hg ⊢
    rw [hl]
    split at hg
    · cases hg
      exact ⟨none, by simp_all, trivial⟩
    · cases hg
section
variable {E : En}
/-- THE RULE for a def: the body's context is cxOf ..; the entry's data and state; what is handed back -/
theorem rn_of {x : Str} {st : Stmt} {fa : Addr} {fd : FuncData} {N ps : List Str} {k : Nat} {ds : List D} {s s' : Sx} {d : D} (T : Fun E.K x x st fa fd) (S : FnScope N ps (defScope st)) (hm : E.mg x = some (.ref fa)) (hb : Binds E.K fd ps []) (kd : s.isSome = s'.isSome) (hl : ds.length = ps.length)
    (body : ∀ (cdv : Value) (A : Around) (outer : List Env) (sh : Shared) (H0 : Hp) (EX : XK) (S0 : List Addr) (p : Addr), Room k (A.deeper (envOfC x (defScope st) sh.heap.objs.size fa cdv)) →
      Bk ⟨(cxOf CX0 E.P E.w E.K E.mg E.base N x (defScope st) fa cdv A outer sh H0 EX).nox, H0, S0, p, s.isSome⟩ (defBody st) (gStart N ds) s ⟨fun _ t => d = .non ∧ t = s', fun r t => r = d ∧ t = s', fun _ _ => False, fun _ _ => False⟩) : Rn E (k + 1) x ds s d s' := by
  refine ⟨kd, fa, fd, ps, hm, T.kp, hb, T.ok S (fun vs H Q EX h => ?_) fun cdv A outer sh H vs Q EX hr h => ?_⟩
  · obtain ⟨p, S, r, _⟩ := h
    rw [r.length, hl]
  · obtain ⟨p, S0, r, tr, t, q⟩ := h
    refine ⟨_, pss_wb, body cdv A outer sh H EX S0 p hr [] (L2.start N vs) H (fm_start (F := ⟨(cxOf CX0 E.P E.w E.K E.mg E.base N x (defScope st) fa cdv A outer sh H EX).nox, H, S0, p, s.isSome⟩) r tr t rfl) _ ⟨fun O σ H' ρ t' f st h => ?_, fun v H' r' t' rv xp ta h => ?_, fun O σ H' ρ t' f st h => h.elim, fun O σ H' ρ t' f st h => h.elim⟩⟩
    · obtain ⟨rfl, rfl⟩ := h
      exact q .non H' .non (f.ext.kind kd.symm) f.st
    · obtain ⟨rfl, rfl⟩ := h
      exact q v H' rv (xp.kind kd.symm) ta
end
end Gh
set_option Elab.async false
set_option linter.all false
set_option maxRecDepth 100000
namespace Gh
open PySem PySem.Spec PyProof.Rows L2
/-! ### operators by data -/
/-- what a op b is worth -/
def D.bin : Operator → D → D → Option D
  | .Add, .int i, .int j => some (.int (i + j))
  | .Sub, .int i, .int j => some (.int (i - j))
  | .Mult, .int i, .int j => some (.int (i * j))
  | .FloorDiv, .int i, .int j => some (.int (i / j))
  | .Mod, .int i, .int j => some (.int (i % j))
  | .Pow, .int i, .int j => some (.int (i ^ j.toNat))
  | .Add, .tup xs, .tup ys => some (.tup (xs ++ ys))
  | .Add, .str x, .str y => some (.str (x ++ y))
  | _, _, _ => none
/-- what it asks -/
def D.binC : Operator → D → D → Prop
  | .Mult, .int i, .int j => CMulW i j
  | .FloorDiv, .int i, .int j => CDivW i j
  | .Mod, .int _, .int j => 0 < j
  | .Pow, .int i, .int j => CPow i j
  | .Add, .tup xs, .tup ys => xs ≠ [] ∧ xs.length + ys.length ≤ sizeLine
  | .Add, .str x, .str y => x.length + y.length ≤ sizeLine
  | _, _, _ => True
section
variable {F : Fx} {ρ : List G} {s s1 s2 s3 : Sx} {a b c e : Expr} {es rest : List Expr} {x y z d : D} {xs ys zs ds : List D} {pos p : Pos} {k l : Bool}
theorem ed_addT (hx : xs ≠ []) (hl : xs.length + ys.length ≤ sizeLine) (ha : Ed F ρ s a (.tup xs) s1) (hb : Ed F ρ s1 b (.tup ys) s2) : Ed F ρ s (.BinOp a .Add b pos) (.tup (xs ++ ys)) s2 :=
  ed_op op_catT ha hb fun O σ H f v w r1 r2 Q q => by
    cases r1 with
    | tup h1 h2 =>
      cases r2 with
      | tup h3 h4 =>
        refine ⟨_, _, _, _, rfl, rfl, h1.sq, h3.sq, fun z => hx ?_, by rw [h2.length, h4.length]; exact hl, fun z => ?_, fun z t n => ?_⟩
        · subst z; cases h2; rfl
        · subst z; cases h4; rw [List.append_nil] at q; exact q _ _ f .refl (.tup h1 h2)
        · exact q _ _ (f.new n) (.new n) (.tup (.inl ⟨f.fresh n, .inl upd_same⟩) ((h2.append h4).ext (.new n)))
theorem ed_addS {i j : Str} (hl : i.length + j.length ≤ sizeLine) (ha : Ed F ρ s a (.str i) s1) (hb : Ed F ρ s1 b (.str j) s2) : Ed F ρ s (.BinOp a .Add b pos) (.str (i ++ j)) s2 :=
  ed_op op_add_str ha hb fun O σ H f v w r1 r2 Q q => by cases r1; cases r2; exact ⟨i, j, rfl, rfl, hl, q _ _ f .refl (.str _)⟩
theorem ed_bin {op : Operator} (ha : Ed F ρ s a x s1) (hb : Ed F ρ s1 b y s2) (h : D.bin op x y = some z) (hc : D.binC op x y) : Ed F ρ s (.BinOp a op b pos) z s2 := by
  unfold D.bin at h
  split at h
  all_goals first | cases h | skip
  · exact ed_add ha hb
  · exact ed_sub ha hb
  · exact ed_mulW hc ha hb
  · exact ed_fdiv hc ha hb
  · exact ed_mod hc ha hb
  · exact ed_pow hc ha hb
  · exact ed_addT hc.1 hc.2 ha hb
  · exact ed_addS hc ha hb
/-- a new list by + and * -/
theorem el_cat (hl : xs.length + ys.length ≤ sizeLine) (ha : Ed F ρ s a (.lst xs) s1) (hb : Ed F ρ s1 b (.lst ys) s2) : El F ρ s (.BinOp a .Add b pos) (xs ++ ys) s2 :=
  el_op op_cat ha hb fun O σ H f v w r1 r2 Q q => by
    cases r1 with
    | lst m1 h1 h2 =>
      cases r2 with
      | lst m3 h3 h4 => exact ⟨_, _, _, _, rfl, rfl, h1, h3, by rw [h2.length, h4.length]; exact hl, fun t n => q t _ _ (f.newO n) (.new n) n upd_same (((h2.append h4).fresh n).ext (.new n))⟩
theorem rps_rep {K : PySem.W.Frag} {q : Addr} {S : List Addr} {H : Hp} {vs : List V} (r : Rps K q S H vs xs) : ∀ n : Nat, Rps K q S H (List.replicate n vs).flatten (List.replicate n xs).flatten
  | 0 => .nil
  | n + 1 => by rw [List.replicate_succ, List.replicate_succ, List.flatten_cons, List.flatten_cons]; exact r.append (rps_rep r n)

/-! ### comparisons by data -/
mutual
def D.py : D → PyData
  | .non => .none
  | .bl b => .bool b
  | .int i => .int i
  | .str x => .str x
  | .lst xs => .list (D.pys xs)
  | .tup xs => .tuple (D.pys xs)
  | .scr ns => .list (ns.map PyData.int)
  | _ => .dict []
def D.pys : List D → List PyData
  | [] => []
  | x :: xs => x.py :: D.pys xs
end
mutual
/-- None, truths, ints, texts, and lists and tuples of these -/
def D.pure : D → Bool
  | .non => true
  | .bl _ => true
  | .int _ => true
  | .str _ => true
  | .lst xs => D.pures xs
  | .tup xs => D.pures xs
  | .scr _ => true
  | _ => false
def D.pures : List D → Bool
  | [] => true
  | x :: xs => x.pure && D.pures xs
end
section
variable {K : PySem.W.Frag} {q : Addr} {S : List Addr} {H : Hp}
theorem dpAll_ints : ∀ ns : List Int, DpAll K H (ns.map V.int) (ns.map PyData.int)
  | [] => .nil
  | n :: ns => .cons (.int n) (dpAll_ints ns)
mutual
theorem Rp.dp : ∀ (d : D) (v : V), Rp K q S H v d → d.pure = true → Dp K H v d.py
  | .non, _, h, _ => by cases h; unfold D.py; exact .non
  | .bl _, _, h, _ => by cases h; unfold D.py; exact .bl _
  | .int _, _, h, _ => by cases h; unfold D.py; exact .int _
  | .str _, _, h, _ => by cases h; unfold D.py; exact .str _
  | .lst xs, _, h, p => by
    cases h with
    | lst m h1 h2 => unfold D.py; exact .lst (.inl (.inl h1)) (Rps.dp xs _ h2 (by unfold D.pure at p; exact p))
  | .tup xs, _, h, p => by
    cases h with
    | tup h1 h2 => unfold D.py; exact .tup h1.sq (Rps.dp xs _ h2 (by unfold D.pure at p; exact p))
  | .scr ns, _, h, p => by
    cases h with
    | scr h1 => unfold D.py; exact .lst h1.sq (dpAll_ints ns)
  | .emp, _, _, p => by unfold D.pure at p; cases p
  | .mut, _, _, p => by unfold D.pure at p; cases p
  | .ref _, _, _, p => by unfold D.pure at p; cases p
  | .ty _, _, _, p => by unfold D.pure at p; cases p
theorem Rps.dp : ∀ (ds : List D) (vs : List V), Rps K q S H vs ds → D.pures ds = true → DpAll K H vs (D.pys ds)
  | [], _, h, _ => by cases h; unfold D.pys; exact .nil
  | d :: ds, _, h, p => by
    cases h with
    | cons h1 h2 =>
      unfold D.pures at p
      obtain ⟨p1, p2⟩ := Bool.and_eq_true_iff.mp p
      unfold D.pys
      exact .cons (Rp.dp d _ h1 p1) (Rps.dp ds _ h2 p2)
end
end
/-- what == asks of both sides -/
def D.eqC (x : D) : Prop := x.pure = true ∧ SeqAt.shaped x.py = true
def D.eqb (x y : D) : Bool := PyData.eqv x.py y.py
theorem cp_eq {n : Nat} (hr : Room n F.X.A) (ha : Ed F ρ s a x s1) (hb : Ed F ρ s1 b y s2) (hx : x.eqC) (hy : y.eqC) : Cp F ρ s .Eq a b (x.eqb y) s2 :=
  cp_of (op_eqD hr.units) ha hb (fun O σ H f v w r1 r2 Q q => ⟨_, _, Rp.dp x v r1 hx.1, Rp.dp y w r2 hy.1, hx.2, hy.2, q _ _ f .refl (.bl _)⟩) (nomark _)
theorem cp_ne {n : Nat} (hr : Room n F.X.A) (ha : Ed F ρ s a x s1) (hb : Ed F ρ s1 b y s2) (hx : x.eqC) (hy : y.eqC) : Cp F ρ s .NotEq a b (!x.eqb y) s2 :=
  cp_of (op_neD hr.units) ha hb (fun O σ H f v w r1 r2 Q q => ⟨_, _, Rp.dp x v r1 hx.1, Rp.dp y w r2 hy.1, hx.2, hy.2, q _ _ f .refl (.bl _)⟩) (nomark _)
def D.isNon : D → Bool
  | .non => true
  | _ => false
theorem rp_non {K : PySem.W.Frag} {q : Addr} {S : List Addr} {H : Hp} {v : V} (r : Rp K q S H v x) : decide (v = .non) = x.isNon := by cases r <;> rfl
theorem cp_isN {j} {p2 : Pos} (ha : Ed F ρ s a x s1) : Cp F ρ s .Is a (.Constant .none j p2) x.isNon s1 :=
  cp_of op_isN ha ed_non (fun O σ H f v w r1 r2 Q q => by cases r2; exact ⟨rfl, by rw [rp_non r1]; exact q _ _ f .refl (.bl _)⟩) (nomark _)
theorem cp_notN {j} {p2 : Pos} (ha : Ed F ρ s a x s1) : Cp F ρ s .IsNot a (.Constant .none j p2) (!x.isNon) s1 :=
  cp_of op_notN ha ed_non (fun O σ H f v w r1 r2 Q q => by cases r2; exact ⟨rfl, by rw [rp_non r1]; exact q _ _ f .refl (.bl _)⟩) (nomark _)
/-! in: flat things in a list or tuple of flat things -/
def D.flat : D → Option V
  | .non => some .non
  | .bl b => some (.bl b)
  | .int i => some (.int i)
  | .str x => some (.str x)
  | _ => none
def D.flats : List D → Option (List V)
  | [] => some []
  | x :: xs => match x.flat, D.flats xs with
    | some v, some vs => some (v :: vs)
    | _, _ => none
theorem rp_flat {K : PySem.W.Frag} {q : Addr} {S : List Addr} {H : Hp} {v w : V} (r : Rp K q S H v x) (h : x.flat = some w) : v = w ∧ flatV w = true := by
  cases r <;> first | (cases h; exact ⟨rfl, rfl⟩) | cases h
theorem rps_flat {K : PySem.W.Frag} {q : Addr} {S : List Addr} {H : Hp} : ∀ {xs : List D} {vs ws : List V}, Rps K q S H vs xs → D.flats xs = some ws → vs = ws ∧ ws.all flatV = true
  | [], _, _, r, h => by cases r; cases h; exact ⟨rfl, rfl⟩
  | x :: xs, _, _, r, h => by
    cases r with
    | cons r1 r2 =>
      unfold D.flats at h
      cases e1 : x.flat with
      | none => rw [e1] at h; cases h
      | some w =>
        cases e2 : D.flats xs with
        | none => rw [e1, e2] at h; cases h
        | some ws =>
          rw [e1, e2] at h
          cases h
          obtain ⟨h1, h2⟩ := rp_flat r1 e1
          obtain ⟨h3, h4⟩ := rps_flat r2 e2
          subst h1 h3
          exact ⟨rfl, by rw [List.all_cons, h2, h4]; rfl⟩
theorem cp_in {w : V} {ws : List V} (ha : Ed F ρ s a x s1) (hb : Ed F ρ s1 b y s2) (hy : y = .lst ys ∨ y = .tup ys) (hx : x.flat = some w) (hys : D.flats ys = some ws) (hm : behindInMarks .In b = false := by rfl) : Cp F ρ s .In a b (inV w ws) s2 :=
  cp_of op_in_seq ha hb (fun O σ H f v u r1 r2 Q q => by
    obtain ⟨e1, h1⟩ := rp_flat r1 hx
    subst e1
    rcases hy with rfl | rfl
    · cases r2 with
      | lst m h2 h3 =>
        obtain ⟨e2, h4⟩ := rps_flat h3 hys
        subst e2
        exact ⟨_, _, rfl, .inl (.inl (.inl h2)), h1, h4, q _ _ f .refl (.bl _)⟩
    · cases r2 with
      | tup h2 h3 =>
        obtain ⟨e2, h4⟩ := rps_flat h3 hys
        subst e2
        exact ⟨_, _, rfl, .inr h2.sq, h1, h4, q _ _ f .refl (.bl _)⟩) hm
theorem cp_notIn {w : V} {ws : List V} (ha : Ed F ρ s a x s1) (hb : Ed F ρ s1 b y s2) (hy : y = .lst ys ∨ y = .tup ys) (hx : x.flat = some w) (hys : D.flats ys = some ws) (hm : behindInMarks .NotIn b = false := by rfl) : Cp F ρ s .NotIn a b (!inV w ws) s2 :=
  cp_of op_notIn_seq ha hb (fun O σ H f v u r1 r2 Q q => by
    obtain ⟨e1, h1⟩ := rp_flat r1 hx
    subst e1
    rcases hy with rfl | rfl
    · cases r2 with
      | lst m h2 h3 =>
        obtain ⟨e2, h4⟩ := rps_flat h3 hys
        subst e2
        exact ⟨_, _, rfl, .inl (.inl (.inl h2)), h1, h4, q _ _ f .refl (.bl _)⟩
    · cases r2 with
      | tup h2 h3 =>
        obtain ⟨e2, h4⟩ := rps_flat h3 hys
        subst e2
        exact ⟨_, _, rfl, .inr h2.sq, h1, h4, q _ _ f .refl (.bl _)⟩) hm
/-! items by data -/
def D.at (x : D) (i : Int) : Option D := match x with
  | .lst xs => atI xs i
  | .tup xs => atI xs i
  | .scr ns => (atI ns i).map D.int
  | _ => none
theorem ed_ix {i : Int} (ha : Ed F ρ s a x s1) (hb : Ed F ρ s1 b (.int i) s2) (h : x.at i = some d) (hs : PlainIx b := by exact fun _ _ => rfl) : Ed F ρ s (.Subscript a b pos) d s2 := by
  cases x with
  | lst xs => exact ed_ixL ha hb h hs
  | tup xs => exact ed_ixT ha hb h hs
  | scr ns =>
    have h : (atI ns i).map D.int = some d := h
    cases e : atI ns i with
    | none => rw [e] at h; cases h
    | some n => rw [e] at h; cases h; exact ed_ixS ha hb e hs
  | _ => cases h
/-! slices -/
def cutD {α : Type} (xs : List α) (lo hi : Option Int) : List α := (xs.drop (HT.sIx xs.length 0 lo)).take (HT.sIx xs.length xs.length hi - HT.sIx xs.length 0 lo)
theorem rps_cut {K : PySem.W.Frag} {q : Addr} {S : List Addr} {H : Hp} {vs : List V} (r : Rps K q S H vs xs) (lo hi : Option Int) : Rps K q S H (cutV vs lo hi) (cutD xs lo hi) := by
  unfold cutV cutD
  rw [r.length]
  exact (r.drop _).take _
/-- a slice's end -/
inductive Eo (F : Fx) (ρ : List G) (s : Sx) : Option Expr → Option Int → Sx → Prop
  | none : Eo F ρ s none none s
  | some {e : Expr} {i : Int} {s1 : Sx} : Ed F ρ s e (.int i) s1 → Eo F ρ s (some e) (some i) s1
theorem el_slice {lo hi : Option Expr} {i j : Option Int} {p2 : Pos} (ha : Ed F ρ s a (.lst xs) s1) (hl : Eo F ρ s1 lo i s2) (hh : Eo F ρ s2 hi j s3) : El F ρ s (.Subscript a (.Slice lo hi none p2) pos) (cutD xs i j) s3 := by
  have fin : ∀ O σ H H3, Fm F O σ H ρ s → Fm F O σ H3 ρ s3 → XE F H H3 → ∀ v, Rp F.X.K F.p (O ++ F.S0) H3 v (.lst xs) → ∀ Q : VK, (∀ a vs H', Fm F (a :: O) σ H' ρ s3 → XE F H H' → H a = none → H' a = some (.lst vs) → Rps F.X.K F.p (a :: (O ++ F.S0)) H' vs (cutD xs i j) → Q (.ref a) H') → rSlL F.X.K v i j H3 Q := by
    intro O σ H H3 f f3 x3 v r Q q
    cases r with
    | lst m h1 h2 => exact ⟨_, _, rfl, .inl (.inl h1), fun t n => q t _ _ (f3.newO n) (x3.trans (.new n)) (x3.2 t n) upd_same (((rps_cut h2 i j).fresh n).ext (.new n))⟩
  cases hl with
  | none =>
    cases hh with
    | none => exact ⟨ha.1, fun O σ H f Q q => we (pe_slice sl_list pe_we po_none po_none) (ha.2 O σ H f _ fun v H1 f1 x1 r1 => fin O σ H H1 f f1 x1 v r1 Q q)⟩
    | some hb => exact ⟨ha.1.trans hb.1, fun O σ H f Q q => we (pe_slice sl_list pe_we po_none (po_some pe_we)) (ha.2 O σ H f _ fun v H1 f1 x1 r1 => hb.2 O σ H1 f1 _ fun w H2 f2 x2 r2 => by
        cases r2; exact ⟨_, rfl, fin O σ H H2 f f2 (x1.trans x2) v (r1.ext x2.xt) Q q⟩)⟩
  | some hc =>
    cases hh with
    | none => exact ⟨ha.1.trans hc.1, fun O σ H f Q q => we (pe_slice sl_list pe_we (po_some pe_we) po_none) (ha.2 O σ H f _ fun v H1 f1 x1 r1 => hc.2 O σ H1 f1 _ fun w H2 f2 x2 r2 => by
        cases r2; exact ⟨_, rfl, fin O σ H H2 f f2 (x1.trans x2) v (r1.ext x2.xt) Q q⟩)⟩
    | some hb => exact ⟨(ha.1.trans hc.1).trans hb.1, fun O σ H f Q q => we (pe_slice sl_list pe_we (po_some pe_we) (po_some pe_we)) (ha.2 O σ H f _ fun v H1 f1 x1 r1 => hc.2 O σ H1 f1 _ fun w H2 f2 x2 r2 => by
        cases r2
        exact ⟨_, rfl, hb.2 O σ H2 f2 _ fun w H3 f3 x3 r3 => by cases r3; exact ⟨_, rfl, fin O σ H H3 f f3 ((x1.trans x2).trans x3) v ((r1.ext x2.xt).ext x3.xt) Q q⟩⟩)⟩
end
end Gh
set_option Elab.async false
set_option linter.all false
set_option maxRecDepth 100000
namespace Gh
open PySem PySem.Spec PyProof.Rows L2
/-! ### what is walked -/
def WI (X : Cx) (tg iter : Expr) : TI := fun σ H R => ∀ pins s, Inv X pins σ H s →
  wpAny (model X.prog X.w) X.A (eval iter X.env) (fun v s1 => wpAny (model X.prog X.w) X.A (pyIter v) (PIE X pins σ tg R) X.xe s1) X.xe s
theorem pi_wi {X : Cx} {tg iter : Expr} : PI X tg iter (WI X tg iter) := ⟨fun pins s _ _ _ I h => h pins s I⟩
theorem wi {X : Cx} {tg iter : Expr} {w : TI} {σ : L2.St} {H : Hp} {R : It → Hp → Prop} (p : PI X tg iter w) (h : w σ H R) : WI X tg iter σ H R := fun pins s I => p.run pins s σ H R I h
/-- at each turn the next of these data, whatever else has come to the heap; it holds none of what is owned then -/
def Yd (F : Fx) (O : List Addr) (H1 : Hp) (items : List D) : Nat → Hp → V → Hp → Prop := fun i H x H' => (∀ a o, H a = some o → H' a = some o) ∧
  ∃ d, items[i]? = some d ∧ ∀ O' : List Addr, (∀ a ∈ O', (a ∈ O ∨ H1 a = none) ∧ ∃ o, H a = some o) → Rp F.X.K F.p (O' ++ F.S0) H' x d
def Ei (F : Fx) (ρ : List G) (s : Sx) (tg iter : Expr) (items : List D) (s' : Sx) : Prop :=
  s.isSome = s'.isSome ∧ ∀ O σ H, Fm F O σ H ρ s → ∀ R : It → Hp → Prop, (∀ J H', Fm F O σ H' ρ s' → XE F H H' → Walk J items.length (fun H2 => XT (O ++ F.S0) H' H2) (Yd F O H' items) → R J H') → WI F.X tg iter σ H R
theorem rp_later {F : Fx} {O O' : List Addr} {H1 H2 : Hp} {v : V} {d : D} (r : Rp F.X.K F.p (O ++ F.S0) H1 v d) (x : XT (O ++ F.S0) H1 H2) (h : ∀ a ∈ O', a ∈ O ∨ H1 a = none) : Rp F.X.K F.p (O' ++ F.S0) H2 v d := by
  have r1 : Rp F.X.K F.p (O ++ (O' ++ F.S0)) H1 v d := r.to fun b m => by
    rcases List.mem_append.mp m with m | m
    · exact .inl (List.mem_append_left _ m)
    · rcases List.mem_append.mp m with m | m
      · exact (h b m).imp (fun m => List.mem_append_left _ m) id
      · exact .inl (List.mem_append_right _ m)
  refine (r1.ext (x.mono fun a m => ?_)).weak fun a m => List.mem_append_right _ m
  rcases List.mem_append.mp m with m | m
  · exact List.mem_append_left _ m
  · exact List.mem_append_right _ (List.mem_append_right _ m)
section
variable {F : Fx} {ρ : List G} {s s1 s2 s3 : Sx} {tg a b e : Expr} {es : List Expr} {x y d : D} {xs ys ds items : List D} {pos p : Pos}
theorem all_ext {H H' : Hp} : H' = H → ∀ a o, H a = some o → H' a = some o := fun e a o h => by rw [e]; exact h
theorem ei_seq (ha : Ed F ρ s a x s1) (hx : x = .lst xs ∨ x = .tup xs) : Ei F ρ s tg a xs s1 := by
  rcases hx with rfl | rfl
  · refine ⟨ha.1, fun O σ H f R q => wi (pi_list pe_we) (ha.2 O σ H f _ fun v H1 f1 x1 r1 => ?_)⟩
    cases r1 with
    | lst m h1 h2 =>
      refine ⟨_, rfl, ⟨_, .inl (.inl h1)⟩, q _ _ f1 x1 ?_⟩
      rw [← h2.length]
      refine walk_list.mono (fun H2 x2 => .inl (.inl (x2.1 _ _ m h1))) fun i H2 z H3 hi x2 y => ?_
      obtain ⟨e, y⟩ := y
      subst e
      obtain ⟨d, e1, e2⟩ := h2.getV y
      exact ⟨fun _ _ h => h, d, e1, fun O' g => rp_later e2 x2 fun a m => (g a m).1⟩
  · refine ⟨ha.1, fun O σ H f R q => wi (pi_tup pe_we) (ha.2 O σ H f _ fun v H1 f1 x1 r1 => ?_)⟩
    cases r1 with
    | tup h1 h2 =>
      refine ⟨_, rfl, ⟨_, h1.sq⟩, q _ _ f1 x1 ?_⟩
      rw [← h2.length]
      refine walk_tup.mono (fun H2 x2 => ?_) fun i H2 z H3 hi x2 y => ?_
      · rcases h1 with ⟨m, h1⟩ | h1
        · exact .inl (rd_ext x2 m h1)
        · exact (SU.sq (S := []) (.inr h1))
      · obtain ⟨e, y⟩ := y
        subst e
        obtain ⟨d, e1, e2⟩ := h2.getV y
        exact ⟨fun _ _ h => h, d, e1, fun O' g => rp_later e2 x2 fun a m => (g a m).1⟩
theorem ei_scr {ns : List Int} (ha : Ed F ρ s a (.scr ns) s1) : Ei F ρ s tg a (ns.map D.int) s1 := by
  refine ⟨ha.1, fun O σ H f R q => wi (pi_list pe_we) (ha.2 O σ H f _ fun v H1 f1 x1 r1 => ?_)⟩
  cases r1 with
  | scr h1 =>
    refine ⟨_, rfl, ⟨_, h1.sq⟩, q _ _ f1 x1 ?_⟩
    have hl : (ns.map D.int).length = (ns.map V.int).length := by simp
    rw [hl]
    refine walk_list.mono (fun H2 x2 => ?_) fun i H2 z H3 hi x2 y => ?_
    · rcases h1 with ⟨m, h1⟩ | h1
      · exact .inl (rd_ext x2 m h1)
      · exact (SL.sq (S := []) (.inr h1))
    · obtain ⟨e, y⟩ := y
      subst e
      rw [List.getElem?_map] at y
      cases e : ns[i]? with
      | none => rw [e] at y; cases y
      | some n =>
        rw [e] at y
        cases y
        exact ⟨fun _ _ h => h, .int n, by rw [List.getElem?_map, e]; rfl, fun _ _ => .int n⟩
/-- lo, lo + 1, .. -/
def rangeD (lo : Int) (n : Nat) : List D := (List.range n).map fun (i : Nat) => D.int (lo + i)
theorem rangeD_get {lo : Int} {n i : Nat} (h : i < n) : (rangeD lo n)[i]? = some (.int (lo + i)) := by
  unfold rangeD
  rw [List.getElem?_map, List.getElem?_range h]
  rfl
theorem rangeD_length {lo : Int} {n : Nat} : (rangeD lo n).length = n := by simp [rangeD]
theorem ei_range1 {j : Int} (B : Bf F.X.mg) (ha : Ed F ρ s a (.int j) s1) (h1 : -(2 ^ 62) ≤ j) (h2 : j < 2 ^ 62) (hg : Gl F.X "range" := by rfl) (he : starEach [a] F.X.env = [(false, eval a F.X.env)] := by rfl) : Ei F ρ s tg (.Call (.Name "range" p) [a] [] pos) (rangeD 0 j.toNat) s1 := by
  refine ⟨ha.1, fun O σ H f R q => wi (pi_range1 hg B.range (pa_cons pe_we pa_nil (by rw [he]; rfl)) he) (ha.2 O σ H f _ fun v H1 f1 x1 r1 => ?_)⟩
  cases r1
  refine ⟨j, rfl, h1, h2, q _ _ f1 x1 ?_⟩
  rw [rangeD_length]
  refine walk_range.mono (fun _ _ => trivial) fun i H2 z H3 hi x2 y => ?_
  obtain ⟨e, rfl⟩ := y
  subst e
  exact ⟨fun _ _ h => h, _, rangeD_get hi, fun _ _ => .int _⟩
theorem ei_range2 {i j : Int} (B : Bf F.X.mg) (ha : Ed F ρ s a (.int i) s1) (hb : Ed F ρ s1 b (.int j) s2) (h : -(2 ^ 62) ≤ i ∧ i < 2 ^ 62 ∧ -(2 ^ 62) ≤ j ∧ j < 2 ^ 62) (hg : Gl F.X "range" := by rfl) (he : starEach [a, b] F.X.env = [(false, eval a F.X.env), (false, eval b F.X.env)] := by rfl) (he2 : starEach [b] F.X.env = [(false, eval b F.X.env)] := by rfl) :
    Ei F ρ s tg (.Call (.Name "range" p) [a, b] [] pos) (rangeD i (j - i).toNat) s2 := by
  refine ⟨ha.1.trans hb.1, fun O σ H f R q => wi (pi_range2 hg B.range (pa_cons pe_we (pa_cons pe_we pa_nil (by rw [he2]; rfl)) (by rw [he, he2])) he he2) (ha.2 O σ H f _ fun v H1 f1 x1 r1 => hb.2 O σ H1 f1 _ fun w H2 f2 x2 r2 => ?_)⟩
  cases r1
  cases r2
  refine ⟨i, j, rfl, h, q _ _ f2 (x1.trans x2) ?_⟩
  rw [rangeD_length]
  refine walk_range.mono (fun _ _ => trivial) fun i H2 z H3 hi x2 y => ?_
  obtain ⟨e, rfl⟩ := y
  subst e
  exact ⟨fun _ _ h => h, _, rangeD_get hi, fun _ _ => .int _⟩
/-- zip of two lists -/
def zipD (xs ys : List D) : List D := List.zipWith (fun x y => D.tup [x, y]) xs ys
theorem ei_zip {kk : Nat} {tpos : Pos} {elts : List Expr} (B : Bf F.X.mg) (ha : Ed F ρ s a (.lst xs) s1) (hb : Ed F ρ s1 b (.lst ys) s2) (hg : Gl F.X "zip" := by rfl) (he : starEach [a, b] F.X.env = (false, eval a F.X.env) :: starEach [b] F.X.env := by rfl)
    (he2 : starEach [b] F.X.env = (false, eval b F.X.env) :: starEach [] F.X.env := by rfl) (hpl : (backTo pos (starEach [b] F.X.env)).any (·.1) = false := by rfl) : Ei F ρ s (.Tuple elts kk tpos) (.Call (.Name "zip" p) [a, b] [] pos) (zipD xs ys) s2 := by
  refine ⟨ha.1.trans hb.1, fun O σ H f R q => wi (pi_zip hg B.zip (pa_cons pe_we (pa_cons pe_we pa_nil he2) he) he hpl) (ha.2 O σ H f _ fun v H1 f1 x1 r1 => hb.2 O σ H1 f1 _ fun w H2 f2 x2 r2 => ?_)⟩
  cases r1.ext x2.xt with
  | lst m1 h1 h2 =>
    cases r2 with
    | lst m3 h3 h4 =>
      refine ⟨_, _, _, _, rfl, .inl (.inl h1), .inl (.inl h3), q _ _ f2 (x1.trans x2) ?_⟩
      refine (walk_zip (n := (zipD xs ys).length) (by simp [zipD, h2.length, h4.length])).mono (fun H3 x3 => ⟨.inl (.inl (x3.1 _ _ m1 h1)), .inl (.inl (x3.1 _ _ m3 h3))⟩) fun i H3 z H4 hi x3 y => ?_
      obtain ⟨T, u, t, rfl, n, rfl, e1, e2⟩ := y
      obtain ⟨d1, g1, k1⟩ := h2.getV e1
      obtain ⟨d2, g2, k2⟩ := h4.getV e2
      refine ⟨fun c o h => by rw [upd_ne (ne_of_none h n)]; exact h, .tup [d1, d2], by simp [zipD, List.getElem?_zipWith, g1, g2], fun O' g => ?_⟩
      have nT : T ∉ O' ++ F.S0 := fun m => by
        rcases List.mem_append.mp m with m | m
        · obtain ⟨_, o, ho⟩ := g T m
          rw [n] at ho; cases ho
        · exact f2.fresh (x3.2 T n) (List.mem_append_right _ m)
      exact .tup (.inl ⟨nT, .inl upd_same⟩) (.cons ((rp_later k1 x3 fun a m => (g a m).1).ext (.new n)) (.cons ((rp_later k2 x3 fun a m => (g a m).1).ext (.new n)) .nil))
/-- enumerate of a list -/
def enumD (xs : List D) : List D := List.zipWith (fun (i : Nat) x => D.tup [.int i, x]) (List.range xs.length) xs
theorem enumD_length (xs : List D) : (enumD xs).length = xs.length := by simp [enumD]
theorem enumD_get {xs : List D} {i : Nat} {d : D} (h : xs[i]? = some d) : (enumD xs)[i]? = some (.tup [.int i, d]) := by
  have hi : i < xs.length := (List.getElem?_eq_some_iff.mp h).1
  simp [enumD, List.getElem?_zipWith, List.getElem?_range hi, h]
theorem ei_enum {kk : Nat} {tpos : Pos} {elts : List Expr} (B : Bf F.X.mg) (ha : Ed F ρ s a (.lst xs) s1) (hg : Gl F.X "enumerate" := by rfl) (he : starEach [a] F.X.env = [(false, eval a F.X.env)] := by rfl) :
    Ei F ρ s (.Tuple elts kk tpos) (.Call (.Name "enumerate" p) [a] [] pos) (enumD xs) s1 := by
  refine ⟨ha.1, fun O σ H f R q => wi (pi_enum hg B.enum (pa_cons pe_we pa_nil (by rw [he]; rfl)) he) (ha.2 O σ H f _ fun v H1 f1 x1 r1 => ?_)⟩
  cases r1 with
  | lst m1 h1 h2 =>
    refine ⟨_, _, rfl, .inl (.inl h1), q _ _ f1 x1 ?_⟩
    rw [enumD_length, ← h2.length]
    refine walk_enum.mono (fun H3 x3 => .inl (.inl (x3.1 _ _ m1 h1))) fun i H3 z H4 hi x3 y => ?_
    obtain ⟨T, u, t, rfl, n, rfl, e1, e2⟩ := y
    cases e1
    obtain ⟨d2, g2, k2⟩ := h2.getV e2
    refine ⟨fun c o h => by rw [upd_ne (ne_of_none h n)]; exact h, _, enumD_get g2, fun O' g => ?_⟩
    have nT : T ∉ O' ++ F.S0 := fun m => by
      rcases List.mem_append.mp m with m | m
      · obtain ⟨_, o, ho⟩ := g T m
        rw [n] at ho; cases ho
      · exact f1.fresh (x3.2 T n) (List.mem_append_right _ m)
    exact .tup (.inl ⟨nT, .inl upd_same⟩) (.cons (.int _) (.cons ((rp_later k2 x3 fun a m => (g a m).1).ext (.new n)) .nil))
end
end Gh
set_option Elab.async false
set_option linter.all false
set_option maxRecDepth 100000
namespace Gh
open PySem PySem.Spec PyProof.Rows L2
/-! ### a list that is only looked at: of data, or owned -/
def Ev (F : Fx) (ρ : List G) (s : Sx) (e : Expr) (ds : List D) (s' : Sx) : Prop :=
  s.isSome = s'.isSome ∧ ∀ O σ H, Fm F O σ H ρ s → ∀ Q : VK, (∀ a vs H', Fm F O σ H' ρ s' → XE F H H' → H' a = some (.lst vs) → ¬ (F.act = true ∧ a = F.p ∧ a ∈ F.S0) → Rps F.X.K F.p (O ++ F.S0) H' vs ds → Q (.ref a) H') → WE F.X e σ H Q
section
variable {F : Fx} {ρ : List G} {s s1 s2 s3 : Sx} {tg a b c e : Expr} {es : List Expr} {x y d : D} {xs ys ds items : List D} {pos p : Pos} {k : GE}
theorem Ed.ev (h : Ed F ρ s e (.lst ds) s1) : Ev F ρ s e ds s1 := ⟨h.1, fun O σ H f Q q => h.2 O σ H f Q fun v H1 f1 x1 r1 => by
  cases r1 with
  | lst m h1 h2 => exact q _ _ _ f1 x1 h1 (fun z => m (List.mem_append_right _ z.2.2)) h2⟩
theorem El.ev (h : El F ρ s e ds s1) : Ev F ρ s e ds s1 := h.ed.ev
theorem ev_own (i : Nat) {x : Str} (hN : F.X.N[i]? = some x) (hv : Vis F.X.env.scope x) (hρ : ρ[i]? = some (.own ds)) (hd : (x == ("__debug__" : Str)) = false := by decide) (hcd : (x == ("__classdict__" : Str)) = false := by decide) : Ev F ρ s (.Name x pos) ds s :=
  ⟨rfl, fun O σ H f Q q => by
    obtain ⟨o, ho, a, vs, e, m, h, r⟩ := f.slot i _ hρ
    subst e
    exact we (pe_var hN hv hd hcd) ⟨_, ho, q a vs H f .refl h (fun z => (f.fre a (f.own i ds a hρ ho)).2 z.2.2) r⟩⟩
theorem ed_lenV (B : Bf F.X.mg) (ha : Ev F ρ s a xs s1) (hg : Gl F.X "len" := by rfl) (he : starEach [a] F.X.env = (false, eval a F.X.env) :: starEach [] F.X.env := by rfl) : Ed F ρ s (.Call (.Name "len" p) [a] [] pos) (.int xs.length) s1 :=
  ⟨ha.1, fun O σ H f Q q => we (pe_callB call_len_seq hg B.len boot_len (pa_cons pe_we pa_nil he) (by decide) (by decide) he rfl) (ha.2 O σ H f _ fun a vs H1 f1 x1 h1 n r => ⟨_, _, rfl, .inl (.inl (.inl h1)), by rw [r.length]; exact q _ _ f1 x1 (.int _)⟩)⟩
theorem ed_ixV {i : Int} (ha : Ev F ρ s a xs s1) (hb : Ed F ρ s1 b (.int i) s2) (h : atI xs i = some d) (hs : PlainIx b := by exact fun _ _ => rfl) : Ed F ρ s (.Subscript a b pos) d s2 :=
  ⟨ha.1.trans hb.1, fun O σ H f Q q => we (pe_ix ix_list pe_we pe_we hs) (ha.2 O σ H f _ fun a vs H1 f1 x1 h1 n r1 => hb.2 O σ H1 f1 _ fun w H2 f2 x2 r2 => by
    cases r2
    obtain ⟨v, e, r⟩ := atI_rps (r1.ext x2.xt) h
    exact ⟨_, _, i, v, rfl, rfl, .inl (.inl (x2.1 _ _ n h1)), e, q v H2 f2 (x1.trans x2) r⟩)⟩
theorem el_sliceV {lo hi : Option Expr} {i j : Option Int} {p2 : Pos} (ha : Ev F ρ s a xs s1) (hl : Eo F ρ s1 lo i s2) (hh : Eo F ρ s2 hi j s3) : El F ρ s (.Subscript a (.Slice lo hi none p2) pos) (cutD xs i j) s3 := by
  have fin : ∀ O σ H H3, Fm F O σ H ρ s → Fm F O σ H3 ρ s3 → XE F H H3 → ∀ a vs, H3 a = some (.lst vs) → Rps F.X.K F.p (O ++ F.S0) H3 vs xs → ∀ Q : VK, (∀ a vs H', Fm F (a :: O) σ H' ρ s3 → XE F H H' → H a = none → H' a = some (.lst vs) → Rps F.X.K F.p (a :: (O ++ F.S0)) H' vs (cutD xs i j) → Q (.ref a) H') → rSlL F.X.K (.ref a) i j H3 Q := by
    intro O σ H H3 f f3 x3 a vs h1 h2 Q q
    exact ⟨_, _, rfl, .inl (.inl h1), fun t n => q t _ _ (f3.newO n) (x3.trans (.new n)) (x3.2 t n) upd_same (((rps_cut h2 i j).fresh n).ext (.new n))⟩
  cases hl with
  | none =>
    cases hh with
    | none => exact ⟨ha.1, fun O σ H f Q q => we (pe_slice sl_list pe_we po_none po_none) (ha.2 O σ H f _ fun v vs H1 f1 x1 h1 n r1 => fin O σ H H1 f f1 x1 v vs h1 r1 Q q)⟩
    | some hb => exact ⟨ha.1.trans hb.1, fun O σ H f Q q => we (pe_slice sl_list pe_we po_none (po_some pe_we)) (ha.2 O σ H f _ fun v vs H1 f1 x1 h1 n r1 => hb.2 O σ H1 f1 _ fun w H2 f2 x2 r2 => by
        cases r2; exact ⟨_, rfl, fin O σ H H2 f f2 (x1.trans x2) v vs (x2.1 _ _ n h1) (r1.ext x2.xt) Q q⟩)⟩
  | some hc =>
    cases hh with
    | none => exact ⟨ha.1.trans hc.1, fun O σ H f Q q => we (pe_slice sl_list pe_we (po_some pe_we) po_none) (ha.2 O σ H f _ fun v vs H1 f1 x1 h1 n r1 => hc.2 O σ H1 f1 _ fun w H2 f2 x2 r2 => by
        cases r2; exact ⟨_, rfl, fin O σ H H2 f f2 (x1.trans x2) v vs (x2.1 _ _ n h1) (r1.ext x2.xt) Q q⟩)⟩
    | some hb => exact ⟨(ha.1.trans hc.1).trans hb.1, fun O σ H f Q q => we (pe_slice sl_list pe_we (po_some pe_we) (po_some pe_we)) (ha.2 O σ H f _ fun v vs H1 f1 x1 h1 n r1 => hc.2 O σ H1 f1 _ fun w H2 f2 x2 r2 => by
        cases r2
        exact ⟨_, rfl, hb.2 O σ H2 f2 _ fun w H3 f3 x3 r3 => by cases r3; exact ⟨_, rfl, fin O σ H H3 f f3 ((x1.trans x2).trans x3) v vs (x3.1 _ _ n (x2.1 _ _ n h1)) ((r1.ext x2.xt).ext x3.xt) Q q⟩⟩)⟩
theorem el_catV (hl : xs.length + ys.length ≤ sizeLine) (ha : Ev F ρ s a xs s1) (hb : Ev F ρ s1 b ys s2) : El F ρ s (.BinOp a .Add b pos) (xs ++ ys) s2 :=
  ⟨ha.1.trans hb.1, fun O σ H f Q q => we (pe_op op_cat pe_we pe_we) (ha.2 O σ H f _ fun v vs H1 f1 x1 h1 n1 r1 => hb.2 O σ H1 f1 _ fun w ws H2 f2 x2 h2 n2 r2 =>
    ⟨_, _, _, _, rfl, rfl, x2.1 _ _ n1 h1, h2, by rw [r1.length, r2.length]; exact hl, fun t n => q t _ _ (f2.newO n) ((x1.trans x2).trans (.new n)) (x1.2 t (x2.2 t n)) upd_same ((((r1.ext x2.xt).append r2).fresh n).ext (.new n))⟩)⟩
theorem cp_eqV {n : Nat} (hr : Room n F.X.A) (ha : Ev F ρ s a xs s1) (hb : Ev F ρ s1 b ys s2) (hx : (D.lst xs).eqC) (hy : (D.lst ys).eqC) : Cp F ρ s .Eq a b ((D.lst xs).eqb (.lst ys)) s2 :=
  ⟨ha.1.trans hb.1, nomark _, _, op_eqD hr.units, fun O σ H f Q q => ha.2 O σ H f _ fun v vs H1 f1 x1 h1 n1 r1 => hb.2 O σ H1 f1 _ fun w ws H2 f2 x2 h2 n2 r2 =>
    ⟨.list (D.pys xs), .list (D.pys ys), .lst (.inl (.inl (x2.1 _ _ n1 h1))) (Rps.dp xs _ (r1.ext x2.xt) (by have := hx.1; unfold D.pure at this; exact this)), .lst (.inl (.inl h2)) (Rps.dp ys _ r2 (by have := hy.1; unfold D.pure at this; exact this)),
      by have := hx.2; unfold D.py at this; exact this, by have := hy.2; unfold D.py at this; exact this, by
        have e : (D.lst xs).eqb (.lst ys) = PyData.eqv (.list (D.pys xs)) (.list (D.pys ys)) := by unfold D.eqb; rw [D.py.eq_def, D.py.eq_def]
        rw [← e]
        exact q _ f2 (x1.trans x2)⟩⟩
theorem cp_neV {n : Nat} (hr : Room n F.X.A) (ha : Ev F ρ s a xs s1) (hb : Ev F ρ s1 b ys s2) (hx : (D.lst xs).eqC) (hy : (D.lst ys).eqC) : Cp F ρ s .NotEq a b (!(D.lst xs).eqb (.lst ys)) s2 :=
  ⟨ha.1.trans hb.1, nomark _, _, op_neD hr.units, fun O σ H f Q q => ha.2 O σ H f _ fun v vs H1 f1 x1 h1 n1 r1 => hb.2 O σ H1 f1 _ fun w ws H2 f2 x2 h2 n2 r2 =>
    ⟨.list (D.pys xs), .list (D.pys ys), .lst (.inl (.inl (x2.1 _ _ n1 h1))) (Rps.dp xs _ (r1.ext x2.xt) (by have := hx.1; unfold D.pure at this; exact this)), .lst (.inl (.inl h2)) (Rps.dp ys _ r2 (by have := hy.1; unfold D.pure at this; exact this)),
      by have := hx.2; unfold D.py at this; exact this, by have := hy.2; unfold D.py at this; exact this, by
        have e : (D.lst xs).eqb (.lst ys) = PyData.eqv (.list (D.pys xs)) (.list (D.pys ys)) := by unfold D.eqb; rw [D.py.eq_def, D.py.eq_def]
        rw [← e]
        exact q _ f2 (x1.trans x2)⟩⟩


/-! ### targets -/
def WG (X : Cx) (tg : Expr) : TG := fun v σ H Q => ∀ pins s u, Inv X pins σ H s → RelV v u → wpAny (model X.prog X.w) X.A (assign tg X.env u) (fun _ s' => ∃ σ' H', Inv X pins σ' H' s' ∧ Q σ' H') X.xe s
theorem pg_wg {X : Cx} {tg : Expr} : PG X tg (WG X tg) := ⟨fun pins s _ _ _ u _ I r h => h pins s u I r⟩
theorem wg {X : Cx} {tg : Expr} {g : TG} {v : V} {σ : L2.St} {H : Hp} {Q : L2.St → Hp → Prop} (p : PG X tg g) (h : g v σ H Q) : WG X tg v σ H Q := fun pins s u I r => p.run pins s σ H v u Q I r h
def WGs (X : Cx) (ts : List Expr) : TGs := fun vs σ H Q => ∀ pins s us, Inv X pins σ H s → Vals vs us → wpAny (model X.prog X.w) X.A (assignInOrder ((assignEach ts X.env).map (·.2)) us) (fun _ s' => ∃ σ' H', Inv X pins σ' H' s' ∧ Q σ' H') X.xe s
theorem pgs_wgs {X : Cx} {ts : List Expr} : PGs X ts (WGs X ts) := ⟨fun pins s _ _ _ us _ I r h => h pins s us I r⟩
theorem wgs {X : Cx} {ts : List Expr} {g : TGs} {vs : List V} {σ : L2.St} {H : Hp} {Q : L2.St → Hp → Prop} (p : PGs X ts g) (h : g vs σ H Q) : WGs X ts vs σ H Q := fun pins s us I r => p.run pins s σ H vs us Q I r h
/-- tg = a thing worth d: the names' data behind it; js: the slots that are stored -/
def Eg (F : Fx) (tg : Expr) (d : D) (ρ ρ' : List G) (js : List Nat) : Prop := ∀ O σ H v s, Fm F O σ H ρ s → Rp F.X.K F.p (O ++ F.S0) H v d → ∀ Q : L2.St → Hp → Prop,
  (∀ σ', Fm F O σ' H ρ' s → σ'.length = σ.length → (∀ j, j ∉ js → σ'[j]? = σ[j]?) → Q σ' H) → WG F.X tg v σ H Q
def Egs (F : Fx) (ts : List Expr) (ds : List D) (ρ ρ' : List G) (js : List Nat) : Prop := ∀ O σ H vs s, Fm F O σ H ρ s → Rps F.X.K F.p (O ++ F.S0) H vs ds → ∀ Q : L2.St → Hp → Prop,
  (∀ σ', Fm F O σ' H ρ' s → σ'.length = σ.length → (∀ j, j ∉ js → σ'[j]? = σ[j]?) → Q σ' H) → WGs F.X ts vs σ H Q
theorem eg_name (i : Nat) {x : Str} {ρ : List G} (hN : F.X.N.Nodup) (hi : F.X.N[i]? = some x) (hx : Loc F.X.env.scope x) (hf : F.X.fn x = true ∨ F.X.env.scope.names.lookup x = some .local := by first | exact .inl rfl | exact .inr rfl | assumption) : Eg F (.Name x pos) d ρ (ρ.set i (.val d)) [i] :=
  fun O σ H v s f r Q q => wg (pg_name hN hi hx hf) (q _ (f.set r) (by simp) fun j m => by rw [List.getElem?_set_ne (fun z => m (by simp [z]))])
theorem egs_nil {ρ : List G} : Egs F [] [] ρ ρ [] := fun O σ H vs s f r Q q => by
  cases r
  exact wgs pgs_nil ⟨rfl, q σ f rfl fun _ _ => rfl⟩
theorem egs_cons {t : Expr} {ts : List Expr} {ρ ρ1 ρ2 : List G} {js ks : List Nat} (h1 : Eg F t d ρ ρ1 js) (h2 : Egs F ts ds ρ1 ρ2 ks) (hs : (assignEach (t :: ts) F.X.env).map (·.2) = assign t F.X.env :: (assignEach ts F.X.env).map (·.2) := by rfl) : Egs F (t :: ts) (d :: ds) ρ ρ2 (js ++ ks) := fun O σ H vs s f r Q q => by
  cases r with
  | cons r1 r2 =>
    refine wgs (pgs_cons pg_wg pgs_wgs hs) ⟨_, _, rfl, h1 O σ H _ s f r1 _ fun σ1 f1 l1 e1 => h2 O σ1 H _ s f1 r2 _ fun σ2 f2 l2 e2 => q σ2 f2 (l2.trans l1) fun j m => ?_⟩
    rw [e2 j fun z => m (List.mem_append_right _ z), e1 j fun z => m (List.mem_append_left _ z)]
theorem eg_tup {ts : List Expr} {kk : Nat} {ρ ρ' : List G} {js : List Nat} (hc : F.X.calm = true) (h : Egs F ts ds ρ ρ' js) (hn : (assignEach ts F.X.env).length = ds.length := by rfl) (hst : (assignEach ts F.X.env).findIdx? (·.1) = none := by rfl) : Eg F (.Tuple ts kk pos) (.tup ds) ρ ρ' js := fun O σ H v s f r Q q => by
  cases r with
  | tup h1 h2 => exact wg (pg_tup hc pgs_wgs hn hst) ⟨_, _, rfl, h1.sq, h2.length, h O σ H _ s f h2 Q q⟩
/-- tg = e -/
theorem bs_asg {ρ' : List G} {js : List Nat} (h : Ed F ρ s e d s1) (hg : Eg F tg d ρ ρ' js) (hk : k.nx ρ' s1) (hs : swapsWithSole [tg] e pos.line F.X.env = pure false := by rfl) (hw : swappedStores [tg] e F.X.env = pure none := by rfl)
    (h1 : (assignEach [tg] F.X.env).map (·.2) = [assign tg F.X.env] := by rfl) : Bs F (.Assign [tg] e pos) ρ s k :=
  fun O σ H f E q => ws (ps_asg pe_we pg_wg hs hw h1) (h.2 O σ H f _ fun v H1 f1 x1 r1 => hg O σ H1 v s1 f1 r1 _ fun σ' f' _ _ => q.nx O σ' H1 ρ' s1 f' (.of x1.xt) hk)
/-- a, b = e1, e2 -/
theorem bs_par (i j : Nat) {x y : Str} {px py pt : Pos} {kt k2} {pt2 : Pos} {d1 d2 : D} (hc : F.X.calm = true) (hN : F.X.N.Nodup) (hi : F.X.N[i]? = some x) (hj : F.X.N[j]? = some y) (hij : i ≠ j) (hx : F.X.env.scope.names.lookup x = some .local) (hy : F.X.env.scope.names.lookup y = some .local)
    (ha : Ea F ρ s [a, b] [d1, d2] s1) (hk : k.nx ((ρ.set i (.val d1)).set j (.val d2)) s1) (hw : swappedStores [.Tuple [.Name x px, .Name y py] kt pt] (.Tuple [a, b] k2 pt2) F.X.env = pure (some [x, y]) := by rfl) (hs : swapsWithSole [.Tuple [.Name x px, .Name y py] kt pt] (.Tuple [a, b] k2 pt2) pos.line F.X.env = pure false := by rfl) :
    Bs F (.Assign [.Tuple [.Name x px, .Name y py] kt pt] (.Tuple [a, b] k2 pt2) pos) ρ s k :=
  fun O σ H f E q => ws (ps_par hc hN hi hj hij hx hy pa_wa hw hs) (ha.2 O σ H f _ fun vs H1 f1 x1 r1 => by
    cases r1 with
    | cons r1 r2 =>
      cases r2 with
      | cons r2 r3 =>
        cases r3
        exact ⟨_, _, rfl, q.nx O _ H1 _ s1 ((f1.set r1).set r2) (.of x1.xt) hk⟩)

theorem Fm.all {O : List Addr} {σ : L2.St} {H H' : Hp} (f : Fm F O σ H ρ s) (h : ∀ a o, H a = some o → H' a = some o) : Fm F O σ H' ρ s := by
  refine f.grow ⟨fun a o e _ => h a o e, fun a e => ?_⟩ rfl ?_
  · cases e' : H a with
    | none => rfl
    | some o => rw [h a o e'] at e; cases e
  · have q := f.st
    cases s with
    | none => trivial
    | some xs => exact ⟨q.1, h _ _ q.2⟩
theorem xt_all {S : List Addr} {H H' : Hp} (h : ∀ a o, H a = some o → H' a = some o) : XT S H H' := ⟨fun a o _ e => h a o e, fun a e => by
  cases e' : H a with
  | none => rfl
  | some o => rw [h a o e'] at e; cases e⟩
theorem bs_for {body : List Stmt} (hp : PassesOwn (model F.X.prog F.X.w) F.X.A F.X.env F.X.xe) (hc : F.X.calm = true) (hi : Ei F ρ s tg e items s1) (I : Nat → List G → Sx → Prop) (h0 : I 0 ρ s1)
    (turn : ∀ i d ρ' s', items[i]? = some d → I i ρ' s' → ∃ ρ2 js, Eg F tg d ρ' ρ2 js ∧ Bk F body ρ2 s' { nx := I (i + 1), ct := I (i + 1), bk := k.nx, rt := k.rt })
    (hd : ∀ ρ' s', I items.length ρ' s' → k.nx ρ' s') (hs : ∀ x, foldedSetIterable e F.X.env x = pure x := by intro _; rfl) : Bs F (.For tg e body [] pos) ρ s k :=
  fun O σ H f E q => ws (ps_for hp hc pi_wi pg_wg pss_wb hs) (hi.2 O σ H f _ fun J H1 f1 x1 w => by
    refine for_it w (fun i σ' H' => ∃ O' ρ' s', Fm F O' σ' H' ρ' s' ∧ Step F O H1 O' H' ∧ I i ρ' s') ⟨O, ρ, s1, f1, .refl, h0⟩ (fun i σ' H' _ ⟨O', ρ', s', f', t, _⟩ => t.xt) ?_ ?_
    · rintro i v σ' H' H2 hi ⟨O', ρ', s', f', t, iv⟩ ⟨ha, d, hd', hr⟩
      obtain ⟨ρ2, js, hg, hb⟩ := turn i d ρ' s' hd' iv
      have f2 := f'.all ha
      have t2 : Step F O H1 O' H2 := t.trans (.of (xt_all ha))
      refine hg O' σ' H2 v s' f2 (hr O' fun a m => ⟨t.gr a m, f'.trk a (List.mem_append_left _ m)⟩) _ fun σ3 f3 _ _ => hb O' σ3 H2 f3 _ ⟨fun O4 σ4 H4 ρ4 s4 f4 t4 h4 => ⟨O4, ρ4, s4, f4, t2.trans t4, h4⟩, q.rt, fun O4 σ4 H4 ρ4 s4 f4 t4 h4 => ?_, fun O4 σ4 H4 ρ4 s4 f4 t4 h4 => ⟨O4, ρ4, s4, f4, t2.trans t4, h4⟩⟩
      exact q.nx O4 σ4 H4 ρ4 s4 f4 ((Step.of x1.xt).trans (t2.trans t4)) h4
    · rintro σ' H' ⟨O', ρ', s', f', t, iv⟩
      exact q.nx O' σ' H' ρ' s' f' ((Step.of x1.xt).trans t) (hd ρ' s' iv))
theorem bs_while {body : List Stmt} (hp : PassesOwn (model F.X.prog F.X.w) F.X.A F.X.env F.X.xe) (I : List G → Sx → Prop) (μ : List G → Sx → Nat) (h0 : I ρ s)
    (turn : ∀ ρ' s', I ρ' s' → ∃ t s2, Et F ρ' s' c t s2 ∧ (t = true → Bk F body ρ' s2 { nx := fun ρ2 s3 => I ρ2 s3 ∧ μ ρ2 s3 < μ ρ' s', ct := fun ρ2 s3 => I ρ2 s3 ∧ μ ρ2 s3 < μ ρ' s', bk := k.nx, rt := k.rt }) ∧ (t = false → k.nx ρ' s2)) : Bs F (.While c body [] pos) ρ s k :=
  fun O σ H f E q => ws (ps_while hp pt_wt pss_wb) ⟨fun m σ' H' => ∃ O' ρ' s', Fm F O' σ' H' ρ' s' ∧ Step F O H O' H' ∧ I ρ' s' ∧ μ ρ' s' = m, ⟨_, O, ρ, s, f, .refl, h0, rfl⟩, by
    rintro m σ' H' ⟨O', ρ', s', f', t, iv, em⟩
    obtain ⟨b, s2, ht, h1, h2⟩ := turn ρ' s' iv
    refine ht.2 O' σ' H' f' _ fun H2 f2 x2 => ?_
    have t2 : Step F O H O' H2 := t.trans (.of x2.xt)
    cases b with
    | true =>
      refine iteT ⟨fun σ3 H3 => ∃ O3 ρ3 s3, Fm F O3 σ3 H3 ρ3 s3 ∧ Step F O H O3 H3 ∧ I ρ3 s3 ∧ μ ρ3 s3 < m, fun σ3 H3 ⟨O3, ρ3, s3, f3, t3, i3, l3⟩ => ⟨_, l3, O3, ρ3, s3, f3, t3, i3, rfl⟩, h1 rfl O' σ' H2 f2 _ ⟨?_, q.rt, ?_, ?_⟩⟩
      · rintro O4 σ4 H4 ρ4 s4 f4 t4 ⟨h4, l4⟩
        exact ⟨O4, ρ4, s4, f4, t2.trans t4, h4, by omega⟩
      · intro O4 σ4 H4 ρ4 s4 f4 t4 h4
        exact q.nx O4 σ4 H4 ρ4 s4 f4 (t2.trans t4) h4
      · rintro O4 σ4 H4 ρ4 s4 f4 t4 ⟨h4, l4⟩
        exact ⟨O4, ρ4, s4, f4, t2.trans t4, h4, by omega⟩
    | false => exact iteF (q.nx O' σ' H2 ρ' s2 f2 t2 (h2 rfl))⟩

/-! ### owned lists -/
theorem Fm.setOwn {O : List Addr} {σ : L2.St} {H : Hp} {v : Addr} {vs : List V} {i : Nat} (f : Fm F O σ H ρ s) (mv : v ∈ O) (nv : ∀ (j : Nat) (es : List D), ρ[j]? = some (.own es) → σ[j]? ≠ some (some (.ref v))) (h : H v = some (.lst vs)) (r : Rps F.X.K F.p (O ++ F.S0) H vs ds) : Fm F O (σ.set i (some (.ref v))) H (ρ.set i (.own ds)) s := by
  have key : ∀ (j : Nat) (g : G), (ρ.set i (.own ds))[j]? = some g → (j = i ∧ g = .own ds ∧ j < ρ.length) ∨ (j ≠ i ∧ ρ[j]? = some g) := fun j g h => by
    by_cases e : i = j
    · subst e
      by_cases hl : i < ρ.length
      · rw [List.getElem?_set_self hl] at h; exact .inl ⟨rfl, (Option.some.inj h).symm, hl⟩
      · rw [List.getElem?_eq_none (by simpa using hl)] at h; cases h
    · rw [List.getElem?_set_ne e] at h; exact .inr ⟨fun z => e z.symm, h⟩
  have slen : ∀ j, j < ρ.length → j < σ.length := fun j hl => by
    have hx : ρ[j]? = some ρ[j] := List.getElem?_eq_getElem hl
    obtain ⟨o, ho, _⟩ := f.slot j _ hx
    exact (List.getElem?_eq_some_iff.mp ho).1
  have at_ : ∀ j, j < ρ.length → j = i → (σ.set i (some (.ref v)))[j]? = some (some (.ref v)) := fun j hl e => by subst e; exact List.getElem?_set_self (slen j hl)
  refine ⟨f.ext, fun j g hg => ?_, fun j es a hg ha => ?_, fun j l es fs a hne h1 h2 h3 => ?_, f.fre, f.trk, f.st, f.kd⟩
  · rcases key j g hg with ⟨e, rfl, hl⟩ | ⟨hne, hg⟩
    · exact ⟨_, at_ j hl e, v, vs, rfl, List.mem_append_left _ mv, h, r⟩
    · obtain ⟨o, ho, q⟩ := f.slot j g hg
      exact ⟨o, by rw [List.getElem?_set_ne (Ne.symm hne)]; exact ho, q⟩
  · rcases key j _ hg with ⟨e, z, hl⟩ | ⟨hne, hg⟩
    · rw [at_ j hl e] at ha; cases ha; exact mv
    · rw [List.getElem?_set_ne (Ne.symm hne)] at ha; exact f.own j es a hg ha
  · rcases key j _ h1 with ⟨e1, z1, l1⟩ | ⟨n1, h1⟩
    · rcases key l _ h2 with ⟨e2, z2, l2⟩ | ⟨n2, h2⟩
      · exact absurd (e1.trans e2.symm) hne
      · rw [at_ j l1 e1] at h3
        cases h3
        rw [List.getElem?_set_ne (Ne.symm n2)]
        exact nv l fs h2
    · rw [List.getElem?_set_ne (Ne.symm n1)] at h3
      rcases key l _ h2 with ⟨e2, z2, l2⟩ | ⟨n2, h2⟩
      · rw [at_ l l2 e2]
        intro z
        cases z
        exact nv j es h1 h3
      · rw [List.getElem?_set_ne (Ne.symm n2)]
        exact f.dis j l es fs a hne h1 h2 h3
theorem Fm.notOwn {O : List Addr} {σ : L2.St} {H : Hp} {v : Addr} (f : Fm F O σ H ρ s) (n : H v = none) : ∀ (j : Nat) (es : List D), ρ[j]? = some (.own es) → σ[j]? ≠ some (some (.ref v)) := fun j es h z =>
  f.fresh n (List.mem_append_left _ (f.own j es v h z))
/-- x = a new list, owned from now on -/
theorem bs_setOwn (i : Nat) {x : Str} {pos' : Pos} (hN : F.X.N.Nodup) (hi : F.X.N[i]? = some x) (hx : Loc F.X.env.scope x) (h : El F ρ s e ds s1) (hk : k.nx (ρ.set i (.own ds)) s1) (hs : swapsWith e (some (.Name x pos')) pos.line F.X.env = pure false := by rfl)
    (hf : F.X.fn x = true ∨ F.X.env.scope.names.lookup x = some .local := by first | exact .inl rfl | exact .inr rfl | assumption) : Bs F (.Assign [.Name x pos'] e pos) ρ s k :=
  fun O σ H f E q => ws (ps_set hN hi hx pe_we hs hf) (h.2 O σ H f _ fun v vs H1 f1 x1 n1 h1 r1 => q.nx (v :: O) _ H1 _ s1 (f1.setOwn List.mem_cons_self (f.notOwn n1) h1 r1)
    ⟨x1.xt, fun a m => (List.mem_cons.mp m).elim (fun z => .inr (z ▸ n1)) .inl⟩ hk)
/-- a, b = e1, e2: the first, the second, both new lists -/
theorem bs_parOV (i j : Nat) {x y : Str} {px py pt : Pos} {kt k2} {pt2 : Pos} {d2 : D} (hc : F.X.calm = true) (hN : F.X.N.Nodup) (hi : F.X.N[i]? = some x) (hj : F.X.N[j]? = some y) (hij : i ≠ j) (hx : F.X.env.scope.names.lookup x = some .local) (hy : F.X.env.scope.names.lookup y = some .local)
    (ha : El F ρ s a ds s1) (hb : Ed F ρ s1 b d2 s2) (hk : k.nx ((ρ.set i (.own ds)).set j (.val d2)) s2) (hw : swappedStores [.Tuple [.Name x px, .Name y py] kt pt] (.Tuple [a, b] k2 pt2) F.X.env = pure (some [x, y]) := by rfl) (hs : swapsWithSole [.Tuple [.Name x px, .Name y py] kt pt] (.Tuple [a, b] k2 pt2) pos.line F.X.env = pure false := by rfl)
    (he : starEach [a, b] F.X.env = (false, eval a F.X.env) :: starEach [b] F.X.env := by rfl) (hf : starEach [b] F.X.env = (false, eval b F.X.env) :: starEach [] F.X.env := by rfl) :
    Bs F (.Assign [.Tuple [.Name x px, .Name y py] kt pt] (.Tuple [a, b] k2 pt2) pos) ρ s k :=
  fun O σ H f E q => ws (ps_par hc hN hi hj hij hx hy (pa_cons pe_we (pa_cons pe_we pa_nil hf) he) hw hs) (ha.2 O σ H f _ fun v vs H1 f1 x1 n1 h1 r1 => hb.2 (v :: O) σ H1 f1 _ fun w H2 f2 x2 r2 => by
    have nv : ¬ (F.act = true ∧ v = F.p ∧ v ∈ F.S0) := fun z => (f1.fre v List.mem_cons_self).2 z.2.2
    exact ⟨_, _, rfl, q.nx (v :: O) _ H2 _ s2 ((f2.setOwn List.mem_cons_self (f.notOwn n1) (x2.1 _ _ nv h1) (r1.ext (x2.xt (O := v :: O)))).set r2) ⟨(x1.trans x2).xt, fun a m => (List.mem_cons.mp m).elim (fun z => .inr (z ▸ n1)) .inl⟩ hk⟩)
theorem bs_parVO (i j : Nat) {x y : Str} {px py pt : Pos} {kt k2} {pt2 : Pos} {d2 : D} (hc : F.X.calm = true) (hN : F.X.N.Nodup) (hi : F.X.N[i]? = some x) (hj : F.X.N[j]? = some y) (hij : i ≠ j) (hx : F.X.env.scope.names.lookup x = some .local) (hy : F.X.env.scope.names.lookup y = some .local)
    (ha : Ed F ρ s a d2 s1) (hb : El F ρ s1 b ds s2) (hk : k.nx ((ρ.set i (.val d2)).set j (.own ds)) s2) (hw : swappedStores [.Tuple [.Name x px, .Name y py] kt pt] (.Tuple [a, b] k2 pt2) F.X.env = pure (some [x, y]) := by rfl) (hs : swapsWithSole [.Tuple [.Name x px, .Name y py] kt pt] (.Tuple [a, b] k2 pt2) pos.line F.X.env = pure false := by rfl)
    (he : starEach [a, b] F.X.env = (false, eval a F.X.env) :: starEach [b] F.X.env := by rfl) (hf : starEach [b] F.X.env = (false, eval b F.X.env) :: starEach [] F.X.env := by rfl) :
    Bs F (.Assign [.Tuple [.Name x px, .Name y py] kt pt] (.Tuple [a, b] k2 pt2) pos) ρ s k :=
  fun O σ H f E q => ws (ps_par hc hN hi hj hij hx hy (pa_cons pe_we (pa_cons pe_we pa_nil hf) he) hw hs) (ha.2 O σ H f _ fun w H1 f1 x1 r1 => hb.2 O σ H1 f1 _ fun v vs H2 f2 x2 n2 h2 r2 => by
    have r3 : Rp F.X.K F.p (v :: O ++ F.S0) H2 w d2 := (r1.fresh n2).ext (x2.xt (O := v :: O))
    have f3 := f2.set (i := i) r3
    refine ⟨_, _, rfl, q.nx (v :: O) _ H2 _ s2 (f3.setOwn List.mem_cons_self ?_ h2 r2) ⟨(x1.trans x2).xt, fun a m => (List.mem_cons.mp m).elim (fun z => .inr (z ▸ x1.2 v n2)) .inl⟩ hk⟩
    intro l es h z
    by_cases e : i = l
    · subst e
      by_cases hl : i < ρ.length
      · rw [List.getElem?_set_self hl] at h; cases h
      · rw [List.getElem?_eq_none (by simpa using hl)] at h; cases h
    · rw [List.getElem?_set_ne e] at h z
      exact f1.notOwn n2 l es h z)
theorem bs_parOO (i j : Nat) {x y : Str} {px py pt : Pos} {kt k2} {pt2 : Pos} (hc : F.X.calm = true) (hN : F.X.N.Nodup) (hi : F.X.N[i]? = some x) (hj : F.X.N[j]? = some y) (hij : i ≠ j) (hx : F.X.env.scope.names.lookup x = some .local) (hy : F.X.env.scope.names.lookup y = some .local)
    (ha : El F ρ s a xs s1) (hb : El F ρ s1 b ds s2) (hk : k.nx ((ρ.set i (.own xs)).set j (.own ds)) s2) (hw : swappedStores [.Tuple [.Name x px, .Name y py] kt pt] (.Tuple [a, b] k2 pt2) F.X.env = pure (some [x, y]) := by rfl) (hs : swapsWithSole [.Tuple [.Name x px, .Name y py] kt pt] (.Tuple [a, b] k2 pt2) pos.line F.X.env = pure false := by rfl)
    (he : starEach [a, b] F.X.env = (false, eval a F.X.env) :: starEach [b] F.X.env := by rfl) (hf : starEach [b] F.X.env = (false, eval b F.X.env) :: starEach [] F.X.env := by rfl) :
    Bs F (.Assign [.Tuple [.Name x px, .Name y py] kt pt] (.Tuple [a, b] k2 pt2) pos) ρ s k :=
  fun O σ H f E q => ws (ps_par hc hN hi hj hij hx hy (pa_cons pe_we (pa_cons pe_we pa_nil hf) he) hw hs) (ha.2 O σ H f _ fun w us H1 f1 x1 n1 h1 r1 => hb.2 (w :: O) σ H1 f1 _ fun v vs H2 f2 x2 n2 h2 r2 => by
    have nw : ¬ (F.act = true ∧ w = F.p ∧ w ∈ F.S0) := fun z => (f1.fre w List.mem_cons_self).2 z.2.2
    have hne : w ≠ v := ne_of_none h1 n2
    have r3 : Rps F.X.K F.p (v :: w :: O ++ F.S0) H2 us xs := (r1.fresh n2).ext (x2.xt (O := v :: w :: O))
    have f3 := f2.setOwn (i := i) (List.mem_cons_of_mem _ List.mem_cons_self) (f.notOwn n1) (x2.1 _ _ nw h1) r3
    refine ⟨_, _, rfl, q.nx (v :: w :: O) _ H2 _ s2 (f3.setOwn List.mem_cons_self ?_ h2 r2) ⟨(x1.trans x2).xt, fun a m => ?_⟩ hk⟩
    · intro l es h z
      by_cases e : i = l
      · subst e
        by_cases hl : i < σ.length
        · rw [List.getElem?_set_self hl] at z; cases z; exact hne rfl
        · rw [List.getElem?_eq_none (by simpa using hl)] at z; cases z
      · rw [List.getElem?_set_ne e] at h z
        exact f1.notOwn n2 l es h z
    · rcases List.mem_cons.mp m with rfl | m
      · exact .inr (x1.2 _ n2)
      · rcases List.mem_cons.mp m with rfl | m
        · exact .inr n1
        · exact .inl m)
/-- what an owned list holds is turned -/
theorem Fm.mut {O : List Addr} {σ : L2.St} {H : Hp} {a : Addr} {vs : List V} {i : Nat} (f : Fm F O σ H ρ s) (hρ : ρ[i]? = some (.own xs)) (ho : σ[i]? = some (some (.ref a))) (r : Rps F.X.K F.p (O ++ F.S0) H vs ds) : Fm F O σ (upd H a (.lst vs)) (ρ.set i (.own ds)) s ∧ XT (O ++ F.S0) H (upd H a (.lst vs)) := by
  have ma : a ∈ O := f.own i xs a hρ ho
  have x : XT (O ++ F.S0) H (upd H a (.lst vs)) := ⟨fun b o n h => by rw [upd_ne (show b ≠ a from fun z => n (by rw [z]; exact List.mem_append_left _ ma))]; exact h, fun b h => upd_none h⟩
  have key : ∀ (j : Nat) (g : G), (ρ.set i (.own ds))[j]? = some g → (j = i ∧ g = .own ds) ∨ (j ≠ i ∧ ρ[j]? = some g) := fun j g h => by
    by_cases e : i = j
    · subst e
      by_cases hl : i < ρ.length
      · rw [List.getElem?_set_self hl] at h; exact .inl ⟨rfl, (Option.some.inj h).symm⟩
      · rw [List.getElem?_eq_none (by simpa using hl)] at h; cases h
    · rw [List.getElem?_set_ne e] at h; exact .inr ⟨fun z => e z.symm, h⟩
  have own : ∀ (j : Nat) (es : List D), (ρ.set i (.own ds))[j]? = some (.own es) → ∃ es', ρ[j]? = some (.own es') := fun j es h => by
    rcases key j _ h with ⟨rfl, _⟩ | ⟨_, h⟩
    · exact ⟨xs, hρ⟩
    · exact ⟨es, h⟩
  refine ⟨⟨⟨fun b o h n => ?_, fun b h => f.ext.2 b (upd_none h)⟩, fun j g hg => ?_, fun j es b hg hb => ?_, fun j l es fs b hne h1 h2 h3 => ?_, f.fre, fun b m => ?_, ?_, f.kd⟩, x⟩
  · rw [upd_ne fun z => ?_]
    · exact f.ext.1 b o h n
    · rw [z, (f.fre a ma).1] at h; cases h
  · rcases key j g hg with ⟨rfl, rfl⟩ | ⟨hne, hg⟩
    · exact ⟨_, ho, a, vs, rfl, List.mem_append_left _ ma, upd_same, r.ext x⟩
    · obtain ⟨o, ho', q⟩ := f.slot j g hg
      refine ⟨o, ho', ?_⟩
      cases g with
      | no => trivial
      | val d =>
        obtain ⟨v, e, r'⟩ := q
        exact ⟨v, e, r'.ext x⟩
      | own es =>
        obtain ⟨b, ws, e, m, hb, r'⟩ := q
        subst e
        refine ⟨b, ws, rfl, m, ?_, r'.ext x⟩
        rw [upd_ne fun z => ?_]
        · exact hb
        · subst z
          exact f.dis i j xs es b (Ne.symm hne) hρ hg ho ho'
  · obtain ⟨es', h⟩ := own j es hg
    exact f.own j es' b h hb
  · obtain ⟨es', h1⟩ := own j es h1
    obtain ⟨fs', h2⟩ := own l fs h2
    exact f.dis j l es' fs' b hne h1 h2 h3
  · obtain ⟨o, e⟩ := f.trk b m
    by_cases z : b = a
    · rw [z]; exact ⟨_, upd_same⟩
    · exact ⟨o, by rw [upd_ne z]; exact e⟩
  · have q := f.st
    cases s with
    | none => trivial
    | some ys => exact ⟨q.1, by rw [upd_ne (show F.p ≠ a from fun z => (f.fre a ma).2 (by rw [← z]; exact q.1))]; exact q.2⟩
/-- x.append(e), x owned -/
theorem bs_append (i : Nat) {x : Str} {px pa : Pos} {cpos : Pos} (hi : F.X.N[i]? = some x) (hv : Vis F.X.env.scope x) (hρ : ρ[i]? = some (.own xs)) (h : Ed F ρ s e d s1) (hl : xs.length < sizeLine) (hk : k.nx (ρ.set i (.own (xs ++ [d]))) s1)
    (hd : (x == ("__debug__" : Str)) = false := by decide) (hcd : (x == ("__classdict__" : Str)) = false := by decide) (he : starEach [e] F.X.env = (false, eval e F.X.env) :: starEach [] F.X.env := by rfl)
    (hb : attributeBase (.Name x px) "append" F.X.env (eval (.Name x px) F.X.env) = eval (.Name x px) F.X.env := by rfl) (hline : (pa.endLine == cpos.line) = true := by rfl) (hpl : (backTo cpos (starEach [] F.X.env)).any (·.1) = false := by rfl)
    (hfew : ((backTo cpos (starEach [e] F.X.env)).all (fun x => !x.1) && (backToKw cpos (keywordEach [] F.X.env)).all (fun x => x.1.isSome) && decide ([e].length + ([] : List Keyword).length + (if ([] : List Keyword).isEmpty then 0 else 1) < 30)) = true := by rfl)
    (hs : swapsWith (.Call (.Attribute (.Name x px) "append" pa) [e] [] cpos) none pos.line F.X.env = pure false := by rfl) : Bs F (.Expr (.Call (.Attribute (.Name x px) "append" pa) [e] [] cpos) pos) ρ s k :=
  fun O σ H f E q => ws (ps_expr (pe_bm PySem.F.plainAttrs_list PySem.F.slot_list_append PySem.F.type_list_append mt_append (pe_var hi hv hd hcd) (pa_cons pe_we pa_nil he) hb hfew hline he hpl) hs) (by
    obtain ⟨o, ho, a, vs, eo, m, h1, r⟩ := f.slot i _ hρ
    subst eo
    have na : ¬ (F.act = true ∧ a = F.p ∧ a ∈ F.S0) := fun z => (f.fre a (f.own i xs a hρ ho)).2 z.2.2
    refine ⟨_, ho, .inl ⟨rfl, _, .inl (.inl h1)⟩, h.2 O σ H f _ fun w H1 f1 x1 r1 => ?_⟩
    refine ⟨a, vs, w, rfl, rfl, x1.1 _ _ na h1, by rw [r.length]; exact hl, ?_⟩
    obtain ⟨f2, x2⟩ := f1.mut hρ ho ((r.ext x1.xt).append (.one r1))
    exact q.nx O σ _ _ s1 f2 (.of (x1.xt.trans x2)) hk)
/-- an owned list is data from now on -/
theorem Fm.freeze {O : List Addr} {σ : L2.St} {H : Hp} {i : Nat} (f : Fm F O σ H ρ s) (hρ : ρ[i]? = some (.own xs)) : ∃ O', Fm F O' σ H (ρ.set i (.val (.lst xs))) s ∧ ∀ a ∈ O', a ∈ O := by
  obtain ⟨o, ho, a, vs, eo, m, h1, r⟩ := f.slot i _ hρ
  subst eo
  have sub : ∀ b ∈ O.filter (· ≠ a) ++ F.S0, b ∈ O ++ F.S0 := fun b m => by
    rcases List.mem_append.mp m with m | m
    · exact List.mem_append_left _ (List.mem_filter.mp m).1
    · exact List.mem_append_right _ m
  have key : ∀ (j : Nat) (g : G), (ρ.set i (.val (.lst xs)))[j]? = some g → (j = i ∧ g = .val (.lst xs)) ∨ (j ≠ i ∧ ρ[j]? = some g) := fun j g h => by
    by_cases e : i = j
    · subst e
      by_cases hl : i < ρ.length
      · rw [List.getElem?_set_self hl] at h; exact .inl ⟨rfl, (Option.some.inj h).symm⟩
      · rw [List.getElem?_eq_none (by simpa using hl)] at h; cases h
    · rw [List.getElem?_set_ne e] at h; exact .inr ⟨fun z => e z.symm, h⟩
  have own : ∀ (j : Nat) (es : List D), (ρ.set i (.val (.lst xs)))[j]? = some (.own es) → j ≠ i ∧ ρ[j]? = some (.own es) := fun j es h => by
    rcases key j _ h with ⟨_, z⟩ | h
    · cases z
    · exact h
  refine ⟨O.filter (· ≠ a), ⟨f.ext, fun j g hg => ?_, fun j es b hg hb => ?_, fun j l es fs b hne h1 h2 h3 => ?_, fun b m => f.fre b (List.mem_filter.mp m).1, fun b m => f.trk b (sub b m), f.st, f.kd⟩, fun b m => (List.mem_filter.mp m).1⟩
  · rcases key j g hg with ⟨rfl, rfl⟩ | ⟨hne, hg⟩
    · refine ⟨_, ho, _, rfl, .lst (fun m => ?_) h1 (r.weak sub)⟩
      rcases List.mem_append.mp m with m | m
      · simpa using (List.mem_filter.mp m).2
      · exact (f.fre a (f.own j xs a hρ ho)).2 m
    · obtain ⟨o, ho', q⟩ := f.slot j g hg
      refine ⟨o, ho', ?_⟩
      cases g with
      | no => trivial
      | val d =>
        obtain ⟨v, e, r'⟩ := q
        exact ⟨v, e, r'.weak sub⟩
      | own es =>
        obtain ⟨b, ws, e, m, hb, r'⟩ := q
        subst e
        refine ⟨b, ws, rfl, ?_, hb, r'.weak sub⟩
        refine List.mem_append_left _ (List.mem_filter.mpr ⟨f.own j es b hg ho', ?_⟩)
        simp only [ne_eq, decide_not, Bool.not_eq_eq_eq_not, Bool.not_true, decide_eq_false_iff_not]
        intro z
        subst z
        exact f.dis i j xs es b (Ne.symm hne) hρ hg ho ho'
  · obtain ⟨hne, hg⟩ := own j es hg
    refine List.mem_filter.mpr ⟨f.own j es b hg hb, ?_⟩
    simp only [ne_eq, decide_not, Bool.not_eq_eq_eq_not, Bool.not_true, decide_eq_false_iff_not]
    intro z
    subst z
    exact f.dis i j xs es b (Ne.symm hne) hρ hg ho hb
  · exact f.dis j l es fs b hne (own j es h1).2 (own l fs h2).2 h3
theorem bk_freeze (i : Nat) {sts : List Stmt} (hρ : ρ[i]? = some (.own xs)) (h : Bk F sts (ρ.set i (.val (.lst xs))) s k) : Bk F sts ρ s k := fun O σ H f E q => by
  obtain ⟨O', f', hs⟩ := f.freeze hρ
  exact h O' σ H f' E (q.to ⟨.refl, fun a m => .inl (hs a m)⟩)
end
end Gh
set_option Elab.async false
set_option linter.all false
set_option maxRecDepth 100000
namespace Gh
open PySem PySem.Spec PyProof.Rows L2
/-! ### list comprehensions -/
/-- the block's contexts -/
structure Bx where
  s : Shared
  H : Hp
  C : Addr
  cl : List (Str × Addr)
  fp : List Addr
abbrev Fx.blk (F : Fx) (scope : Scope) (c : Bx) : Fx := ⟨F.X.blk c.s c.H scope (compEnvC scope c.cl c.C F.X.env) c.fp, F.H0, F.S0, F.p, F.act⟩
def gwipe (ρ : List G) : List Nat → List G
  | [] => ρ
  | v :: vs => (gwipe ρ vs).set v .no
section
variable {F : Fx} {ρ : List G} {s s1 s2 s3 : Sx} {tg a b c e elt iter : Expr} {ifs : List Expr} {x y d : D} {xs ys ds items : List D} {pos p : Pos} {k : GE} {scope : Scope}
theorem Fm.setNo {O : List Addr} {σ : L2.St} {H : Hp} {i : Nat} (f : Fm F O σ H ρ s) : Fm F O (σ.set i none) H (ρ.set i .no) s := by
  have key : ∀ (j : Nat) (g : G), (ρ.set i .no)[j]? = some g → (j = i ∧ g = .no ∧ j < ρ.length) ∨ (j ≠ i ∧ ρ[j]? = some g) := fun j g h => by
    by_cases e : i = j
    · subst e
      by_cases hl : i < ρ.length
      · rw [List.getElem?_set_self hl] at h; exact .inl ⟨rfl, (Option.some.inj h).symm, hl⟩
      · rw [List.getElem?_eq_none (by simpa using hl)] at h; cases h
    · rw [List.getElem?_set_ne e] at h; exact .inr ⟨fun z => e z.symm, h⟩
  have own : ∀ (j : Nat) (es : List D), (ρ.set i .no)[j]? = some (.own es) → j ≠ i ∧ ρ[j]? = some (.own es) := fun j es h => by
    rcases key j _ h with ⟨_, z, _⟩ | q
    · cases z
    · exact q
  refine ⟨f.ext, fun j g hg => ?_, fun j es a hg ha => ?_, fun j l es fs a hne h1 h2 h3 => ?_, f.fre, f.trk, f.st, f.kd⟩
  · rcases key j g hg with ⟨rfl, rfl, hl⟩ | ⟨hne, hg⟩
    · have : j < σ.length := by
        have hx : ρ[j]? = some ρ[j] := List.getElem?_eq_getElem hl
        obtain ⟨o, ho, _⟩ := f.slot j _ hx
        exact (List.getElem?_eq_some_iff.mp ho).1
      exact ⟨none, List.getElem?_set_self this, trivial⟩
    · obtain ⟨o, ho, q⟩ := f.slot j g hg
      exact ⟨o, by rw [List.getElem?_set_ne (Ne.symm hne)]; exact ho, q⟩
  · obtain ⟨hne, hg⟩ := own j es hg
    rw [List.getElem?_set_ne (Ne.symm hne)] at ha
    exact f.own j es a hg ha
  · obtain ⟨n1, h1⟩ := own j es h1
    obtain ⟨n2, h2⟩ := own l fs h2
    rw [List.getElem?_set_ne (Ne.symm n1)] at h3
    rw [List.getElem?_set_ne (Ne.symm n2)]
    exact f.dis j l es fs a hne h1 h2 h3
theorem Fm.wipe {O : List Addr} {σ : L2.St} {H : Hp} (f : Fm F O σ H ρ s) : ∀ vs : List Nat, Fm F O (L2.wipe σ vs) H (gwipe ρ vs) s
  | [] => f
  | v :: vs => (f.wipe vs).setNo
theorem Fm.blk {O : List Addr} {σ : L2.St} {H : Hp} {c : Bx} (f : Fm F O σ H ρ s) : Fm (F.blk scope c) O σ H ρ s := ⟨f.ext, f.slot, f.own, f.dis, f.fre, f.trk, f.st, f.kd⟩
theorem Fm.unblk {O : List Addr} {σ : L2.St} {H : Hp} {c : Bx} (f : Fm (F.blk scope c) O σ H ρ s) : Fm F O σ H ρ s := ⟨f.ext, f.slot, f.own, f.dis, f.fre, f.trk, f.st, f.kd⟩
theorem wipe_get {σ : L2.St} : ∀ (vs : List Nat) (j : Nat), j ∈ vs → j < σ.length → (L2.wipe σ vs)[j]? = some none
  | [], _, m, _ => absurd m (by simp)
  | v :: vs, j, m, hl => by
    unfold L2.wipe
    by_cases e : v = j
    · subst e
      exact List.getElem?_set_self (by rw [wipe_length]; exact hl)
    · rw [List.getElem?_set_ne e]
      exact wipe_get vs j ((List.mem_cons.mp m).resolve_left fun z => e z.symm) hl
theorem wipe_eq {σ σ2 : L2.St} {vs js : List Nat} (hl : σ2.length = σ.length) (hj : ∀ j ∈ js, j ∈ vs) (h : ∀ j, j ∉ js → σ2[j]? = (L2.wipe σ vs)[j]?) : L2.wipe σ2 vs = L2.wipe σ vs := by
  apply List.ext_getElem?
  intro j
  by_cases m : j ∈ vs
  · by_cases l : j < σ.length
    · rw [wipe_get vs j m l, wipe_get vs j m (by omega)]
    · rw [List.getElem?_eq_none (by rw [wipe_length]; omega), List.getElem?_eq_none (by rw [wipe_length]; omega)]
  · rw [wipe_out m, h j fun z => m (hj j z)]
/-- the tests of the clause -/
def Eifs (F : Fx) (ρ : List G) (s : Sx) (ifs : List Expr) (b : Bool) (s' : Sx) : Prop := (ifs = [] ∧ b = true ∧ s' = s) ∨ ∃ c, ifs = [c] ∧ Et F ρ s c b s'
def wgB (X : Cx) (scope : Scope) (tg : Expr) : TG := fun v σ H Q => ∀ c : Bx, WG (X.blk c.s c.H scope (compEnvC scope c.cl c.C X.env) c.fp) tg v σ H Q
def WTs (X : Cx) (ifs : List Expr) : TT := fun σ H Q => ∀ pins s, Inv X pins σ H s →
    wpAny (model X.prog X.w) X.A (forIn ifs true fun c r => if r = true then do let ok ← isTrue c X.env (eval c X.env); pure (ForInStep.yield ok) else pure (ForInStep.yield r)) (TP X pins σ Q) X.xe s
theorem pts_w {X : Cx} {ifs : List Expr} : PTs X ifs (WTs X ifs) := ⟨fun pins s _ _ _ I h => h pins s I⟩
theorem wts {X : Cx} {ifs : List Expr} {t : TT} {σ : L2.St} {H : Hp} {Q : Bool → Hp → Prop} (p : PTs X ifs t) (h : t σ H Q) : WTs X ifs σ H Q := fun pins s I => p.run pins s σ H Q I h
def wtB (X : Cx) (scope : Scope) (ifs : List Expr) : TT := fun σ H Q => ∀ c : Bx, WTs (X.blk c.s c.H scope (compEnvC scope c.cl c.C X.env) c.fp) ifs σ H Q
def weB (X : Cx) (scope : Scope) (e : Expr) : TE := fun σ H Q => ∀ c : Bx, WE (X.blk c.s c.H scope (compEnvC scope c.cl c.C X.env) c.fp) e σ H Q
/-- the turns: out i is what has been made ahead of turn i, st i the stream's state there -/
structure Comp (F : Fx) (ρ : List G) (scope : Scope) (vs : List Nat) (tg : Expr) (ifs : List Expr) (elt : Expr) (items : List D) (out : Nat → List D) (st : Nat → Sx) : Prop where
  nil : out 0 = []
  len : ∀ i, i ≤ items.length → (out i).length ≤ sizeLine
  turn : ∀ i d, items[i]? = some d → ∃ ρ2 js, (∀ c, Eg (F.blk scope c) tg d (gwipe ρ vs) ρ2 js) ∧ (∀ j ∈ js, j ∈ vs) ∧ ∃ b s2, (∀ c, Eifs (F.blk scope c) ρ2 (st i) ifs b s2) ∧
    (b = true → ∃ y, (∀ c, Ed (F.blk scope c) ρ2 s2 elt y (st (i + 1))) ∧ out (i + 1) = out i ++ [y]) ∧ (b = false → st (i + 1) = s2 ∧ out (i + 1) = out i)
theorem comp_run {out : Nat → List D} {st : Nat → Sx} {own : List (Str × Nat)} (hi : Ei F ρ s tg iter items (st 0)) (hcmp : Comp F ρ scope (own.map (·.2)) tg ifs elt items out st) :
    ∀ O σ H, Fm F O σ H ρ s → ∀ Q : VK, (∀ a vs H', Fm F (a :: O) σ H' ρ (st items.length) → XE F H H' → H a = none → H' a = some (.lst vs) → Rps F.X.K F.p (a :: (O ++ F.S0)) H' vs (out items.length) → Q (.ref a) H') →
      tLc (WI F.X tg iter) (wgB F.X scope tg) (wtB F.X scope ifs) (weB F.X scope elt) (own.map (·.2)) σ H Q := by
  intro O σ H f Q q
  refine hi.2 O σ H f _ fun J H1 f1 x1 w A nA => ?_
  refine lc_it w (fun i H' => Fm F (A :: O) σ H' ρ (st i) ∧ XE F H1 H' ∧ ∃ vs, H' A = some (.lst vs) ∧ Rps F.X.K F.p (A :: (O ++ F.S0)) H' vs (out i)) ?_ ?_ ?_ ?_
  · exact ⟨f1.newO nA, .new nA, [], upd_same, by rw [hcmp.nil]; exact .nil⟩
  · rintro i H' _ ⟨_, x2, _⟩
    exact x2.xt
  · rintro i v H' H2 hi' ⟨f2, x2, ws, hA, rA⟩ ⟨ha, d, hd, hr⟩
    obtain ⟨ρ2, js, hg, hj, b, s2, ht, hy, hn⟩ := hcmp.turn i d hd
    have f3 := f2.all ha
    have x3 : XE F H1 H2 := x2.trans ⟨fun a o _ e => ha a o e, (xt_all (S := []) ha).2⟩
    have nA' : ¬ (F.act = true ∧ A = F.p ∧ A ∈ F.S0) := fun z => (f2.fre A List.mem_cons_self).2 z.2.2
    have r3 := hr (A :: O) fun a m => ⟨(List.mem_cons.mp m).elim (fun z => .inr (z ▸ nA)) .inl, f2.trk a (List.mem_append_left _ m)⟩
    have back : ∀ H4 s4, XE F H2 H4 → StA F.p F.S0 H4 s4 → s4.isSome = F.act → Fm F (A :: O) σ H4 ρ s4 := fun H4 s4 x4 t4 k4 => by
      refine f3.grow ⟨fun a o e n => x4.1 a o (fun z => ?_) e, x4.2⟩ (f3.kd.trans k4.symm) t4
      rcases n with n | n
      · have q1 := f3.kd
        rw [n] at q1
        rw [← q1] at z
        cases z.1
      · exact n z.2.1
    have wf : Fm F (A :: O) (L2.wipe σ (own.map (·.2))) H2 (gwipe ρ (own.map (·.2))) (st i) := f3.wipe _
    intro c
    refine hg c (A :: O) _ H2 v (st i) wf.blk r3 _ fun σ2 f4 l4 e4 => ⟨wipe_eq (by rw [l4, wipe_length]) hj e4, fun c2 => ?_⟩
    have f4 : Fm F (A :: O) σ2 H2 ρ2 (st i) := f4.unblk
    have key : ∀ H3, Fm F (A :: O) σ2 H3 ρ2 s2 → XE F H2 H3 → (if b = true then weB F.X scope elt σ2 H3 fun y H4 => ∃ acc, H4 A = some (.lst acc) ∧ acc.length < sizeLine ∧ (Fm F (A :: O) σ (upd H4 A (.lst (acc ++ [y]))) ρ (st (i + 1)) ∧ XE F H1 (upd H4 A (.lst (acc ++ [y]))) ∧ ∃ vs, (upd H4 A (.lst (acc ++ [y]))) A = some (.lst vs) ∧ Rps F.X.K F.p (A :: (O ++ F.S0)) (upd H4 A (.lst (acc ++ [y]))) vs (out (i + 1)))
        else (Fm F (A :: O) σ H3 ρ (st (i + 1)) ∧ XE F H1 H3 ∧ ∃ vs, H3 A = some (.lst vs) ∧ Rps F.X.K F.p (A :: (O ++ F.S0)) H3 vs (out (i + 1)))) := by
      intro H3 f5 x5
      cases b with
      | true =>
        obtain ⟨y, hy1, hy2⟩ := hy rfl
        refine iteT fun c3 => (hy1 c3).2 (A :: O) σ2 H3 f5.blk _ fun u H4 f6 x6 r6 => ?_
        have f6 : Fm F (A :: O) σ2 H4 ρ2 (st (i + 1)) := f6.unblk
        have x6 : XE F H3 H4 := x6
        have x7 : XE F H2 H4 := x5.trans x6
        have hA4 : H4 A = some (.lst ws) := x7.1 _ _ nA' (ha _ _ hA)
        have rA4 : Rps F.X.K F.p (A :: (O ++ F.S0)) H4 ws (out i) := (rA.ext (xt_all ha)).ext (x7.xt (O := A :: O))
        have hlen := hcmp.len (i + 1) (by have := (List.getElem?_eq_some_iff.mp hd).1; omega)
        refine ⟨ws, hA4, ?_, ?_⟩
        · rw [hy2, List.length_append] at hlen
          rw [rA4.length]
          exact Nat.lt_of_succ_le (by simpa using hlen)
        · have f7 := back H4 (st (i + 1)) x7 f6.st f6.kd
          have xm : XT (A :: O ++ F.S0) H4 (upd H4 A (.lst (ws ++ [u]))) := ⟨fun b o n h => by rw [upd_ne (show b ≠ A from fun z => n (by rw [z]; exact List.mem_cons_self))]; exact h, fun b h => upd_none h⟩
          refine ⟨?_, ?_, _, upd_same, ?_⟩
          · -- the new list holds one more
            refine ⟨⟨fun b o h n => ?_, fun b h => f7.ext.2 b (upd_none h)⟩, fun j g hgj => ?_, f7.own, f7.dis, f7.fre, fun b m => ?_, ?_, f7.kd⟩
            · rw [upd_ne (show b ≠ A from fun z => ?_)]
              · exact f7.ext.1 b o h n
              · rw [z, (f7.fre A List.mem_cons_self).1] at h; cases h
            · obtain ⟨o, ho, qs⟩ := f7.slot j g hgj
              refine ⟨o, ho, ?_⟩
              cases g with
              | no => trivial
              | val d =>
                obtain ⟨v, e, r'⟩ := qs
                exact ⟨v, e, r'.ext xm⟩
              | own es =>
                obtain ⟨b, us, e, m, hb, r'⟩ := qs
                subst e
                refine ⟨b, us, rfl, m, ?_, r'.ext xm⟩
                rw [upd_ne (show b ≠ A from fun z => ?_)]
                · exact hb
                · have mo := f1.own j es b hgj ho
                  rw [z] at mo
                  exact f1.fresh nA (List.mem_append_left _ mo)
            · obtain ⟨o, e⟩ := f7.trk b m
              by_cases z : b = A
              · rw [z]; exact ⟨_, upd_same⟩
              · exact ⟨o, by rw [upd_ne z]; exact e⟩
            · have qs := f7.st
              revert qs
              cases st (i + 1) with
              | none => intro _; trivial
              | some ys => exact fun qs => ⟨qs.1, by rw [upd_ne (show F.p ≠ A from fun z => (f7.fre A List.mem_cons_self).2 (by rw [← z]; exact qs.1))]; exact qs.2⟩
          · have x8 := x3.trans x7
            exact ⟨fun b o n h => by rw [upd_ne (show b ≠ A from fun z => by rw [z, nA] at h; cases h)]; exact x8.1 b o n h, fun b h => x8.2 b (upd_none h)⟩
          · rw [hy2]
            exact (rA4.append (.one r6)).ext xm
      | false =>
        obtain ⟨hn1, hn2⟩ := hn rfl
        refine iteF ⟨?_, x3.trans x5, ws, x5.1 _ _ nA' (ha _ _ hA), ?_⟩
        · rw [hn1]; exact back H3 s2 x5 f5.st f5.kd
        · rw [hn2]; exact (rA.ext (xt_all ha)).ext (x5.xt (O := A :: O))
    rcases ht c2 with ⟨e1, e2, e3⟩ | ⟨c3, e1, e2⟩
    · subst e1
      have z := key H2 (by rw [e3]; exact f4) .refl
      subst e2
      exact wts pts_nil z
    · subst e1
      exact wts (pts_one pt_wt) (e2.2 (A :: O) σ2 H2 f4.blk _ fun H3 f5 x5 => key H3 f5.unblk x5)
  · rintro H' ⟨f2, x2, ws, hA, rA⟩
    exact q A ws H' f2 (x1.trans x2) (x1.2 A nA) hA rA
/-- [elt for tg in iter if ..], a new list -/
theorem el_comp {out : Nat → List D} {st : Nat → Sx} (own : List (Str × Nat)) (hc : F.X.calm = true) (hN : F.X.N.Nodup) (hi : Ei F ρ s tg iter items (st 0)) (ok : BlkOk F.X.N F.X.env.scope scope own) (hcmp : Comp F ρ scope (own.map (·.2)) tg ifs elt items out st)
    (kd : s.isSome = (st items.length).isSome) (hs : ∀ x, foldedSetIterable iter F.X.env x = pure x := by intro _; rfl) : El F ρ s (.ListComp elt [⟨tg, iter, ifs, 0⟩] scope pos) (out items.length) (st items.length) :=
  ⟨kd, fun O σ H f Q q => we (pe_lc hc hN pi_wi ok (fun s H C cl fp => ⟨fun pins s' σ H' v u Q I r h => h ⟨s, H, C, cl, fp⟩ pins s' u I r⟩) (fun s H C cl fp => ⟨fun pins s' σ H' Q I h => h ⟨s, H, C, cl, fp⟩ pins s' I⟩)
    (fun s H C cl fp => ⟨fun pins s' σ H' Q I h => h ⟨s, H, C, cl, fp⟩ pins s' I⟩) hs) (comp_run hi hcmp O σ H f Q q)⟩
/-- y = [elt for tg in iter if ..] -/
theorem bs_setLc (i : Nat) {y : Str} {py spos : Pos} {out : Nat → List D} {st : Nat → Sx} (own : List (Str × Nat)) (hc : F.X.calm = true) (hN : F.X.N.Nodup) (hy : F.X.N[i]? = some y) (hyl : F.X.env.scope.names.lookup y = some .local) (hsw : swapsWith (.ListComp elt [⟨tg, iter, ifs, 0⟩] scope pos) (some (.Name y py)) spos.line F.X.env = pure true)
    (hi : Ei F ρ s tg iter items (st 0)) (ok : BlkOk F.X.N F.X.env.scope scope own) (hcmp : Comp F ρ scope (own.map (·.2)) tg ifs elt items out st) (hk : k.nx (ρ.set i (.own (out items.length))) (st items.length)) (hs : ∀ x, foldedSetIterable iter F.X.env x = pure x := by intro _; rfl) :
    Bs F (.Assign [.Name y py] (.ListComp elt [⟨tg, iter, ifs, 0⟩] scope pos) spos) ρ s k :=
  fun O σ H f E q => ws (ps_setLc hc hN hy hyl hsw pi_wi ok (fun s H C cl fp => ⟨fun pins s' σ H' v u Q I r h => h ⟨s, H, C, cl, fp⟩ pins s' u I r⟩) (fun s H C cl fp => ⟨fun pins s' σ H' Q I h => h ⟨s, H, C, cl, fp⟩ pins s' I⟩)
    (fun s H C cl fp => ⟨fun pins s' σ H' Q I h => h ⟨s, H, C, cl, fp⟩ pins s' I⟩) hs) (comp_run hi hcmp O σ H f _ fun v vs H1 f1 x1 n1 h1 r1 => q.nx (v :: O) _ H1 _ _ (f1.setOwn List.mem_cons_self (f.notOwn n1) h1 r1)
      ⟨x1.xt, fun a m => (List.mem_cons.mp m).elim (fun z => .inr (z ▸ n1)) .inl⟩ hk)
/-- plain turns: each item d gives f d; nothing is drawn -/
theorem Comp.map {vs : List Nat} (f : D → D) (hl : items.length ≤ sizeLine) (h : ∀ (i : Nat) (d : D), items[i]? = some d → ∃ ρ2 js, (∀ c, Eg (F.blk scope c) tg d (gwipe ρ vs) ρ2 js) ∧ (∀ j ∈ js, j ∈ vs) ∧ ∀ c, Ed (F.blk scope c) ρ2 s elt (f d) s) :
    Comp F ρ scope vs tg [] elt items (fun i => (items.take i).map f) (fun _ => s) := by
  refine ⟨rfl, fun i hi => by simp; omega, fun i d hd => ?_⟩
  obtain ⟨ρ2, js, h1, h2, h3⟩ := h i d hd
  refine ⟨ρ2, js, h1, h2, true, s, fun c => .inl ⟨rfl, rfl, rfl⟩, fun _ => ⟨f d, h3, ?_⟩, fun z => by cases z⟩
  rw [List.take_add_one, hd]
  simp
/-- with a test -/
theorem Comp.filter {vs : List Nat} {c : Expr} (f : D → D) (g : D → Bool) (hl : items.length ≤ sizeLine) (h : ∀ (i : Nat) (d : D), items[i]? = some d → ∃ ρ2 js, (∀ c, Eg (F.blk scope c) tg d (gwipe ρ vs) ρ2 js) ∧ (∀ j ∈ js, j ∈ vs) ∧ (∀ b, Et (F.blk scope b) ρ2 s c (g d) s) ∧ (g d = true → ∀ c, Ed (F.blk scope c) ρ2 s elt (f d) s)) :
    Comp F ρ scope vs tg [c] elt items (fun i => ((items.take i).filter g).map f) (fun _ => s) := by
  refine ⟨rfl, fun i hi => ?_, fun i d hd => ?_⟩
  · have h1 := List.length_filter_le g (items.take i)
    have h2 := List.length_take_le' i items
    simp only [List.length_map]
    omega
  · obtain ⟨ρ2, js, h1, h2, h3, h4⟩ := h i d hd
    refine ⟨ρ2, js, h1, h2, g d, s, fun b => .inr ⟨c, rfl, h3 b⟩, fun e => ⟨f d, h4 e, ?_⟩, fun e => ⟨rfl, ?_⟩⟩
    · rw [List.take_add_one, hd]
      simp [e]
    · rw [List.take_add_one, hd]
      simp [e]
theorem take_all {α : Type} {l : List α} : l.take l.length = l := List.take_length
end
end Gh
set_option Elab.async false
set_option linter.all false
set_option maxRecDepth 100000
/-! fractions as data: rationals -/
namespace Gh
open PySem PySem.Spec PyProof.Rows L2
def fr (q : Rat) : D := .tup [.int q.num, .int q.den]
def fm (a b : Rat) : D := .tup [fr a, fr b]
theorem gcd_step (a b : Nat) (h : 0 < b) : Nat.gcd a b = Nat.gcd b (a % b) := by
  rw [Nat.gcd_comm, Nat.gcd_rec, Nat.gcd_comm]
theorem norm_mk (n : Int) (d : Nat) (h : d ≠ 0) : Rat.normalize n d h = mkRat n d := by
  rw [mkRat, dif_neg h]
theorem mk_num (t : Int) (b : Nat) (h : b ≠ 0) : (mkRat t b).num = t / (Nat.gcd t.natAbs b : Int) := by
  rw [Rat.num_mkRat, if_neg h, Nat.gcd_comm]
theorem mk_den (t : Int) (b : Nat) (h : b ≠ 0) : ((mkRat t b).den : Int) = (b : Int) / (Nat.gcd t.natAbs b : Int) := by
  rw [Rat.den_mkRat, if_neg h, Nat.gcd_comm]
  exact Int.natCast_ediv ..
theorem den_pos (q : Rat) : (0 : Int) < q.den := by have := q.den_nz; omega
theorem add_mk (a b : Rat) : mkRat (a.num * b.den + b.num * a.den) (a.den * b.den) = a + b := by rw [Rat.add_def, norm_mk]
theorem sub_mk (a b : Rat) : mkRat (a.num * b.den - b.num * a.den) (a.den * b.den) = a - b := by rw [Rat.sub_def, norm_mk]
theorem mul_mk (a b : Rat) : mkRat (a.num * b.num) (a.den * b.den) = a * b := by rw [Rat.mul_def, norm_mk]
/-- few bits -/
def Sz (n : Nat) (q : Rat) : Prop := q.num.natAbs < 2 ^ n ∧ q.den < 2 ^ n
theorem Sz.mono {m n : Nat} {q : Rat} (h : Sz m q) (l : m ≤ n) : Sz n q := ⟨Nat.lt_of_lt_of_le h.1 (Nat.pow_le_pow_right (by decide) l), Nat.lt_of_lt_of_le h.2 (Nat.pow_le_pow_right (by decide) l)⟩
theorem Sz.mk {n : Nat} {t : Int} {b : Nat} (h1 : t.natAbs < 2 ^ n) (h2 : b < 2 ^ n) (hb : b ≠ 0) : Sz n (mkRat t b) := by
  constructor
  · rw [mk_num t b hb]
    have : (t / (Nat.gcd t.natAbs b : Int)).natAbs ≤ t.natAbs := Int.natAbs_ediv_le_natAbs ..
    omega
  · rw [Rat.den_mkRat, if_neg hb]
    exact Nat.lt_of_le_of_lt (Nat.div_le_self ..) h2
theorem two_pow_mul {m n a b : Nat} (h1 : a < 2 ^ m) (h2 : b < 2 ^ n) : a * b < 2 ^ (m + n) := by
  rw [Nat.pow_add]; exact Nat.mul_lt_mul'' h1 h2
theorem Sz.add {m n : Nat} {a b : Rat} (ha : Sz m a) (hb : Sz n b) : Sz (m + n + 1) (a + b) := by
  rw [← add_mk]
  refine .mk ?_ ?_ (Nat.mul_ne_zero a.den_nz b.den_nz)
  · have h1 := two_pow_mul ha.1 hb.2
    have h2 := two_pow_mul hb.1 ha.2
    have h3 := Int.natAbs_add_le (a.num * b.den) (b.num * a.den)
    rw [Int.natAbs_mul, Int.natAbs_mul, Int.natAbs_natCast, Int.natAbs_natCast] at h3
    rw [Nat.pow_succ]
    rw [Nat.add_comm n m] at h2
    omega
  · have h1 := two_pow_mul ha.2 hb.2
    rw [Nat.pow_succ]; omega
theorem Sz.neg {n : Nat} {a : Rat} (h : Sz n a) : Sz n (-a) := ⟨by rw [Rat.neg_num, Int.natAbs_neg]; exact h.1, by rw [Rat.neg_den]; exact h.2⟩
theorem Sz.sub {m n : Nat} {a b : Rat} (ha : Sz m a) (hb : Sz n b) : Sz (m + n + 1) (a - b) := by rw [Rat.sub_eq_add_neg]; exact ha.add hb.neg
theorem Sz.mul {m n : Nat} {a b : Rat} (ha : Sz m a) (hb : Sz n b) : Sz (m + n) (a * b) := by
  rw [← mul_mk]
  refine .mk ?_ (two_pow_mul ha.2 hb.2) (Nat.mul_ne_zero a.den_nz b.den_nz)
  rw [Int.natAbs_mul]; exact two_pow_mul ha.1 hb.1
theorem fr_inj {a b : Rat} (h : fr a = fr b) : a = b := by
  unfold fr at h
  simp only [D.tup.injEq, List.cons.injEq, D.int.injEq, and_true] at h
  exact Rat.ext h.1 (by omega)
theorem fr_eqb (a b : Rat) : (fr a).eqb (fr b) = decide (a = b) := by
  have e : (fr a).eqb (fr b) = (a.num == b.num && (((a.den : Int) == (b.den : Int)) && true)) := by
    simp [D.eqb, fr, D.py, D.pys, PyData.eqv, PyData.eqvAll]
  rw [e]
  by_cases h : a = b
  · subst h; simp
  · rw [decide_eq_false h]
    by_cases h1 : a.num = b.num
    · by_cases h2 : a.den = b.den
      · exact absurd (Rat.ext h1 h2) h
      · have h3 : ¬ ((a.den : Int) = (b.den : Int)) := fun z => h2 (by omega)
        simp [h3]
    · simp [h1]
theorem fr_eqC (a : Rat) : (fr a).eqC := by
  constructor
  · simp [fr, D.pure, D.pures]
  · simp [fr, D.py, D.pys, SeqAt.shaped, PyData.canLay0, PyData.canLayAll0, PyData.depth, PyData.depthAll]
theorem lt_8000 {n : Nat} (h : n < 2 ^ 6001) : n < 2 ^ 8000 := Nat.lt_of_lt_of_le h (Nat.pow_le_pow_right (by decide) (by decide))
/-- what * and // ask, of fractions of few bits -/
theorem mulW {a b : Int} (ha : a.natAbs < 2 ^ 3000) (hb : b.natAbs < 2 ^ 3000) : CMulW a b := wide_mul ha hb (by decide) (by decide) (by decide)
theorem Sz.n {q : Rat} (h : Sz 3000 q) : q.num.natAbs < 2 ^ 3000 := h.1
theorem Sz.d {q : Rat} (h : Sz 3000 q) : ((q.den : Int)).natAbs < 2 ^ 3000 := by rw [Int.natAbs_natCast]; exact h.2
theorem dd_pos (a b : Rat) : 0 < (a.den : Int) * (b.den : Int) := Int.mul_pos (den_pos a) (den_pos b)
theorem dd_size {a b : Rat} (ha : Sz 3000 a) (hb : Sz 3000 b) : ((a.den : Int) * (b.den : Int)).natAbs < 2 ^ 8000 := by
  rw [Int.natAbs_mul]
  exact lt_8000 (Nat.lt_of_lt_of_le (two_pow_mul ha.d hb.d) (Nat.pow_le_pow_right (by decide) (by decide)))
theorem dd_nat (a b : Rat) : ((a.den : Int) * (b.den : Int)).toNat = a.den * b.den := by rw [← Int.natCast_mul]; exact Int.toNat_natCast _
end Gh
set_option Elab.async false
set_option linter.all false
set_option maxRecDepth 100000
namespace Gh
open PySem PySem.Spec PyProof.Rows L2
/-- a def of the text, as it stands behind the top -/
structure Df (E : En) (st : Stmt) (f : Str) (ps : List Str) : Prop where
  ok : ∃ fa fd, Fun E.K f f st fa fd ∧ E.mg f = some (.ref fa) ∧ Binds E.K fd ps []
/-- the context of a def's body -/
abbrev bodyF (E : En) (N : List Str) (x : Str) (st : Stmt) (s : Sx) (fa : Addr) (cdv : Value) (A : Around) (outer : List Env) (sh : Shared) (H0 : Hp) (EX : XK) (S0 : List Addr) (p : Addr) : Fx :=
  ⟨(cxOf CX0 E.P E.w E.K E.mg E.base N x (defScope st) fa cdv A outer sh H0 EX).nox, H0, S0, p, s.isSome⟩
theorem Df.rn {E : En} {x : Str} {st : Stmt} {N ps : List Str} {k : Nat} {ds : List D} {s s' : Sx} {d : D} (T : Df E st x ps) (S : FnScope N ps (defScope st)) (kd : s.isSome = s'.isSome) (hl : ds.length = ps.length)
    (body : ∀ (fa : Addr) (cdv : Value) (A : Around) (outer : List Env) (sh : Shared) (H0 : Hp) (EX : XK) (S0 : List Addr) (p : Addr), Room k (bodyF E N x st s fa cdv A outer sh H0 EX S0 p).X.A →
      Bk (bodyF E N x st s fa cdv A outer sh H0 EX S0 p) (defBody st) (gStart N ds) s ⟨fun _ t => d = .non ∧ t = s', fun r t => r = d ∧ t = s', fun _ _ => False, fun _ _ => False⟩) : Rn E (k + 1) x ds s d s' := by
  obtain ⟨fa, fd, F, hm, hb⟩ := T.ok
  exact rn_of F S hm hb kd hl fun cdv A outer sh H0 EX S0 p hr => body fa cdv A outer sh H0 EX S0 p hr
section
variable {F : Fx} {ρ : List G} {s s1 s2 : Sx} {a b e : Expr} {pos p : Pos} {k : GE} {d : D}
theorem Ed.is {x y : D} (h : Ed F ρ s e x s1) (z : x = y) : Ed F ρ s e y s1 := by rw [← z]; exact h
/-- the stream's numbers -/
theorem ed_ixM {i : Int} {xs : List Int} {n : Int} (ha : Ed F ρ s a .mut (some xs)) (hb : Ed F ρ (some xs) b (.int i) (some xs)) (h : atI xs i = some n) (hs : PlainIx b := by exact fun _ _ => rfl) : Ed F ρ s (.Subscript a b pos) (.int n) (some xs) :=
  ⟨ha.1, fun O σ H f Q q => we (pe_ix ix_list pe_we pe_we hs) (ha.2 O σ H f _ fun v H1 f1 x1 r1 => hb.2 O σ H1 f1 _ fun w H2 f2 x2 r2 => by
    cases r1; cases r2
    have e : atI (xs.map V.int) i = some (.int n) := by
      unfold atI at h ⊢
      rw [List.length_map]
      cases e : ixN xs.length i with
      | none => rw [e] at h; cases h
      | some j => rw [e] at h; simp only [Option.bind_some] at h ⊢; rw [List.getElem?_map, h]; rfl
    exact ⟨_, _, i, _, rfl, rfl, .inl (.inl f2.st.2), e, q _ H2 f2 (x1.trans x2) (.int n)⟩)⟩
/-- the stream turned -/
theorem Fm.setM {O : List Addr} {σ : L2.St} {H : Hp} {xs ys : List Int} (f : Fm F O σ H ρ (some xs)) : Fm F O σ (upd H F.p (.lst (ys.map V.int))) ρ (some ys) ∧ XT (O ++ F.S0) H (upd H F.p (.lst (ys.map V.int))) := by
  have x : XP F.p (some xs) H (upd H F.p (.lst (ys.map V.int))) := ⟨fun a o e n => by
    rw [upd_ne (show a ≠ F.p from n.resolve_left fun z => by cases z)]; exact e, fun a h => upd_none h⟩
  exact ⟨f.grow x rfl ⟨f.st.1, upd_same⟩, (x.xt f.st).mono fun a m => List.mem_append_right _ m⟩
theorem bs_stM (i : Nat) {x : Str} {px ps : Pos} {ix : Expr} {xs : List Int} {n l : Int} {j : Nat} (hN : F.X.N[i]? = some x) (hv : Vis F.X.env.scope x) (hρ : ρ[i]? = some (.val .mut)) (h : Ed F ρ s e (.int n) (some xs)) (hi : Ed F ρ (some xs) ix (.int l) (some xs)) (hj : ixN xs.length l = some j) (hk : k.nx ρ (some (xs.set j n)))
    (hd : (x == ("__debug__" : Str)) = false := by decide) (hcd : (x == ("__classdict__" : Str)) = false := by decide) (hs : swapsWithSole [.Subscript (.Name x px) ix ps] e pos.line F.X.env = pure false := by rfl) (hw : swappedStores [.Subscript (.Name x px) ix ps] e F.X.env = pure none := by rfl)
    (h1 : (assignEach [.Subscript (.Name x px) ix ps] F.X.env).map (·.2) = [assign (.Subscript (.Name x px) ix ps) F.X.env] := by rfl)
    (ha : ∀ v, assign (.Subscript (.Name x px) ix ps) F.X.env v = (do
      let ov ← holding [v] (eval (.Name x px) F.X.env)
      let iv ← holding [v, ov] (eval ix F.X.env)
      standAt ps
      holding [v, ov, iv] (setItem ov iv v)
      release [v, ov, iv] []) := by intro _; rfl) : Bs F (.Assign [.Subscript (.Name x px) ix ps] e pos) ρ s k :=
  fun O σ H f E q => ws (ps_asg pe_we (pg_sub (pe_var hN hv hd hcd) pe_we set_list ha) hs hw h1) (h.2 O σ H f _ fun v H1 f1 x1 r1 => by
    cases r1
    obtain ⟨o, ho, w, e, r⟩ := f1.slot i _ hρ
    subst e
    cases r
    refine ⟨_, ho, hi.2 O σ H1 f1 _ fun w H2 f2 x2 r2 => ?_⟩
    cases r2
    refine ⟨_, xs.map V.int, l, j, rfl, rfl, f2.st.2, by rw [List.length_map]; exact hj, ?_⟩
    obtain ⟨f3, x3⟩ := f2.setM (ys := xs.set j n)
    have e : (xs.map V.int).set j (V.int n) = (xs.set j n).map V.int := by rw [List.map_set]
    rw [e]
    exact q.nx O σ _ ρ _ f3 (.of ((x1.xt.trans x2.xt).trans x3)) hk)
/-- a op b op c -/
theorem ed_chainII {op op' : CmpOp} {c : Expr} {i j l : Int} {g g' : Int → Int → Bool} (ho : OpR F.X (compareOp op) (rI0 fun i j => .bl (g i j))) (ho' : OpR F.X (compareOp op') (rI0 fun i j => .bl (g' i j))) (ha : Ed F ρ s a (.int i) s) (hb : Ed F ρ s b (.int j) s) (hc : Ed F ρ s c (.int l) s)
    (hm : lastMarks [op, op'] [b, c] = false := by with_unfolding_all rfl) : Ed F ρ s (.Compare a [op, op'] [b, c] pos) (.bl (g i j && g' j l)) s :=
  ⟨rfl, fun O σ H f Q q => we (pe_chain ho ho' pe_we pe_we pe_we hm) (ha.2 O σ H f _ fun v H1 f1 x1 r1 => hb.2 O σ H1 f1 _ fun w H2 f2 x2 r2 => by
    cases r1; cases r2
    refine ⟨i, j, rfl, rfl, g i j, rfl, ?_⟩
    cases e : g i j with
    | true => exact iteT (hc.2 O σ H2 f2 _ fun u H3 f3 x3 r3 => by cases r3; exact ⟨j, l, rfl, rfl, q _ H3 f3 ((x1.trans x2).trans x3) (by rw [e]; exact .bl _)⟩)
    | false => exact iteF (q _ H2 f2 (x1.trans x2) (by rw [e]; exact .bl _)))⟩
end
end Gh
namespace Gh
open PySem PySem.Spec PyProof.Rows L2
section
variable {F : Fx} {ρ : List G} {s s1 s2 s3 : Sx} {e : Expr} {es : List Expr} {d : D} {ds : List D} {pos p : Pos}
/-- f(..): the arguments first -/
theorem ed_cl {f : Str} {k : Nat} (ha : Ea F ρ s (e :: es) ds s1) (hr : Room k F.X.A) (R : Rn F.en k f ds s1 d s2) (hg : Gl F.X f := by rfl) (hdb : (f == ("__debug__" : Str)) = false := by decide)
    (he : starEach (e :: es) F.X.env = (false, eval e F.X.env) :: starEach es F.X.env := by rfl) (hpl : (backTo pos (starEach es F.X.env)).any (·.1) = false := by rfl) : Ed F ρ s (.Call (.Name f p) (e :: es) [] pos) d s2 := ed_call R hr ha hg hdb he hpl
end
end Gh
set_option Elab.async false
set_option linter.all false
set_option maxRecDepth 100000
set_option maxHeartbeats 2000000
/-! zip of any two of lists and tuples; enumerate of a tuple -/
namespace Zm
open PySem PySem.Spec PyProof.Rows L2
/-- t: a tuple's, else a list's -/
def Src (t : Bool) (h : Heap) (l : Addr) (xs : Array Value) : Prop := if t = true then h.IsTuple l xs else h.IsList l xs
def Run (t : Bool) (h : Heap) (i l : Addr) (k : Nat) : Prop := if t = true then h.IsTupleIter i l k else h.IsListIter i l k
section
variable {t : Bool} {h h' : Heap} {i l b : Addr} {k : Nat} {xs : Array Value}
theorem Src.but (x : Src t h l xs) (e : Heap.ExtBut b h h') (n : l ≠ b) : Src t h' l xs := by
  cases t with
  | true => exact Heap.IsTuple.extBut x e n
  | false => exact Heap.IsList.extBut x e n
theorem Run.but (x : Run t h i l k) (e : Heap.ExtBut b h h') (n : i ≠ b) : Run t h' i l k := by
  cases t with
  | true => exact Heap.IsTupleIter.extBut x e n
  | false => exact Heap.IsListIter.extBut x e n
theorem Run.to (x : Run t h i l k) (e : ∀ o, h.get? i = some o → h'.get? i = some o) : Run t h' i l k := by
  cases t with
  | true => exact Heap.IsTupleIter.at x e
  | false => exact Heap.IsListIter.at x e
theorem Run.obj (x : Run t h i l k) : ∃ o vs, h.get? i = some o ∧ o.data = .fields vs := by
  cases t with
  | true => obtain ⟨o, e, _, d⟩ := (show h.IsTupleIter i l k from x); exact ⟨o, _, e, d⟩
  | false => obtain ⟨o, e, _, d⟩ := (show h.IsListIter i l k from x); exact ⟨o, _, e, d⟩
theorem Run.lt (x : Run t h i l k) : i < h.objs.size := by
  obtain ⟨o, _, e, _⟩ := x.obj
  exact Heap.lt_size e
end
section
variable {prog : Program} {w : World} {A : Around} {E : Value → Shared → Prop} {s : Shared}
theorem next_item {t : Bool} {i l : Addr} {k : Nat} {xs : Array Value} {x : Value} {Q : Value → Shared → Prop} (hi : Run t s.heap i l k) (hl : Src t s.heap l xs) (hx : xs[k]? = some x)
    (q : ∀ h', Run t h' i l (k + 1) → Heap.SameBut i s.heap h' → Q x { s with heap := h' }) : wpAny (model prog w) A (Builtin.SmallTypes.nextOf (.ref i)) Q E s := by
  cases t with
  | true => exact RZ.nextOf_tuple_item hi hl hx q
  | false => exact wpAny_nextOf_list_item hi hl hx q
theorem next_end {t : Bool} {i l : Addr} {k : Nat} {xs : Array Value} {Q : Value → Shared → Prop} (hh : A.handled = none) (hi : Run t s.heap i l k) (hl : Src t s.heap l xs) (hx : xs[k]? = none)
    (q : ∀ h' e, Heap.ExtBut i s.heap h' → (∃ o, h'.get? e = some o ∧ o.cls = .type "StopIteration") → E (.ref e) { s with heap := h' }) : wpAny (model prog w) A (Builtin.SmallTypes.nextOf (.ref i)) Q E s := by
  cases t with
  | true => exact RZ.nextOf_tuple_end hh hi hl hx q
  | false => exact wpAny_nextOf_list_end hh hi hl hx q
variable {t u : Bool} {z TI TO i1 i2 l1 l2 : Addr} {k1 k2 : Nat} {xs ys : Array Value} {a b : Value}
/-- a turn that gives a pair -/
theorem zip_item {x y : Value} {Q : Value → Shared → Prop} (D : ZipApart z TI TO i1 i2 l1 l2) (hz : IsZip s.heap z TI TO .none) (hTI : IsPair s.heap TI (.ref i1) (.ref i2)) (hTO : IsPair s.heap TO a b) (h1 : Run t s.heap i1 l1 k1) (h2 : Run u s.heap i2 l2 k2)
    (hl1 : Src t s.heap l1 xs) (hl2 : Src u s.heap l2 ys) (hx : xs[k1]? = some x) (hy : ys[k2]? = some y)
    (hQ : ∀ h', IsZip h' z TI TO (rawInt s.heap.objs.size) → IsPair h' TO x y → Run t h' i1 l1 (k1 + 1) → Run u h' i2 l2 (k2 + 1) → IsPair h' s.heap.objs.size x y → h'.objs.size = s.heap.objs.size + 1 →
      (∀ c o, c ≠ z → c ≠ TO → c ≠ i1 → c ≠ i2 → s.heap.get? c = some o → h'.get? c = some o) → Q (.ref s.heap.objs.size) { s with heap := h' }) :
    wpAny (model prog w) A (Builtin.«zip.__next__» ⟨[.ref z], []⟩) (fun fin s' => ∃ v, fin = .done (.ret v) ∧ Q v s') E s := by
  show wpAny _ _ (field (.ref z) 2 >>= _) _ _ _
  refine wpAny_bind (wpAny_field hz rfl (x := .bool false) rfl ?_)
  show wpAny _ _ (field (.ref z) 3 >>= _) _ _ _
  refine wpAny_bind (wpAny_field hz rfl (x := .ref TI) rfl (wpAny_bind (wpAny_seqItems hTI rfl ?_)))
  show wpAny _ _ (Builtin.SmallTypes.ownedTupleIsFree (.ref z) >>= _) _ _ _
  refine wpAny_bind ?_
  unfold Builtin.SmallTypes.ownedTupleIsFree
  refine wpAny_bind (wpAny_field hz rfl (x := .none) rfl (wpAny_pure ?_))
  simp only [if_true]
  refine wpAny_bind (wpAny_rule (wpAny_bind (wpAny_field hz rfl (x := .ref TO) rfl (wpAny_bind (wpAny_setField_rec hz (by simp) fun g1 z1 s1 => ?_)))))
  replace z1 : IsZip g1 z TI TO .ellipsis := z1
  refine wpAny_bind ?_
  simp only [List.zipIdx_cons, List.zipIdx_nil, List.forIn_cons, List.forIn_nil]
  refine wpAny_bind (wpAny_bind (wpAny_onRaise ?_))
  show wpAny _ _ (Builtin.SmallTypes.nextOf (.ref i1) >>= _) _ _ _
  refine wpAny_bind (next_item (h1.but s1.extBut D.i1z) (hl1.but s1.extBut D.l1z) hx fun g2 r2 s2 => wpAny_pure ?_)
  have p2 : IsPair g2 TO a b := s2.extBut _ _ D.TOi1 (s1.extBut _ _ D.TOz hTO)
  refine wpAny_bind (wpAny_seqItems p2 rfl (wpAny_bind (wpAny_updateSeq_pair p2 fun g3 p3 s3 => ?_)))
  replace p3 : IsPair g3 TO x b := p3
  refine wpAny_bind (wpAny_letGo (wpAny_pure (wpAny_bind (wpAny_bind (wpAny_onRaise ?_)))))
  show wpAny _ _ (Builtin.SmallTypes.nextOf (.ref i2) >>= _) _ _ _
  refine wpAny_bind (next_item (((h2.but s1.extBut D.i2z).but s2.extBut D.i12.symm).but s3.extBut D.TOi2.symm) (((hl2.but s1.extBut D.l2z).but s2.extBut D.l2i1).but s3.extBut D.l2TO) hy fun g4 r4 s4 => wpAny_pure ?_)
  have p4 : IsPair g4 TO x b := s4.extBut _ _ D.TOi2 p3
  refine wpAny_bind (wpAny_seqItems p4 rfl (wpAny_bind (wpAny_updateSeq_pair p4 fun g5 p5 s5 => ?_)))
  replace p5 : IsPair g5 TO x y := p5
  refine wpAny_bind (wpAny_letGo (wpAny_pure (wpAny_pure (wpAny_bind (wpAny_seqItems p5 rfl (wpAny_bind (wpAny_newTuple ?_)))))))
  have sz : g5.objs.size = s.heap.objs.size := by rw [s5.1, s4.1, s3.1, s2.1, s1.1]
  have z5 : IsZip g5 z TI TO .ellipsis := s5.extBut _ _ D.TOz.symm (s4.extBut _ _ D.i2z.symm (s3.extBut _ _ D.TOz.symm (s2.extBut _ _ D.i1z.symm z1)))
  have r1' : Run t g5 i1 l1 (k1 + 1) := ((r2.but s3.extBut D.TOi1.symm).but s4.extBut D.i12).but s5.extBut D.TOi1.symm
  have r2' : Run u g5 i2 l2 (k2 + 1) := r4.but s5.extBut D.TOi2.symm
  have zlt : z < g5.objs.size := Heap.lt_size z5
  show wpAny _ _ (Builtin.SmallTypes.ownedTupleHandOut (.ref z) (.ref g5.objs.size) >>= _) _ _ _
  refine wpAny_bind ?_
  unfold Builtin.SmallTypes.ownedTupleHandOut
  have z6 : IsZip (g5.push { cls := .type "tuple", data := .seq #[x, y] }) z TI TO .ellipsis := Heap.get?_push_of_some _ z5
  refine wpAny_bind (wpAny_setField_rec z6 (by simp) fun g7 z7 s7 => ?_)
  replace z7 : IsZip g7 z TI TO (rawInt g5.objs.size) := z7
  refine wpAny_setField_rec z7 (by simp) fun g8 z8 s8 => ?_
  replace z8 : IsZip g8 z TI TO (rawInt g5.objs.size) := z8
  have up : ∀ c o, c ≠ z → g5.get? c = some o → g8.get? c = some o := fun c o n e => s8.extBut _ _ n (s7.extBut _ _ n (Heap.get?_push_of_some _ e))
  have p8 : IsPair g8 g5.objs.size x y := s8.extBut _ _ (Nat.ne_of_gt zlt) (s7.extBut _ _ (Nat.ne_of_gt zlt) (Heap.get?_push_size _ rfl))
  have sz8 : g8.objs.size = g5.objs.size + 1 := by rw [s8.1, s7.1, Heap.size_push]
  rw [sz] at z8 p8 sz8
  refine wpAny_pure ⟨_, rfl, ?_⟩
  show Q (.ref g5.objs.size) _
  rw [sz]
  exact hQ g8 z8 (up _ _ D.TOz p5) (r1'.to fun o e => up _ o D.i1z e) (r2'.to fun o e => up _ o D.i2z e) p8 sz8 fun c o n1 n2 n3 n4 e =>
    up c o n1 (s5.extBut _ _ n2 (s4.extBut _ _ n4 (s3.extBut _ _ n2 (s2.extBut _ _ n3 (s1.extBut _ _ n1 e)))))
/-- the turn at which one of both is through -/
theorem zip_end {Q : Fin → Shared → Prop} (hh : A.handled = none) (D : ZipApart z TI TO i1 i2 l1 l2) (hz : IsZip s.heap z TI TO .none) (hTI : IsPair s.heap TI (.ref i1) (.ref i2)) (hTO : IsPair s.heap TO a b) (h1 : Run t s.heap i1 l1 k1) (h2 : Run u s.heap i2 l2 k2)
    (hl1 : Src t s.heap l1 xs) (hl2 : Src u s.heap l2 ys) (hend : xs[k1]? = none ∨ ys[k2]? = none)
    (hE : ∀ h' e, (∀ c o, c ≠ z → c ≠ TO → c ≠ i1 → c ≠ i2 → s.heap.get? c = some o → h'.get? c = some o) → (∃ o, h'.get? e = some o ∧ o.cls = .type "StopIteration") → E (.ref e) { s with heap := h' }) :
    wpAny (model prog w) A (Builtin.«zip.__next__» ⟨[.ref z], []⟩) Q E s := by
  show wpAny _ _ (field (.ref z) 2 >>= _) _ _ _
  refine wpAny_bind (wpAny_field hz rfl (x := .bool false) rfl ?_)
  show wpAny _ _ (field (.ref z) 3 >>= _) _ _ _
  refine wpAny_bind (wpAny_field hz rfl (x := .ref TI) rfl (wpAny_bind (wpAny_seqItems hTI rfl ?_)))
  show wpAny _ _ (Builtin.SmallTypes.ownedTupleIsFree (.ref z) >>= _) _ _ _
  refine wpAny_bind ?_
  unfold Builtin.SmallTypes.ownedTupleIsFree
  refine wpAny_bind (wpAny_field hz rfl (x := .none) rfl (wpAny_pure ?_))
  simp only [if_true]
  refine wpAny_bind (wpAny_rule (wpAny_bind (wpAny_field hz rfl (x := .ref TO) rfl (wpAny_bind (wpAny_setField_rec hz (by simp) fun g1 z1 s1 => ?_)))))
  replace z1 : IsZip g1 z TI TO .ellipsis := z1
  refine wpAny_bind ?_
  simp only [List.zipIdx_cons, List.zipIdx_nil, List.forIn_cons, List.forIn_nil]
  refine wpAny_bind (wpAny_bind (wpAny_onRaise ?_))
  show wpAny _ _ (Builtin.SmallTypes.nextOf (.ref i1) >>= _) _ _ _
  cases hx : xs[k1]? with
  | none =>
    refine wpAny_bind (next_end hh (h1.but s1.extBut D.i1z) (hl1.but s1.extBut D.l1z) hx fun g2 e s2 he => ?_)
    obtain ⟨oe, hoe, hce⟩ := he
    have z2 : IsZip g2 z TI TO .ellipsis := s2 _ _ D.i1z.symm z1
    have ne : e ≠ z := fun q => by subst q; rw [z2] at hoe; cases hoe; simp at hce
    exact wpAny_setField_rec z2 (by simp) fun g3 _ s3 => hE g3 e (fun c o n1 _ n3 _ q => s3.extBut _ _ n1 (s2 _ _ n3 (s1.extBut _ _ n1 q))) ⟨oe, s3.extBut _ _ ne hoe, hce⟩
  | some x =>
    have hy : ys[k2]? = none := by rcases hend with h | h; rw [hx] at h; cases h; exact h
    refine wpAny_bind (next_item (h1.but s1.extBut D.i1z) (hl1.but s1.extBut D.l1z) hx fun g2 r2 s2 => wpAny_pure ?_)
    have p2 : IsPair g2 TO a b := s2.extBut _ _ D.TOi1 (s1.extBut _ _ D.TOz hTO)
    refine wpAny_bind (wpAny_seqItems p2 rfl (wpAny_bind (wpAny_updateSeq_pair p2 fun g3 p3 s3 => ?_)))
    refine wpAny_bind (wpAny_letGo (wpAny_pure (wpAny_bind (wpAny_bind (wpAny_onRaise ?_)))))
    show wpAny _ _ (Builtin.SmallTypes.nextOf (.ref i2) >>= _) _ _ _
    refine wpAny_bind (next_end hh (((h2.but s1.extBut D.i2z).but s2.extBut D.i12.symm).but s3.extBut D.TOi2.symm) (((hl2.but s1.extBut D.l2z).but s2.extBut D.l2i1).but s3.extBut D.l2TO) hy fun g4 e s4 he => ?_)
    obtain ⟨oe, hoe, hce⟩ := he
    have z4 : IsZip g4 z TI TO .ellipsis := s4 _ _ D.i2z.symm (s3.extBut _ _ D.TOz.symm (s2.extBut _ _ D.i1z.symm z1))
    have ne : e ≠ z := fun q => by subst q; rw [z4] at hoe; cases hoe; simp at hce
    exact wpAny_setField_rec z4 (by simp) fun g5 _ s5 => hE g5 e (fun c o n1 n2 n3 n4 q => s5.extBut _ _ n1 (s4 _ _ n4 (s3.extBut _ _ n2 (s2.extBut _ _ n3 (s1.extBut _ _ n1 q))))) ⟨oe, s5.extBut _ _ ne hoe, hce⟩
theorem py_item {x y : Value} {Q : Option Value → Shared → Prop} (D : ZipApart z TI TO i1 i2 l1 l2) (hz : IsZip s.heap z TI TO .none) (hTI : IsPair s.heap TI (.ref i1) (.ref i2)) (hTO : IsPair s.heap TO a b) (h1 : Run t s.heap i1 l1 k1) (h2 : Run u s.heap i2 l2 k2)
    (hl1 : Src t s.heap l1 xs) (hl2 : Src u s.heap l2 ys) (hx : xs[k1]? = some x) (hy : ys[k2]? = some y)
    (hQ : ∀ h', IsZip h' z TI TO (rawInt s.heap.objs.size) → IsPair h' TO x y → Run t h' i1 l1 (k1 + 1) → Run u h' i2 l2 (k2 + 1) → IsPair h' s.heap.objs.size x y → h'.objs.size = s.heap.objs.size + 1 →
      (∀ c o, c ≠ z → c ≠ TO → c ≠ i1 → c ≠ i2 → s.heap.get? c = some o → h'.get? c = some o) → Q (some (.ref s.heap.objs.size)) { s with heap := h' }) : wpAny (model prog w) A (pyNext (.ref z)) Q E s := by
  have hT : s.TypeIs (.ref z) "zip" := ⟨_, hz, rfl⟩
  unfold pyNext
  refine wpAny_bind (wpAny_attempt (wpAny_callSpecial?_slot (name := Str.ofString "__next__") hT F.slot_zip_next (wpAny_call_entry F.slot_zip_next hT F.entry_zip_next ?_ (F.args_zip_next_1 _))))
  exact zip_item D hz hTI hTO h1 h2 hl1 hl2 hx hy fun h' a1 a2 a3 a4 a5 a6 a7 => wpAny_pure (hQ h' a1 a2 a3 a4 a5 a6 a7)
theorem py_end {Q : Option Value → Shared → Prop} (hh : A.handled = none) (D : ZipApart z TI TO i1 i2 l1 l2) (hz : IsZip s.heap z TI TO .none) (hTI : IsPair s.heap TI (.ref i1) (.ref i2)) (hTO : IsPair s.heap TO a b) (h1 : Run t s.heap i1 l1 k1) (h2 : Run u s.heap i2 l2 k2)
    (hl1 : Src t s.heap l1 xs) (hl2 : Src u s.heap l2 ys) (hend : xs[k1]? = none ∨ ys[k2]? = none) (hQ : ∀ h', (∀ c o, c ≠ z → c ≠ TO → c ≠ i1 → c ≠ i2 → s.heap.get? c = some o → h'.get? c = some o) → Q none { s with heap := h' }) : wpAny (model prog w) A (pyNext (.ref z)) Q E s := by
  have hT : s.TypeIs (.ref z) "zip" := ⟨_, hz, rfl⟩
  unfold pyNext
  refine wpAny_bind (wpAny_attempt (wpAny_callSpecial?_slot (name := Str.ofString "__next__") hT F.slot_zip_next (wpAny_call_entry F.slot_zip_next hT F.entry_zip_next ?_ (F.args_zip_next_1 _))))
  refine zip_end hh D hz hTI hTO h1 h2 hl1 hl2 hend fun h' e hk he => ?_
  obtain ⟨o, ho, hc⟩ := he
  exact wpAny_bind (wpAny_isInstance (T := "StopIteration") (b := true) ⟨o, ho, hc⟩ isSubtype_stop (wpAny_pure (hQ _ hk)))
end
/-! the making -/
def itN (t : Bool) : String := if t = true then "tuple_iterator" else "list_iterator"
abbrev m1 (t : Bool) (h : Heap) (l1 : Addr) : Heap := h.push { cls := .type (itN t), data := .fields #[.ref l1, .int 0 0] }
abbrev m2 (t u : Bool) (h : Heap) (l1 l2 : Addr) : Heap := (m1 t h l1).push { cls := .type (itN u), data := .fields #[.ref l2, .int 0 0] }
abbrev m3 (t u : Bool) (h : Heap) (l1 l2 : Addr) : Heap := (m2 t u h l1 l2).push { cls := .type "tuple", data := .seq #[.ref h.objs.size, .ref (m1 t h l1).objs.size] }
abbrev m4 (t u : Bool) (h : Heap) (l1 l2 : Addr) : Heap := (m3 t u h l1 l2).push { cls := .type "tuple", data := .seq #[.none, .none] }
abbrev m5 (t u : Bool) (h : Heap) (l1 l2 : Addr) : Heap := (m4 t u h l1 l2).push { cls := .type "zip", data := .fields #[.none, .bool false, .bool false, .ref (m2 t u h l1 l2).objs.size, .ref (m3 t u h l1 l2).objs.size] }
theorem made (t u : Bool) (l1 l2 : Addr) (xs ys : Array Value) : Meets (Builtin.«zip.__new__» ⟨[.type "zip", .ref l1, .ref l2], []⟩) (fun _ R s => Src t s.heap l1 xs ∧ Src u s.heap l2 ys ∧ R (.ok (.ret (.ref (m4 t u s.heap l1 l2).objs.size))) { s with heap := m5 t u s.heap l1 l2 }) :=
  .of_wp fun prog w A R s h => by
    obtain ⟨hp, g, d, tk, os⟩ := s; obtain ⟨hl1, hl2, h⟩ := h
    have hsub := sub_zip
    cases t with
    | true =>
      have e1 : Heap.IsTuple (Shared.heap ⟨hp, g, d, tk, os⟩) l1 xs := hl1
      cases u with
      | true =>
        have e2 : Heap.IsTuple (Shared.heap ⟨hp.push { cls := .type "tuple_iterator", data := .fields #[.ref l1, .int 0 0] }, g, d, tk, os⟩) l2 ys := Heap.IsTuple.push hl2 _
        wp_walk using wpAny_pyIter_tuple e1, wpAny_pyIter_tuple e2
        exact ⟨_, rfl, h⟩
      | false =>
        have e2 : Heap.IsList (Shared.heap ⟨hp.push { cls := .type "tuple_iterator", data := .fields #[.ref l1, .int 0 0] }, g, d, tk, os⟩) l2 ys := Heap.IsList.push hl2 _
        wp_walk using wpAny_pyIter_tuple e1, wpAny_pyIter_list e2
        exact ⟨_, rfl, h⟩
    | false =>
      have e1 : Heap.IsList (Shared.heap ⟨hp, g, d, tk, os⟩) l1 xs := hl1
      cases u with
      | true =>
        have e2 : Heap.IsTuple (Shared.heap ⟨hp.push { cls := .type "list_iterator", data := .fields #[.ref l1, .int 0 0] }, g, d, tk, os⟩) l2 ys := Heap.IsTuple.push hl2 _
        wp_walk using wpAny_pyIter_list e1, wpAny_pyIter_tuple e2
        exact ⟨_, rfl, h⟩
      | false =>
        have e2 : Heap.IsList (Shared.heap ⟨hp.push { cls := .type "list_iterator", data := .fields #[.ref l1, .int 0 0] }, g, d, tk, os⟩) l2 ys := Heap.IsList.push hl2 _
        wp_walk using wpAny_pyIter_list e1, wpAny_pyIter_list e2
        exact ⟨_, rfl, h⟩
theorem run0 {t : Bool} {h : Heap} {i l : Addr} (e : h.get? i = some { cls := .type (itN t), data := .fields #[.ref l, .int 0 0] }) : Run t h i l 0 := by
  cases t with
  | true => exact ⟨_, e, rfl, rfl⟩
  | false => exact ⟨_, e, rfl, rfl⟩
section
variable {prog : Program} {w : World} {A : Around} {E : Value → Shared → Prop} {s : Shared}
theorem call_zip {t u : Bool} {l1 l2 : Addr} {xs ys : Array Value} {Q : Value → Shared → Prop} (hl1 : Src t s.heap l1 xs) (hl2 : Src u s.heap l2 ys)
    (h : ∀ h', IsZip h' (s.heap.objs.size + 4) (s.heap.objs.size + 2) (s.heap.objs.size + 3) .none → IsPair h' (s.heap.objs.size + 2) (.ref s.heap.objs.size) (.ref (s.heap.objs.size + 1)) → IsPair h' (s.heap.objs.size + 3) .none .none →
      Run t h' s.heap.objs.size l1 0 → Run u h' (s.heap.objs.size + 1) l2 0 → h'.objs.size = s.heap.objs.size + 5 → (∀ c o, s.heap.get? c = some o → h'.get? c = some o) → Q (.ref (s.heap.objs.size + 4)) { s with heap := h' }) :
    wpAny (model prog w) A (call (.type "zip") [.ref l1, .ref l2]) Q E s := by
  refine callType_new F.called_zip (by decide) (F.typeCall_zip_2 _ _) (F.newCall_zip_2 _ _) (fun obj => F.args_object_init_3 obj _ _) F.entry_zip_new (made t u l1 l2 xs ys) ⟨hl1, hl2, ?_⟩
  have n1 : (m1 t s.heap l1).objs.size = s.heap.objs.size + 1 := Heap.size_push ..
  have n2 : (m2 t u s.heap l1 l2).objs.size = s.heap.objs.size + 2 := by rw [Heap.size_push, n1]
  have n3 : (m3 t u s.heap l1 l2).objs.size = s.heap.objs.size + 3 := by rw [Heap.size_push, n2]
  have n4 : (m4 t u s.heap l1 l2).objs.size = s.heap.objs.size + 4 := by rw [Heap.size_push, n3]
  have n5 : (m5 t u s.heap l1 l2).objs.size = s.heap.objs.size + 5 := by rw [Heap.size_push, n4]
  have q5 : (m5 t u s.heap l1 l2).get? (m4 t u s.heap l1 l2).objs.size = some _ := Heap.get?_push_size _ rfl
  have q4 : (m5 t u s.heap l1 l2).get? (m3 t u s.heap l1 l2).objs.size = some _ := Heap.get?_push_of_some _ (Heap.get?_push_size _ rfl)
  have q3 : (m5 t u s.heap l1 l2).get? (m2 t u s.heap l1 l2).objs.size = some _ := Heap.get?_push_of_some _ (Heap.get?_push_of_some _ (Heap.get?_push_size _ rfl))
  have q2 : (m5 t u s.heap l1 l2).get? (m1 t s.heap l1).objs.size = some _ := Heap.get?_push_of_some _ (Heap.get?_push_of_some _ (Heap.get?_push_of_some _ (Heap.get?_push_size _ rfl)))
  have q1 : (m5 t u s.heap l1 l2).get? s.heap.objs.size = some _ := Heap.get?_push_of_some _ (Heap.get?_push_of_some _ (Heap.get?_push_of_some _ (Heap.get?_push_of_some _ (Heap.get?_push_size _ rfl))))
  show _ ∧ _
  rw [n2, n3, n4] at q5
  rw [n1, n2] at q3
  rw [n3] at q4
  rw [n1] at q2
  rw [n4]
  exact ⟨⟨_, q5, rfl⟩, h _ q5 q3 q4 (run0 q1) (run0 q2) n5 fun c o x => Heap.get?_push_of_some _ (Heap.get?_push_of_some _ (Heap.get?_push_of_some _ (Heap.get?_push_of_some _ (Heap.get?_push_of_some _ x))))⟩
end
/-! the walk over the layer -/
def Sq (t : Bool) (K : PySem.W.Frag) (H : Hp) (a : Addr) (xs : List V) : Prop := if t = true then SqT K H a xs else SqL K H a xs
section
variable {X : Cx} {pins : List (Addr × Obj)} {σ : L2.St} {H : Hp} {s : Shared}
theorem Sq.get {t : Bool} {a : Addr} {xs : List V} (I : Inv X pins σ H s) (h : Sq t X.K H a xs) : ∃ its, Vals xs its ∧ Src t s.heap a its.toArray ∧ a < s.heap.objs.size := by
  cases t with
  | true =>
    obtain ⟨its, rv, p, _⟩ := I.tuple (show SqT X.K H a xs from h)
    obtain ⟨o, ho, _⟩ := id p
    exact ⟨its, rv, p, Heap.lt_size ho⟩
  | false =>
    obtain ⟨its, rv, p, _⟩ := I.list (show SqL X.K H a xs from h)
    exact ⟨its, rv, p.isList, p.lt⟩
theorem Sq.inj {t : Bool} {a : Addr} {xs ys : List V} (I : Inv X pins σ H s) (h : Sq t X.K H a xs) (h' : Sq t X.K H a ys) : xs = ys := by
  cases t with
  | true => exact I.tuple_inj h h'
  | false => exact I.list_inj h h'
end
def Itm (t u : Bool) (K : PySem.W.Frag) (a b : Addr) : It :=
  ⟨fun i H => ∃ (xs ys : List V) (x y : V), Sq t K H a xs ∧ Sq u K H b ys ∧ xs[i]? = some x ∧ ys[i]? = some y,
    fun i H v H' => ∃ T x y, v = .ref T ∧ H T = none ∧ H' = upd H T (.tup [x, y]) ∧ (∀ xs, Sq t K H a xs → xs[i]? = some x) ∧ ∀ ys, Sq u K H b ys → ys[i]? = some y,
    fun i H => ∃ xs ys : List V, Sq t K H a xs ∧ Sq u K H b ys ∧ (xs.length ≤ i ∨ ys.length ≤ i)⟩
theorem turn {P : Program} {w : World} {K : PySem.W.Frag} {elts : List Expr} {kk : Nat} {tpos : Pos} {t u : Bool} {a b z TI TO i1 i2 : Addr} (D : ZipApart z TI TO i1 i2 a b) :
    Turn P w K (.Tuple elts kk tpos) (Itm t u K a b) [z, TI, TO, i1, i2] z (fun i h => IsZip h z TI TO .none ∧ IsPair h TI (.ref i1) (.ref i2) ∧ (∃ x y, IsPair h TO x y) ∧ Run t h i1 a i ∧ Run u h i2 b i) where
  mem := by simp
  obj := fun i h st c hc => by
    obtain ⟨hz, hTI, ⟨x, y, hTO⟩, r1, r2⟩ := st
    obtain ⟨o1, f1, e1, d1⟩ := r1.obj
    obtain ⟨o2, f2, e2, d2⟩ := r2.obj
    simp only [List.mem_cons, List.not_mem_nil, or_false] at hc
    rcases hc with q | q | q | q | q
    · rw [q]; exact ⟨_, hz, fun v q => nomatch q⟩
    · rw [q]; exact ⟨_, hTI, fun v q => nomatch q⟩
    · rw [q]; exact ⟨_, hTO, fun v q => nomatch q⟩
    · rw [q]; exact ⟨o1, e1, fun v q => by rw [d1] at q; cases q⟩
    · rw [q]; exact ⟨o2, e2, fun v q => by rw [d2] at q; cases q⟩
  keep := fun i h h' st k => by
    obtain ⟨hz, hTI, ⟨x, y, hTO⟩, h1, h2⟩ := st
    exact ⟨k z (by simp) _ hz, k TI (by simp) _ hTI, ⟨x, y, k TO (by simp) _ hTO⟩, h1.to fun o q => k i1 (by simp) o q, h2.to fun o q => k i2 (by simp) o q⟩
  item := by
    intro X hP hw hK hc i pins s σ H E I hf st hg
    subst hP hw hK
    obtain ⟨hz, hTI, ⟨x0, y0, hTO⟩, h1, h2⟩ := st
    obtain ⟨xs, ys, x, y, hqx, hqy, hx, hy⟩ := hg
    obtain ⟨its, rv, p, _⟩ := hqx.get I
    obtain ⟨its2, rv2, p2, _⟩ := hqy.get I
    obtain ⟨v1, hu, ru⟩ := rv.get hx
    obtain ⟨v2, hu2, ru2⟩ := rv2.get hy
    have zl : z < s.heap.objs.size := Heap.lt_size hz
    refine py_item D hz hTI hTO h1 h2 p p2 (x := v1) (y := v2) (by simpa using hu) (by simpa using hu2) fun h' z' TO' h1' h2' hT hsz hk => ?_
    refine ⟨_, rfl, wpAny_letOwnedTupleGo_zip (s := { s with heap := h' }) z' fun h'' z'' sb => ?_⟩
    have hT2 : h''.get? s.heap.objs.size = some { cls := .type "tuple", data := .seq #[v1, v2] } := (sb.2 _ (Nat.ne_of_gt zl)).trans hT
    have new : ObjOk X.prog X.w (upd H s.heap.objs.size (.tup [x, y])) h'' s.heap.objs.size (.tup [x, y]) := ⟨by show 2 ≤ sizeLine; decide, [v1, v2], .cons ru (.cons ru2 .nil), ⟨_, hT2, rfl, _, rfl⟩⟩
    have I1 : Inv X pins σ (upd H s.heap.objs.size (.tup [x, y])) { s with heap := h'' } := I.turnedNew (t' := s.toks) (ch := [z, TI, TO, i1, i2])
      (fun c o hb q => (sb.2 c (fun q' => hb (by simp [q']))).trans (hk c o (fun q' => hb (by simp [q'])) (fun q' => hb (by simp [q'])) (fun q' => hb (by simp [q'])) (fun q' => hb (by simp [q'])) q)) hf (Nat.le_refl _) new
    refine ⟨.ref s.heap.objs.size, _, I1, rfl, ⟨_, x, y, rfl, I.hok.fresh (Nat.le_refl _), rfl, fun l hl => by rw [hl.inj I hqx]; exact hx, fun l hl => by rw [hl.inj I hqy]; exact hy⟩, ⟨z'', ?_, ⟨v1, v2, ?_⟩, ?_, ?_⟩, fun c hcm => ?_⟩
    · exact (sb.2 _ D.TIz).trans (hk _ _ D.TIz D.TITO D.TIi1 D.TIi2 hTI)
    · exact (sb.2 _ D.TOz).trans TO'
    · exact h1'.to fun o q => (sb.2 _ D.i1z).trans q
    · exact h2'.to fun o q => (sb.2 _ D.i2z).trans q
    · have hlt : c < s.heap.objs.size := by
        simp only [List.mem_cons, List.not_mem_nil, or_false] at hcm
        rcases hcm with q | q | q | q | q
        · rw [q]; exact zl
        · rw [q]; exact Heap.lt_size hTI
        · rw [q]; exact Heap.lt_size hTO
        · rw [q]; exact h1.lt
        · rw [q]; exact h2.lt
      rw [upd_ne (Nat.ne_of_lt hlt)]
      exact (hf c hcm).1
  done := by
    intro X hP hw hK hc i pins s σ H E I hf st hg
    subst hP hw hK
    obtain ⟨hz, hTI, ⟨x0, y0, hTO⟩, h1, h2⟩ := st
    obtain ⟨xs, ys, hqx, hqy, hend⟩ := hg
    obtain ⟨its, rv, p, _⟩ := hqx.get I
    obtain ⟨its2, rv2, p2, _⟩ := hqy.get I
    have l1 := rv.length
    have l2 := rv2.length
    have he : its.toArray[i]? = none ∨ its2.toArray[i]? = none := by
      rcases hend with q | q
      · exact .inl (by simp; omega)
      · exact .inr (by simp; omega)
    exact py_end (I.ok.hd hc) D hz hTI hTO h1 h2 p p2 he fun h' hk => ⟨rfl, I.turnedL (t' := s.toks) (ch := [z, TI, TO, i1, i2]) (fun c o hb q =>
      hk c o (fun q' => hb (by simp [q'])) (fun q' => hb (by simp [q'])) (fun q' => hb (by simp [q'])) (fun q' => hb (by simp [q'])) q) hf⟩
  self := fun A i s Q E st h => wpAny_pyIter_zip st.1 h
def iZipM (K : PySem.W.Frag) (ta : TA) : TI := fun σ H R => ta σ H fun vs H1 => ∃ t u a b xs ys, vs = [.ref a, .ref b] ∧ Sq t K H1 a xs ∧ Sq u K H1 b ys ∧ R (Itm t u K a b) H1
theorem pi_zipM {X : Cx} {e e2 : Expr} {ta : TA} {p pos tpos : Pos} {elts : List Expr} {kk : Nat} (hg : Gl X "zip") (hm : X.mg "zip" = none) (ha : PA X [e, e2] ta)
    (hs : starEach [e, e2] X.env = (false, eval e X.env) :: starEach [e2] X.env := by rfl) (hpl : (backTo pos (starEach [e2] X.env)).any (·.1) = false := by rfl) : PI X (.Tuple elts kk tpos) (.Call (.Name "zip" p) [e, e2] [] pos) (iZipM X.K ta) := by
  refine ⟨fun pins s σ H R I h => ?_⟩
  refine Call_ (ld_blt I hg hm PyProof.Rows.boot_zip (PyProof.Rows.callWith_type1 (thn (ha.run pos pins s σ H _ I h) fun us s1 ⟨vs, H1, I1, r1, q1⟩ => ?_) hs hpl))
  obtain ⟨t, u, a, b, xs, ys, ex, hqx, hqy, q⟩ := q1
  subst ex
  cases r1 with
  | cons r rr =>
    cases rr with
    | cons r' rr =>
      cases rr; cases r; cases r'
      obtain ⟨its, rv, p1, la⟩ := hqx.get I1
      obtain ⟨its2, rv2, p2, lb⟩ := hqy.get I1
      refine call_zip p1 p2 fun h' hz hTI hTO h1 h2 hsz hk => wpAny_pyIter_zip hz ?_
      have I2 : Inv X pins σ H1 { s1 with heap := h' } := I1.kept (t' := s1.toks) hk
      refine ⟨s1.heap.objs.size + 4, [s1.heap.objs.size + 4, s1.heap.objs.size + 2, s1.heap.objs.size + 3, s1.heap.objs.size, s1.heap.objs.size + 1], _, _, H1, rfl, I2, turn (PySem.W.ktu_apart s1.heap.objs.size a b la lb), ⟨hz, hTI, ⟨_, _, hTO⟩, h1, h2⟩, fun c hcm => ?_, q⟩
      have hle : s1.heap.objs.size ≤ c := by
        simp only [List.mem_cons, List.not_mem_nil, or_false] at hcm
        rcases hcm with z | z | z | z | z <;> rw [z] <;> first | exact Nat.le_add_right _ _ | exact Nat.le_refl _
      exact I1.fpOk hle (I1.hok.fresh hle)
theorem walk {t u : Bool} {K : PySem.W.Frag} {a b : Addr} {xs ys : List V} {n : Nat} (hn : n = min xs.length ys.length) : Walk (Itm t u K a b) n (fun H => Sq t K H a xs ∧ Sq u K H b ys) (YPair (fun i => xs[i]?) (fun i => ys[i]?)) := by
  subst hn
  refine ⟨fun i _ hi q => ?_, fun _ q => ⟨xs, ys, q.1, q.2, by omega⟩, fun i H v H' _ q y => ?_⟩
  · have h1 : i < xs.length := by omega
    have h2 : i < ys.length := by omega
    exact ⟨xs, ys, xs[i], ys[i], q.1, q.2, by simp [h1], by simp [h2]⟩
  · obtain ⟨T, x, z, h1, h2, h3, h4, h5⟩ := y
    exact ⟨T, x, z, h1, h2, h3, h4 xs q.1, h5 ys q.2⟩
end Zm
namespace Gh
open PySem PySem.Spec PyProof.Rows L2
section
variable {F : Fx} {ρ : List G} {s s1 s2 s3 : Sx} {a b e : Expr} {x y d : D} {xs ys : List D} {pos p : Pos}
theorem rp_sq {K : PySem.W.Frag} {q : Addr} {S : List Addr} {H1 : Hp} {v : V} (r : Rp K q S H1 v x) (hx : x = .lst xs ∨ x = .tup xs) : ∃ (t : Bool) (c : Addr) (vs : List V), v = .ref c ∧ Rps K q S H1 vs xs ∧ Zm.Sq t K H1 c vs ∧ ∀ H2, XT S H1 H2 → Zm.Sq t K H2 c vs := by
  rcases hx with rfl | rfl
  · cases r with
    | lst m h1 h2 => exact ⟨false, _, _, rfl, h2, .inl (.inl h1), fun H2 x2 => .inl (.inl (x2.1 _ _ m h1))⟩
  · cases r with
    | tup h1 h2 =>
      refine ⟨true, _, _, rfl, h2, h1.sq, fun H2 x2 => ?_⟩
      rcases h1 with ⟨m, h1⟩ | h1
      · exact .inl (rd_ext x2 m h1)
      · exact SU.sq (S := []) (.inr h1)
/-- zip of any two of lists and tuples -/
theorem ei_zipM {kk : Nat} {tpos : Pos} {elts : List Expr} (B : Bf F.X.mg) (ha : Ed F ρ s a x s1) (hx : x = .lst xs ∨ x = .tup xs) (hb : Ed F ρ s1 b y s2) (hy : y = .lst ys ∨ y = .tup ys) (hg : Gl F.X "zip" := by rfl) (he : starEach [a, b] F.X.env = (false, eval a F.X.env) :: starEach [b] F.X.env := by rfl)
    (he2 : starEach [b] F.X.env = (false, eval b F.X.env) :: starEach [] F.X.env := by rfl) (hpl : (backTo pos (starEach [b] F.X.env)).any (·.1) = false := by rfl) : Ei F ρ s (.Tuple elts kk tpos) (.Call (.Name "zip" p) [a, b] [] pos) (zipD xs ys) s2 := by
  refine ⟨ha.1.trans hb.1, fun O σ H f R q => wi (Zm.pi_zipM hg B.zip (pa_cons pe_we (pa_cons pe_we pa_nil he2) he) he hpl) (ha.2 O σ H f _ fun v H1 f1 x1 r1 => hb.2 O σ H1 f1 _ fun w H2 f2 x2 r2 => ?_)⟩
  obtain ⟨t, c1, vs, rfl, h2, q1, w1⟩ := rp_sq (r1.ext x2.xt) hx
  obtain ⟨u, c2, us, rfl, h4, q2, w2⟩ := rp_sq r2 hy
  refine ⟨t, u, c1, c2, vs, us, rfl, q1, q2, q _ _ f2 (x1.trans x2) ?_⟩
  refine (Zm.walk (n := (zipD xs ys).length) (by simp [zipD, h2.length, h4.length])).mono (fun H3 x3 => ⟨w1 H3 x3, w2 H3 x3⟩) fun i H3 z H4 hi x3 y => ?_
  obtain ⟨T, u, t, rfl, n, rfl, e1, e2⟩ := y
  obtain ⟨d1, g1, k1⟩ := h2.getV e1
  obtain ⟨d2, g2, k2⟩ := h4.getV e2
  refine ⟨fun c o h => by rw [upd_ne (ne_of_none h n)]; exact h, .tup [d1, d2], by simp [zipD, List.getElem?_zipWith, g1, g2], fun O' g => ?_⟩
  have nT : T ∉ O' ++ F.S0 := fun m => by
    rcases List.mem_append.mp m with m | m
    · obtain ⟨_, o, ho⟩ := g T m
      rw [n] at ho; cases ho
    · exact f2.fresh (x3.2 T n) (List.mem_append_right _ m)
  exact .tup (.inl ⟨nT, .inl upd_same⟩) (.cons ((rp_later k1 x3 fun a m => (g a m).1).ext (.new n)) (.cons ((rp_later k2 x3 fun a m => (g a m).1).ext (.new n)) .nil))

/-! constants of the module -/
structure Cst (E : En) (x : Str) (d : D) : Prop where
  ok : ∃ v u, E.mg x = some u ∧ RelV v u ∧ ∀ p S H, Rp E.K p S H v d
theorem ed_cst {x : Str} (c : Cst F.en x d) (hg : Gl F.X x := by rfl) (hd : (x == ("__debug__" : Str)) = false := by decide) : Ed F ρ s (.Name x pos) d s := by
  obtain ⟨v, u, h1, h2, h3⟩ := c.ok
  exact ed_glob hg h1 h2 h3 hd
/-- a dict of the module with text keys: what a key stands for, if anything -/
structure Kdt (E : En) (x : Str) (at_ : Str → Option (Option D)) : Prop where
  ok : ∃ d es n, E.mg x = some (.ref d) ∧ KDict E.K E.w d es n ∧ ∀ z o, at_ z = some o → ∃ r, PySem.W.nsIn E.K d z = some r ∧ (match o with
    | none => r = none
    | some y => ∃ u v, r = some u ∧ RelV v u ∧ ∀ p S H, Rp E.K p S H v y)
theorem cp_inKD {x z : Str} {at_ : Str → Option (Option D)} {o : Option D} (k : Kdt F.en x at_) (ha : Ed F ρ s a (.str z) s1) (ho : at_ z = some o) (hg : Gl F.X x := by rfl) (hd : (x == ("__debug__" : Str)) = false := by decide) (hm : behindInMarks .In (.Name x p) = false := by rfl) : Cp F ρ s .In a (.Name x p) o.isSome s1 := by
  obtain ⟨d, es, n, h1, h2, h3⟩ := k.ok
  obtain ⟨r, h4, h5⟩ := h3 z o ho
  have e : r.isSome = o.isSome := by
    cases o with
    | none => rw [h5]; rfl
    | some y => obtain ⟨u, v, e, _⟩ := h5; rw [e]; rfl
  refine cp_of (y := .ref d) (op_in_kd h2) ha (ed_glob (v := .ref d) hg h1 rfl (fun _ _ _ => .ref d) hd) (fun O σ H f v w r1 r2 Q q => ?_) hm
  cases r1; cases r2
  exact ⟨z, r, rfl, rfl, h4, by rw [e]; exact q _ _ f .refl (.bl _)⟩
theorem ed_ixKD {x z : Str} {at_ : Str → Option (Option D)} {y : D} (k : Kdt F.en x at_) (hb : Ed F ρ s b (.str z) s1) (ho : at_ z = some (some y)) (hg : Gl F.X x := by rfl) (hd : (x == ("__debug__" : Str)) = false := by decide) (hs : PlainIx b := by exact fun _ _ => rfl) : Ed F ρ s (.Subscript (.Name x p) b pos) y s1 := by
  obtain ⟨d, es, n, h1, h2, h3⟩ := k.ok
  obtain ⟨r, h4, u, v, e, hu, hv⟩ := h3 z _ ho
  subst e
  refine ⟨hb.1, fun O σ H f Q q => we (pe_ix ix_kdict (pe_glob (v := .ref d) hg h1 rfl hd) pe_we hs) (hb.2 O σ H f _ fun w H1 f1 x1 r1 => ?_)⟩
  cases r1
  exact ⟨d, z, v, rfl, rfl, ⟨es, n, u, h2.at_, h2.lit, h4, hu⟩, q _ _ f1 x1 (hv _ _ _)⟩
/-! a def as a value, and its call by a local name -/
/-- the name holds the def f of the text -/
structure Hf (E : En) (f : Str) (a : Addr) : Prop where
  mg : E.mg f = some (.ref a)
theorem ed_fun {f : Str} {c : Addr} (h : Hf F.en f c) (hg : Gl F.X f := by rfl) (hd : (f == ("__debug__" : Str)) = false := by decide) : Ed F ρ s (.Name f pos) (.ref c) s := ed_glob (v := .ref c) hg h.mg rfl (fun _ _ _ => .ref c) hd
theorem ed_clL (i : Nat) {x f : Str} {c : Addr} {k : Nat} {es : List Expr} {ds : List D} (h : Hf F.en f c) (hN : F.X.N[i]? = some x) (hv : Vis F.X.env.scope x) (hρ : ρ[i]? = some (.val (.ref c))) (ha : Ea F ρ s (e :: es) ds s1) (hr : Room k F.X.A) (R : Rn F.en k f ds s1 d s2)
    (hdb : (x == ("__debug__" : Str)) = false := by decide) (hcd : (x == ("__classdict__" : Str)) = false := by decide) (he : starEach (e :: es) F.X.env = (false, eval e F.X.env) :: starEach es F.X.env := by rfl) (hpl : (backTo pos (starEach es F.X.env)).any (·.1) = false := by rfl) :
    Ed F ρ s (.Call (.Name x p) (e :: es) [] pos) d s2 := by
  obtain ⟨kd, fa, fd, ps, h1, h2, h3, h4⟩ := R
  obtain rfl : fa = c := by
    have z := h1.symm.trans h.mg
    cases z; rfl
  refine ⟨ha.1.trans kd, fun O σ H fm Q q => we (pe_callL h4 hr hN hv h2 h3 .nil pass0 pa_wa hdb hcd he hpl) ?_⟩
  obtain ⟨o, ho, v, eo, r⟩ := fm.slot i _ hρ
  subst eo
  cases r
  refine ⟨ho, ha.2 O σ H fm _ fun vs H1 f1 x1 r1 => ?_⟩
  rw [List.append_nil]
  refine ⟨F.p, O ++ F.S0, r1, f1.trk, ?_, fun v H2 r2 x2 t2 => ?_⟩
  · have q := f1.st
    cases s1 with
    | none => trivial
    | some ys => exact ⟨List.mem_append_right _ q.1, q.2⟩
  · have t3 : StA F.p F.S0 H2 s2 := by
      have q := f1.st
      cases s2 with
      | none => trivial
      | some ys =>
        cases s1 with
        | none => cases kd
        | some zs => exact ⟨q.1, t2.2⟩
    exact q v H2 (f1.grow x2 kd t3) (x1.trans (x2.xe f1.st f1.kd)) r2
end
end Gh
set_option Elab.async false
set_option linter.all false
set_option maxRecDepth 100000
set_option maxHeartbeats 4000000
namespace Gh
open PySem PySem.Spec PyProof.Rows L2
section
variable {F : Fx} {ρ : List G} {s s1 s2 s3 : Sx} {a b c e : Expr} {es : List Expr} {x y z d : D} {xs ys zs ds : List D} {pos p : Pos} {k : GE}
/-! tuples -/
theorem ed_catT (hl : xs.length + ys.length ≤ sizeLine) (ha : Ed F ρ s a (.tup xs) s1) (hb : Ed F ρ s1 b (.tup ys) s2) : Ed F ρ s (.BinOp a .Add b pos) (.tup (xs ++ ys)) s2 :=
  ed_op op_catA ha hb (fun O σ H f v w r1 r2 Q q => by
    cases r1 with
    | tup h1 h2 =>
      cases r2 with
      | tup h3 h4 =>
        refine ⟨_, _, _, _, rfl, rfl, h1.sq, h3.sq, by rw [h2.length, h4.length]; exact hl, fun z => ?_, fun _ z => ?_, fun _ _ t n => ?_⟩
        · subst z; cases h2; exact q _ _ f .refl (.tup h3 h4)
        · subst z; cases h4; exact q _ _ f .refl (by rw [List.append_nil]; exact .tup h1 h2)
        · exact q _ _ (f.new n) (.new n) (.tup (.inl ⟨f.fresh n, .inl upd_same⟩) ((h2.append h4).ext (.new n))))
theorem ed_sliceT {lo hi : Option Expr} {i j : Option Int} {p2 : Pos} (ha : Ed F ρ s a (.tup xs) s1) (hl : Eo F ρ s1 lo i s2) (hh : Eo F ρ s2 hi j s3) : Ed F ρ s (.Subscript a (.Slice lo hi none p2) pos) (.tup (cutD xs i j)) s3 := by
  have fin : ∀ O σ H H3, Fm F O σ H ρ s → Fm F O σ H3 ρ s3 → XE F H H3 → ∀ v, Rp F.X.K F.p (O ++ F.S0) H3 v (.tup xs) → ∀ Q : VK, (∀ v H', Fm F O σ H' ρ s3 → XE F H H' → Rp F.X.K F.p (O ++ F.S0) H' v (.tup (cutD xs i j)) → Q v H') → rSlA F.X.K v i j H3 Q := by
    intro O σ H H3 f f3 x3 v r Q q
    cases r with
    | tup h1 h2 =>
      refine ⟨_, _, rfl, h1.sq, fun z => q _ _ f3 x3 ?_, fun z t n => q _ _ (f3.new n) (x3.trans (.new n)) (.tup (.inl ⟨f3.fresh n, .inl upd_same⟩) ((rps_cut h2 i j).ext (.new n)))⟩
      have e : cutD xs i j = xs := by
        rw [h2.length] at z
        unfold cutD
        rw [z.1, z.2, List.drop_zero, Nat.sub_zero, List.take_length]
      rw [e]
      exact .tup h1 h2
  cases hl with
  | none =>
    cases hh with
    | none => exact ⟨ha.1, fun O σ H f Q q => we (pe_slice sl_tupA pe_we po_none po_none) (ha.2 O σ H f _ fun v H1 f1 x1 r1 => fin O σ H H1 f f1 x1 v r1 Q q)⟩
    | some hb => exact ⟨ha.1.trans hb.1, fun O σ H f Q q => we (pe_slice sl_tupA pe_we po_none (po_some pe_we)) (ha.2 O σ H f _ fun v H1 f1 x1 r1 => hb.2 O σ H1 f1 _ fun w H2 f2 x2 r2 => by
        cases r2; exact ⟨_, rfl, fin O σ H H2 f f2 (x1.trans x2) v (r1.ext x2.xt) Q q⟩)⟩
  | some hc =>
    cases hh with
    | none => exact ⟨ha.1.trans hc.1, fun O σ H f Q q => we (pe_slice sl_tupA pe_we (po_some pe_we) po_none) (ha.2 O σ H f _ fun v H1 f1 x1 r1 => hc.2 O σ H1 f1 _ fun w H2 f2 x2 r2 => by
        cases r2; exact ⟨_, rfl, fin O σ H H2 f f2 (x1.trans x2) v (r1.ext x2.xt) Q q⟩)⟩
    | some hb => exact ⟨(ha.1.trans hc.1).trans hb.1, fun O σ H f Q q => we (pe_slice sl_tupA pe_we (po_some pe_we) (po_some pe_we)) (ha.2 O σ H f _ fun v H1 f1 x1 r1 => hc.2 O σ H1 f1 _ fun w H2 f2 x2 r2 => by
        cases r2
        exact ⟨_, rfl, hb.2 O σ H2 f2 _ fun w H3 f3 x3 r3 => by cases r3; exact ⟨_, rfl, fin O σ H H3 f f3 ((x1.trans x2).trans x3) v ((r1.ext x2.xt).ext x3.xt) Q q⟩⟩)⟩
/-- a slice of the script -/
theorem el_sliceS {lo hi : Option Expr} {i j : Option Int} {p2 : Pos} {ns : List Int} (ha : Ed F ρ s a (.scr ns) s1) (hl : Eo F ρ s1 lo i s2) (hh : Eo F ρ s2 hi j s3) : El F ρ s (.Subscript a (.Slice lo hi none p2) pos) ((cutD ns i j).map D.int) s3 := by
  have fin : ∀ O σ H H3, Fm F O σ H ρ s → Fm F O σ H3 ρ s3 → XE F H H3 → ∀ v, Rp F.X.K F.p (O ++ F.S0) H3 v (.scr ns) → ∀ Q : VK, (∀ a vs H', Fm F (a :: O) σ H' ρ s3 → XE F H H' → H a = none → H' a = some (.lst vs) → Rps F.X.K F.p (a :: (O ++ F.S0)) H' vs ((cutD ns i j).map D.int) → Q (.ref a) H') → rSlL F.X.K v i j H3 Q := by
    intro O σ H H3 f f3 x3 v r Q q
    cases r with
    | scr h1 =>
      refine ⟨_, _, rfl, h1.sq, fun t n => q t _ _ (f3.newO n) (x3.trans (.new n)) (x3.2 t n) upd_same ?_⟩
      have e : cutV (ns.map V.int) i j = (cutD ns i j).map V.int := by
        unfold cutV cutD
        rw [List.length_map, List.map_take, List.map_drop]
      rw [e]
      exact .ofInts _
  cases hl with
  | none =>
    cases hh with
    | none => exact ⟨ha.1, fun O σ H f Q q => we (pe_slice sl_list pe_we po_none po_none) (ha.2 O σ H f _ fun v H1 f1 x1 r1 => fin O σ H H1 f f1 x1 v r1 Q q)⟩
    | some hb => exact ⟨ha.1.trans hb.1, fun O σ H f Q q => we (pe_slice sl_list pe_we po_none (po_some pe_we)) (ha.2 O σ H f _ fun v H1 f1 x1 r1 => hb.2 O σ H1 f1 _ fun w H2 f2 x2 r2 => by
        cases r2; exact ⟨_, rfl, fin O σ H H2 f f2 (x1.trans x2) v (r1.ext x2.xt) Q q⟩)⟩
  | some hc =>
    cases hh with
    | none => exact ⟨ha.1.trans hc.1, fun O σ H f Q q => we (pe_slice sl_list pe_we (po_some pe_we) po_none) (ha.2 O σ H f _ fun v H1 f1 x1 r1 => hc.2 O σ H1 f1 _ fun w H2 f2 x2 r2 => by
        cases r2; exact ⟨_, rfl, fin O σ H H2 f f2 (x1.trans x2) v (r1.ext x2.xt) Q q⟩)⟩
    | some hb => exact ⟨(ha.1.trans hc.1).trans hb.1, fun O σ H f Q q => we (pe_slice sl_list pe_we (po_some pe_we) (po_some pe_we)) (ha.2 O σ H f _ fun v H1 f1 x1 r1 => hc.2 O σ H1 f1 _ fun w H2 f2 x2 r2 => by
        cases r2
        exact ⟨_, rfl, hb.2 O σ H2 f2 _ fun w H3 f3 x3 r3 => by cases r3; exact ⟨_, rfl, fin O σ H H3 f f3 ((x1.trans x2).trans x3) v ((r1.ext x2.xt).ext x3.xt) Q q⟩⟩)⟩
theorem el_ifT (hc : Et F ρ s c true s1) (ha : El F ρ s1 a ds s2) : El F ρ s (.IfExp c a b pos) ds s2 :=
  ⟨hc.1.trans ha.1, fun O σ H f Q q => we (pe_ifExp pt_wt pe_we pe_we) (hc.2 O σ H f _ fun H1 f1 x1 => iteT (ha.2 O σ H1 f1 _ fun v vs H2 f2 x2 n2 h2 r2 => q v vs H2 f2 (x1.trans x2) (x1.2 v n2) h2 r2))⟩
theorem el_ifF (hc : Et F ρ s c false s1) (hb : El F ρ s1 b ds s2) : El F ρ s (.IfExp c a b pos) ds s2 :=
  ⟨hc.1.trans hb.1, fun O σ H f Q q => we (pe_ifExp pt_wt pe_we pe_we) (hc.2 O σ H f _ fun H1 f1 x1 => iteF (hb.2 O σ H1 f1 _ fun v vs H2 f2 x2 n2 h2 r2 => q v vs H2 f2 (x1.trans x2) (x1.2 v n2) h2 r2))⟩
theorem El.is (h : El F ρ s e xs s1) (z : xs = ys) : El F ρ s e ys s1 := by rw [← z]; exact h
/-- an expression that turns owned lists -/
def Em (F : Fx) (ρ : List G) (s : Sx) (e : Expr) (d : D) (ρ' : List G) (s' : Sx) : Prop :=
  s.isSome = s'.isSome ∧ ∀ O σ H, Fm F O σ H ρ s → ∀ Q : VK, (∀ v H', Fm F O σ H' ρ' s' → XT (O ++ F.S0) H H' → Rp F.X.K F.p (O ++ F.S0) H' v d → Q v H') → WE F.X e σ H Q
theorem Ed.em (h : Ed F ρ s e d s1) : Em F ρ s e d ρ s1 := ⟨h.1, fun O σ H f Q q => h.2 O σ H f Q fun v H' f' x' r' => q v H' f' x'.xt r'⟩
/-- x.pop(e), x owned -/
theorem em_pop (i : Nat) {x : Str} {px pa : Pos} {cpos : Pos} {n : Nat} (hi : F.X.N[i]? = some x) (hv : Vis F.X.env.scope x) (hρ : ρ[i]? = some (.own xs)) (h : Ed F ρ s e (.int n) s1) (hd' : xs[n]? = some d) (hz : xs.length ≤ sizeLine)
    (hd : (x == ("__debug__" : Str)) = false := by decide) (hcd : (x == ("__classdict__" : Str)) = false := by decide) (he : starEach [e] F.X.env = (false, eval e F.X.env) :: starEach [] F.X.env := by rfl)
    (hb : attributeBase (.Name x px) "pop" F.X.env (eval (.Name x px) F.X.env) = eval (.Name x px) F.X.env := by rfl) (hline : (pa.endLine == cpos.line) = true := by rfl) (hpl : (backTo cpos (starEach [] F.X.env)).any (·.1) = false := by rfl)
    (hfew : ((backTo cpos (starEach [e] F.X.env)).all (fun x => !x.1) && (backToKw cpos (keywordEach [] F.X.env)).all (fun x => x.1.isSome) && decide ([e].length + ([] : List Keyword).length + (if ([] : List Keyword).isEmpty then 0 else 1) < 30)) = true := by rfl) :
    Em F ρ s (.Call (.Attribute (.Name x px) "pop" pa) [e] [] cpos) d (ρ.set i (.own (xs.eraseIdx n))) s1 :=
  ⟨h.1, fun O σ H f Q q => we (pe_bm PySem.F.plainAttrs_list PySem.F.slot_list_pop PySem.F.type_list_pop mt_popAt (pe_var hi hv hd hcd) (pa_cons pe_we pa_nil he) hb hfew hline he hpl) (by
    obtain ⟨o, ho, a, vs, eo, m, h1, r⟩ := f.slot i _ hρ
    subst eo
    have na : ¬ (F.act = true ∧ a = F.p ∧ a ∈ F.S0) := fun z => (f.fre a (f.own i xs a hρ ho)).2 z.2.2
    refine ⟨_, ho, .inl ⟨rfl, _, .inl (.inl h1)⟩, h.2 O σ H f _ fun w H1 f1 x1 r1 => ?_⟩
    cases r1
    obtain ⟨v, hv', rv⟩ := r.get hd'
    have hn : n < xs.length := by
      rcases Nat.lt_or_ge n xs.length with h | h
      · exact h
      · rw [List.getElem?_eq_none h] at hd'; cases hd'
    have hl := line63
    refine ⟨a, vs, (n : Int), n, v, rfl, rfl, x1.1 _ _ na h1, by omega, by omega, seqIndex_of (by omega) (by rw [r.length]; omega), hv', ?_⟩
    obtain ⟨f2, x2⟩ := f1.mut hρ ho ((r.ext x1.xt).eraseIdx n)
    exact q v _ f2 (x1.xt.trans x2) ((rv.ext x1.xt).ext x2))⟩
/-- x.append(e), where e may turn owned lists -/
theorem bs_appendM (i : Nat) {x : Str} {px pa : Pos} {cpos : Pos} {ρ1 : List G} (hi : F.X.N[i]? = some x) (hv : Vis F.X.env.scope x) (hρ : ρ[i]? = some (.own xs)) (h : Em F ρ s e d ρ1 s1) (hρ1 : ρ1[i]? = some (.own ys)) (hl : ys.length < sizeLine) (hk : k.nx (ρ1.set i (.own (ys ++ [d]))) s1)
    (hd : (x == ("__debug__" : Str)) = false := by decide) (hcd : (x == ("__classdict__" : Str)) = false := by decide) (he : starEach [e] F.X.env = (false, eval e F.X.env) :: starEach [] F.X.env := by rfl)
    (hb : attributeBase (.Name x px) "append" F.X.env (eval (.Name x px) F.X.env) = eval (.Name x px) F.X.env := by rfl) (hline : (pa.endLine == cpos.line) = true := by rfl) (hpl : (backTo cpos (starEach [] F.X.env)).any (·.1) = false := by rfl)
    (hfew : ((backTo cpos (starEach [e] F.X.env)).all (fun x => !x.1) && (backToKw cpos (keywordEach [] F.X.env)).all (fun x => x.1.isSome) && decide ([e].length + ([] : List Keyword).length + (if ([] : List Keyword).isEmpty then 0 else 1) < 30)) = true := by rfl)
    (hs : swapsWith (.Call (.Attribute (.Name x px) "append" pa) [e] [] cpos) none pos.line F.X.env = pure false := by rfl) : Bs F (.Expr (.Call (.Attribute (.Name x px) "append" pa) [e] [] cpos) pos) ρ s k :=
  fun O σ H f E q => ws (ps_expr (pe_bm PySem.F.plainAttrs_list PySem.F.slot_list_append PySem.F.type_list_append mt_append (pe_var hi hv hd hcd) (pa_cons pe_we pa_nil he) hb hfew hline he hpl) hs) (by
    obtain ⟨o, ho, a, vs, eo, m, h1, r⟩ := f.slot i _ hρ
    subst eo
    refine ⟨_, ho, .inl ⟨rfl, _, .inl (.inl h1)⟩, h.2 O σ H f _ fun w H1 f1 x1 r1 => ?_⟩
    obtain ⟨o', ho', a', vs', eo', m', h1', r'⟩ := f1.slot i _ hρ1
    subst eo'
    have ea : a' = a := by rw [ho] at ho'; cases ho'; rfl
    subst ea
    refine ⟨_, vs', w, rfl, rfl, h1', by rw [r'.length]; exact hl, ?_⟩
    obtain ⟨f2, x2⟩ := f1.mut hρ1 ho (r'.append (.one r1))
    exact q.nx O σ _ _ s1 f2 (.of (x1.trans x2)) hk)
/-- x.extend(e), x owned, e a new list -/
theorem bs_extend (i : Nat) {x : Str} {px pa : Pos} {cpos : Pos} (hi : F.X.N[i]? = some x) (hv : Vis F.X.env.scope x) (hρ : ρ[i]? = some (.own xs)) (h : El F ρ s e ds s1) (hl : xs.length + ds.length ≤ sizeLine) (hk : k.nx (ρ.set i (.own (xs ++ ds))) s1)
    (hd : (x == ("__debug__" : Str)) = false := by decide) (hcd : (x == ("__classdict__" : Str)) = false := by decide) (he : starEach [e] F.X.env = (false, eval e F.X.env) :: starEach [] F.X.env := by rfl)
    (hb : attributeBase (.Name x px) "extend" F.X.env (eval (.Name x px) F.X.env) = eval (.Name x px) F.X.env := by rfl) (hline : (pa.endLine == cpos.line) = true := by rfl) (hpl : (backTo cpos (starEach [] F.X.env)).any (·.1) = false := by rfl)
    (hfew : ((backTo cpos (starEach [e] F.X.env)).all (fun x => !x.1) && (backToKw cpos (keywordEach [] F.X.env)).all (fun x => x.1.isSome) && decide ([e].length + ([] : List Keyword).length + (if ([] : List Keyword).isEmpty then 0 else 1) < 30)) = true := by rfl)
    (hs : swapsWith (.Call (.Attribute (.Name x px) "extend" pa) [e] [] cpos) none pos.line F.X.env = pure false := by rfl) : Bs F (.Expr (.Call (.Attribute (.Name x px) "extend" pa) [e] [] cpos) pos) ρ s k :=
  fun O σ H f E q => ws (ps_expr (pe_bm PySem.F.plainAttrs_list PySem.F.slot_list_extend PySem.F.type_list_extend mt_extend (pe_var hi hv hd hcd) (pa_cons pe_we pa_nil he) hb hfew hline he hpl) hs) (by
    obtain ⟨o, ho, a, vs, eo, m, h1, r⟩ := f.slot i _ hρ
    subst eo
    have na : ¬ (F.act = true ∧ a = F.p ∧ a ∈ F.S0) := fun z => (f.fre a (f.own i xs a hρ ho)).2 z.2.2
    refine ⟨_, ho, .inl ⟨rfl, _, .inl (.inl h1)⟩, h.2 O σ H f _ fun w ws H1 f1 x1 n1 h2 r1 => ?_⟩
    refine ⟨a, w, vs, ws, rfl, rfl, x1.1 _ _ na h1, h2, by rw [r.length, r1.length]; exact hl, ?_⟩
    have f0 := f.drop f1
    obtain ⟨f2, x2⟩ := f0.mut hρ ho ((r.ext x1.xt).append (r1.weak fun b m => List.mem_cons_of_mem _ m))
    exact q.nx O σ _ _ s1 f2 (.of (x1.xt.trans x2)) hk)
/-- a, b, c = e1, e2, e3 -/
theorem bs_par3 (i j l : Nat) {x y z : Str} {px py pz pt : Pos} {kt k2} {pt2 : Pos} {d1 d2 d3 : D} (hc : F.X.calm = true) (hN : F.X.N.Nodup) (hi : F.X.N[i]? = some x) (hj : F.X.N[j]? = some y) (hl : F.X.N[l]? = some z) (hij : i ≠ j) (hil : i ≠ l) (hjl : j ≠ l) (hx : F.X.env.scope.names.lookup x = some .local) (hy : F.X.env.scope.names.lookup y = some .local) (hz : F.X.env.scope.names.lookup z = some .local)
    (ha : Ea F ρ s [a, b, c] [d1, d2, d3] s1) (hk : k.nx (((ρ.set i (.val d1)).set j (.val d2)).set l (.val d3)) s1) (hw : swappedStores [.Tuple [.Name x px, .Name y py, .Name z pz] kt pt] (.Tuple [a, b, c] k2 pt2) F.X.env = pure (some [x, y, z]) := by rfl) (hs : swapsWithSole [.Tuple [.Name x px, .Name y py, .Name z pz] kt pt] (.Tuple [a, b, c] k2 pt2) pos.line F.X.env = pure false := by rfl) :
    Bs F (.Assign [.Tuple [.Name x px, .Name y py, .Name z pz] kt pt] (.Tuple [a, b, c] k2 pt2) pos) ρ s k :=
  fun O σ H f E q => ws (ps_par3 hc hN hi hj hl hij hil hjl hx hy hz pa_wa hw hs) (ha.2 O σ H f _ fun vs H1 f1 x1 r1 => by
    cases r1 with
    | cons r1 r2 =>
      cases r2 with
      | cons r2 r3 =>
        cases r3 with
        | cons r3 r4 =>
          cases r4
          exact ⟨_, _, _, rfl, q.nx O _ H1 _ s1 (((f1.set r1).set r2).set r3) (.of x1.xt) hk⟩)
/-- x[e1] = d, x owned: the target's turn -/
theorem wg_setOwn {O : List Addr} {σ : L2.St} {H : Hp} {v : V} (i : Nat) {x : Str} {px ps : Pos} {ix : Expr} {n : Int} {j : Nat} (f : Fm F O σ H ρ s) (hN : F.X.N[i]? = some x) (hv : Vis F.X.env.scope x) (hρ : ρ[i]? = some (.own xs)) (hi : Ed F ρ s ix (.int n) s) (hj : ixN xs.length n = some j) (r : Rp F.X.K F.p (O ++ F.S0) H v d) {Q : L2.St → Hp → Prop}
    (q : ∀ H', Fm F O σ H' (ρ.set i (.own (xs.set j d))) s → XT (O ++ F.S0) H H' → Q σ H') (hd : (x == ("__debug__" : Str)) = false) (hcd : (x == ("__classdict__" : Str)) = false)
    (ha : ∀ v, assign (.Subscript (.Name x px) ix ps) F.X.env v = (do
      let ov ← holding [v] (eval (.Name x px) F.X.env)
      let iv ← holding [v, ov] (eval ix F.X.env)
      standAt ps
      holding [v, ov, iv] (setItem ov iv v)
      release [v, ov, iv] [])) : WG F.X (.Subscript (.Name x px) ix ps) v σ H Q :=
  wg (pg_sub (pe_var hN hv hd hcd) pe_we set_list ha) (by
    obtain ⟨o, ho, a, vs, eo, m, h1, r'⟩ := f.slot i _ hρ
    subst eo
    have na : ¬ (F.act = true ∧ a = F.p ∧ a ∈ F.S0) := fun z => (f.fre a (f.own i xs a hρ ho)).2 z.2.2
    refine ⟨_, ho, hi.2 O σ H f _ fun w H2 f2 x2 r2 => ?_⟩
    cases r2
    refine ⟨_, vs, n, j, rfl, rfl, x2.1 _ _ na h1, by rw [r'.length]; exact hj, ?_⟩
    obtain ⟨f3, x3⟩ := f2.mut hρ ho ((r'.ext x2.xt).set j (r.ext x2.xt))
    exact q _ f3 (x2.xt.trans x3))
/-- x[i], x[j] = e1, e2, x owned -/
theorem bs_set2Own (i : Nat) {x : Str} {px ps px2 ps2 : Pos} {kk : Nat} {tp : Pos} {ix ix2 : Expr} {n n2 : Int} {j j2 : Nat} {d1 d2 : D} (hc : F.X.calm = true) (hN : F.X.N[i]? = some x) (hv : Vis F.X.env.scope x) (hρ : ρ[i]? = some (.own xs)) (h : Ed F ρ s e (.tup [d1, d2]) s1) (hi : Ed F ρ s1 ix (.int n) s1) (hj : ixN xs.length n = some j)
    (hi2 : Ed F (ρ.set i (.own (xs.set j d1))) s1 ix2 (.int n2) s1) (hj2 : ixN (xs.set j d1).length n2 = some j2) (hk : k.nx (ρ.set i (.own ((xs.set j d1).set j2 d2))) s1)
    (hd : (x == ("__debug__" : Str)) = false := by decide) (hcd : (x == ("__classdict__" : Str)) = false := by decide) (hs : swapsWithSole [.Tuple [.Subscript (.Name x px) ix ps, .Subscript (.Name x px2) ix2 ps2] kk tp] e pos.line F.X.env = pure false := by rfl) (hw : swappedStores [.Tuple [.Subscript (.Name x px) ix ps, .Subscript (.Name x px2) ix2 ps2] kk tp] e F.X.env = pure none := by rfl)
    (h1 : (assignEach [.Tuple [.Subscript (.Name x px) ix ps, .Subscript (.Name x px2) ix2 ps2] kk tp] F.X.env).map (·.2) = [assign (.Tuple [.Subscript (.Name x px) ix ps, .Subscript (.Name x px2) ix2 ps2] kk tp) F.X.env] := by rfl)
    (ha : ∀ v, assign (.Subscript (.Name x px) ix ps) F.X.env v = (do
      let ov ← holding [v] (eval (.Name x px) F.X.env)
      let iv ← holding [v, ov] (eval ix F.X.env)
      standAt ps
      holding [v, ov, iv] (setItem ov iv v)
      release [v, ov, iv] []) := by intro _; rfl)
    (ha2 : ∀ v, assign (.Subscript (.Name x px2) ix2 ps2) F.X.env v = (do
      let ov ← holding [v] (eval (.Name x px2) F.X.env)
      let iv ← holding [v, ov] (eval ix2 F.X.env)
      standAt ps2
      holding [v, ov, iv] (setItem ov iv v)
      release [v, ov, iv] []) := by intro _; rfl)
    (hn : (assignEach [.Subscript (.Name x px) ix ps, .Subscript (.Name x px2) ix2 ps2] F.X.env).length = 2 := by rfl) (hst : (assignEach [.Subscript (.Name x px) ix ps, .Subscript (.Name x px2) ix2 ps2] F.X.env).findIdx? (·.1) = none := by rfl)
    (hs1 : (assignEach [.Subscript (.Name x px) ix ps, .Subscript (.Name x px2) ix2 ps2] F.X.env).map (·.2) = assign (.Subscript (.Name x px) ix ps) F.X.env :: (assignEach [.Subscript (.Name x px2) ix2 ps2] F.X.env).map (·.2) := by rfl)
    (hs2 : (assignEach [.Subscript (.Name x px2) ix2 ps2] F.X.env).map (·.2) = assign (.Subscript (.Name x px2) ix2 ps2) F.X.env :: (assignEach [] F.X.env).map (·.2) := by rfl) : Bs F (.Assign [.Tuple [.Subscript (.Name x px) ix ps, .Subscript (.Name x px2) ix2 ps2] kk tp] e pos) ρ s k :=
  fun O σ H f E q => ws (ps_asg pe_we (pg_tup hc (pgs_cons pg_wg (pgs_cons pg_wg pgs_nil hs2) hs1) hn hst) hs hw h1) (h.2 O σ H f _ fun v H1 f1 x1 r1 => by
    cases r1 with
    | tup q1 q2 =>
      cases q2 with
      | cons q2 q3 =>
        cases q3 with
        | cons q3 q4 =>
          cases q4
          refine ⟨_, _, rfl, q1.sq, rfl, _, _, rfl, wg_setOwn i f1 hN hv hρ hi hj q2 (fun H2 f2 x2 => ⟨_, _, rfl, ?_⟩) hd hcd ha⟩
          have hρ2 : (ρ.set i (.own (xs.set j d1)))[i]? = some (.own (xs.set j d1)) := by
            rw [List.getElem?_set_self]
            rcases Nat.lt_or_ge i ρ.length with z | z
            · exact z
            · rw [List.getElem?_eq_none z] at hρ; cases hρ
          refine wg_setOwn i f2 hN hv hρ2 hi2 hj2 (q3.ext x2) (fun H3 f3 x3 => ⟨rfl, ?_⟩) hd hcd ha2
          rw [List.set_set] at f3
          exact q.nx O σ H3 _ s1 f3 (.of ((x1.xt.trans x2).trans x3)) hk)
end
end Gh
set_option Elab.async false
set_option linter.all false
set_option maxRecDepth 100000
set_option maxHeartbeats 4000000
/-! a stream of draws that a body makes itself -/
namespace Gh
open PySem PySem.Spec PyProof.Rows L2
/-- data that hold no stream, told by its kind alone -/
def D.lone : D → Bool
  | .non => true
  | .bl _ => true
  | .int _ => true
  | .str _ => true
  | .scr _ => true
  | _ => false
theorem Rp.swap {K : PySem.W.Frag} {p q : Addr} {S S' : List Addr} {H : Hp} {v : V} {d : D} (h : Rp K p S H v d) (n : d.lone = true) (w : ∀ a ∈ S', a ∈ S) : Rp K q S' H v d := by
  have h' := h.weak w
  cases h' with
  | non => exact .non
  | bl b => exact .bl b
  | int i => exact .int i
  | str x => exact .str x
  | scr h1 => exact .scr h1
  | _ => cases n
def gKeep : G → G
  | .val d => match d.lone with
    | true => .val d
    | false => .no
  | _ => .no
theorem gKeep_own {g : G} {ds : List D} : gKeep g ≠ .own ds := by
  intro h
  cases g with
  | val e =>
    simp only [gKeep] at h
    cases z : e.lone <;> rw [z] at h <;> cases h
  | _ => cases h
/-- the body's context from there on, where the stream lies at a -/
abbrev Fx.strm (F : Fx) (a : Addr) (O : List Addr) (H : Hp) : Fx := ⟨F.X, H, O ++ F.S0, a, true⟩
section
variable {F : Fx} {ρ : List G} {sts : List Stmt} {k : GE}
theorem slot_keep {K : PySem.W.Frag} {p q : Addr} {S S' : List Addr} {H : Hp} {o : Option V} {g : G} (h : Slot K p S H o g) (w : ∀ a ∈ S', a ∈ S) : Slot K q S' H o (gKeep g) := by
  cases g with
  | no => trivial
  | own ds => trivial
  | val d =>
    simp only [gKeep]
    cases z : d.lone with
    | true =>
      obtain ⟨v, e, r⟩ := h
      exact ⟨v, e, r.swap z w⟩
    | false => trivial
/-- back from the stream's context -/
theorem Fm.back {O O2 : List Addr} {σ σ2 : L2.St} {H H2 : Hp} {ρ2 : List G} {a : Addr} {xs : List Int} {s2 : Sx} (f : Fm F O σ H ρ none) (ma : a ∈ O) (g : Fm (F.strm a O H) O2 σ2 H2 ρ2 s2) : Fm F O σ2 H2 (ρ2.map gKeep) none := by
  have hx : XP F.p none F.H0 H2 := by
    refine ⟨fun b o e _ => ?_, fun b e => f.ext.2 b (g.ext.2 b e)⟩
    refine g.ext.1 b o (f.ext.1 b o e (.inl rfl)) (.inr fun z => ?_)
    rw [z, (f.fre a ma).1] at e
    cases e
  refine ⟨hx, fun i gg h => ?_, fun i ds b h => ?_, fun i j ds es b _ h => ?_, f.fre, fun b m => ?_, trivial, f.kd⟩
  · rw [List.getElem?_map] at h
    cases e : ρ2[i]? with
    | none => rw [e] at h; cases h
    | some g0 =>
      rw [e] at h
      cases h
      obtain ⟨o, ho, sl⟩ := g.slot i g0 e
      exact ⟨o, ho, slot_keep sl fun b m => List.mem_append_right _ m⟩
  · rw [List.getElem?_map] at h
    cases e : ρ2[i]? with
    | none => rw [e] at h; cases h
    | some g0 => rw [e] at h; exact absurd (Option.some.inj h) gKeep_own
  · rw [List.getElem?_map] at h
    cases e : ρ2[i]? with
    | none => rw [e] at h; cases h
    | some g0 => rw [e] at h; exact absurd (Option.some.inj h) gKeep_own
  · exact g.trk b (List.mem_append_right _ m)
theorem bk_stream (i : Nat) {xs : List Int} (ha : F.act = false) (hρ : ρ[i]? = some (.own (xs.map D.int)))
    (h : ∀ a O H, Bk (F.strm a O H) sts ((ρ.map gKeep).set i (.val .mut)) (some xs) ⟨fun ρ2 _ => k.nx (ρ2.map gKeep) none, fun d _ => d.lone = true ∧ k.rt d none, fun ρ2 _ => k.bk (ρ2.map gKeep) none, fun ρ2 _ => k.ct (ρ2.map gKeep) none⟩) : Bk F sts ρ none k := by
  intro O σ H f E q
  obtain ⟨o, ho, a, vs, eo, m, h1, r⟩ := f.slot i _ hρ
  subst eo
  have ma := f.own i _ a hρ ho
  have ev := r.ints
  subst ev
  have hl : i < ρ.length := by
    rcases Nat.lt_or_ge i ρ.length with z | z
    · exact z
    · rw [List.getElem?_eq_none z] at hρ; cases hρ
  have g : Fm (F.strm a O H) [] σ H ((ρ.map gKeep).set i (.val .mut)) (some xs) := by
    refine ⟨.refl, fun j gg hj => ?_, fun j ds b hj => ?_, fun j l ds es b _ hj => ?_, (fun b m => nomatch m), fun b m => f.trk b m, ⟨List.mem_append_left _ ma, h1⟩, rfl⟩
    · by_cases e : i = j
      · subst e
        rw [List.getElem?_set_self (by rw [List.length_map]; exact hl)] at hj
        cases hj
        exact ⟨_, ho, _, rfl, .mut⟩
      · rw [List.getElem?_set_ne e, List.getElem?_map] at hj
        cases e2 : ρ[j]? with
        | none => rw [e2] at hj; cases hj
        | some g0 =>
          rw [e2] at hj
          cases hj
          obtain ⟨o, ho, sl⟩ := f.slot j g0 e2
          exact ⟨o, ho, slot_keep sl fun b m => m⟩
    · by_cases e : i = j
      · subst e
        rw [List.getElem?_set_self (by rw [List.length_map]; exact hl)] at hj
        cases hj
      · rw [List.getElem?_set_ne e, List.getElem?_map] at hj
        cases e2 : ρ[j]? with
        | none => rw [e2] at hj; cases hj
        | some g0 => rw [e2] at hj; exact absurd (Option.some.inj hj) gKeep_own
    · by_cases e : i = j
      · subst e
        rw [List.getElem?_set_self (by rw [List.length_map]; exact hl)] at hj
        cases hj
      · rw [List.getElem?_set_ne e, List.getElem?_map] at hj
        cases e2 : ρ[j]? with
        | none => rw [e2] at hj; cases hj
        | some g0 => rw [e2] at hj; exact absurd (Option.some.inj hj) gKeep_own
  refine h a O H [] σ H g E ⟨fun O2 σ2 H2 ρ2 s2 f2 t2 n2 => ?_, fun v H2 d s2 r2 x2 t2 n2 => ?_, fun O2 σ2 H2 ρ2 s2 f2 t2 n2 => ?_, fun O2 σ2 H2 ρ2 s2 f2 t2 n2 => ?_⟩
  · exact q.nx O σ2 H2 _ none (f.back (xs := xs) ma f2) (.of t2.xt) n2
  · refine q.rt v H2 d none (r2.swap n2.1 fun b m => List.mem_append_right _ m) ?_ trivial n2.2
    refine ⟨fun b o e _ => ?_, fun b e => f.ext.2 b (x2.2 b e)⟩
    refine x2.1 b o (f.ext.1 b o e (.inl rfl)) (.inr fun z => ?_)
    rw [z, (f.fre a ma).1] at e
    cases e
  · exact q.bk O σ2 H2 _ none (f.back (xs := xs) ma f2) (.of t2.xt) n2
  · exact q.ct O σ2 H2 _ none (f.back (xs := xs) ma f2) (.of t2.xt) n2
end
end Gh
set_option Elab.async false
set_option linter.all false
set_option maxRecDepth 100000
set_option maxHeartbeats 4000000
/-! defs that hand back a new list -/
namespace Gh
open PySem PySem.Spec PyProof.Rows L2
def BkL (F : Fx) (sts : List Stmt) (ρ : List G) (s : Sx) (ds : List D) (s' : Sx) : Prop := ∀ O σ H, Fm F O σ H ρ s → ∀ E : Ends,
  (∀ a vs H', F.H0 a = none → a ∉ F.S0 → H' a = some (.lst vs) → Rps F.X.K F.p (a :: F.S0) H' vs ds → XP F.p s' F.H0 H' → StA F.p F.S0 H' s' → E.rt (.ref a) H') → WB F.X sts E σ H
def spL (K : PySem.W.Frag) (ds : List D) (s : Sx) (zs : List D) (s' : Sx) : Sp := fun vs H Q _ => ∃ (p : Addr) (S : List Addr), Rps K p S H vs ds ∧ (∀ a ∈ S, ∃ o, H a = some o) ∧ StA p S H s ∧
  ∀ a ws H', H a = none → H' a = some (.lst ws) → Rps K p (a :: S) H' ws zs → XP p s H H' → StA p S H' s' → Q (.ref a) H'
/-- the def f, called with these data, hands back a new list -/
structure RnL (E : En) (k : Nat) (f : Str) (ds : List D) (s : Sx) (zs : List D) (s' : Sx) : Prop where
  kd : s.isSome = s'.isSome
  ok : ∃ fa fd ps, E.mg f = some (.ref fa) ∧ PySem.W.keepIn E.K (.ref fa) = true ∧ Binds E.K fd ps [] ∧ FnOk E.P E.w E.K E.mg E.base CX0 k fa fd ps (spL E.K ds s zs s')
theorem RnL.mono {E : En} {j k : Nat} {f : Str} {ds zs : List D} {s s' : Sx} (r : RnL E j f ds s zs s') (h : j ≤ k) : RnL E k f ds s zs s' := by
  obtain ⟨kd, fa, fd, ps, h1, h2, h3, h4⟩ := r
  exact ⟨kd, fa, fd, ps, h1, h2, h3, h4.mono h⟩
theorem RnL.is {E : En} {k : Nat} {f : Str} {ds zs zs' : List D} {s s' : Sx} (r : RnL E k f ds s zs s') (h : zs = zs') : RnL E k f ds s zs' s' := h ▸ r
section
variable {F : Fx} {ρ : List G} {s s1 s2 s' : Sx} {e : Expr} {es : List Expr} {st : Stmt} {sts : List Stmt} {ds zs : List D} {pos p : Pos}
theorem Fm.addO {O : List Addr} {σ : L2.St} {H1 H2 : Hp} {a : Addr} {vs : List V} (f : Fm F O σ H1 ρ s1) (x : XP F.p s1 H1 H2) (kd : s1.isSome = s2.isSome) (t : StA F.p F.S0 H2 s2) (n : H1 a = none) (h : H2 a = some (.lst vs)) : Fm F (a :: O) σ H2 ρ s2 := by
  refine (f.newO (vs := vs) n).grow ⟨fun b o e nb => ?_, fun b e => ?_⟩ kd t
  · by_cases z : b = a
    · subst z; rw [upd_same] at e; rw [h]; exact e
    · rw [upd_ne z] at e; exact x.1 b o e nb
  · have z : b ≠ a := fun z => by rw [z, h] at e; cases e
    rw [upd_ne z]; exact x.2 b e
theorem bkl_ret (h : El F ρ s e zs s') : BkL F (.Return (some e) pos :: sts) ρ s zs s' := fun O σ H f E q => wb (pss_cons (ps_ret pe_we) pss_wb) (h.2 O σ H f _ fun a vs H1 f1 x1 n1 h1 r1 => by
  have n0 : F.H0 a = none := f.ext.2 a n1
  exact q a vs H1 n0 (fun m => by
    obtain ⟨o, ho⟩ := f.trk a (List.mem_append_right _ m)
    rw [n1] at ho; cases ho) h1 (r1.weak fun b m => by
      rcases List.mem_cons.mp m with z | z
      · exact z ▸ List.mem_cons_self
      · exact List.mem_cons_of_mem _ (List.mem_append_right _ z)) f1.ext f1.st)
theorem bkl_cons (h1 : Bs F st ρ s { nx := fun ρ' s1 => BkL F sts ρ' s1 zs s', rt := fun _ _ => False }) : BkL F (st :: sts) ρ s zs s' := fun O σ H f E q => wb (pss_cons ps_ws pss_wb) (h1 O σ H f _
  ⟨fun O' σ' H' ρ' s' f' st h' => h' O' σ' H' f' E q, fun _ _ _ _ _ _ _ h => h.elim, fun _ _ _ _ _ _ _ h => h.elim, fun _ _ _ _ _ _ _ h => h.elim⟩)
/-- f(..), a new list -/
theorem el_cl {f : Str} {k : Nat} (ha : Ea F ρ s (e :: es) ds s1) (hr : Room k F.X.A) (R : RnL F.en k f ds s1 zs s2) (hg : Gl F.X f := by rfl) (hdb : (f == ("__debug__" : Str)) = false := by decide)
    (he : starEach (e :: es) F.X.env = (false, eval e F.X.env) :: starEach es F.X.env := by rfl) (hpl : (backTo pos (starEach es F.X.env)).any (·.1) = false := by rfl) : El F ρ s (.Call (.Name f p) (e :: es) [] pos) zs s2 := by
  obtain ⟨kd, fa, fd, ps, h1, h2, h3, h4⟩ := R
  refine ⟨ha.1.trans kd, fun O σ H fm Q q => we (pe_call h4 hr hg h1 h2 h3 .nil pass0 pa_wa hdb he hpl) (ha.2 O σ H fm _ fun vs H1 f1 x1 r1 => ?_)⟩
  rw [List.append_nil]
  refine ⟨F.p, O ++ F.S0, r1, f1.trk, ?_, fun a ws H2 n2 g2 r2 x2 t2 => ?_⟩
  · have q := f1.st
    cases s1 with
    | none => trivial
    | some ys => exact ⟨List.mem_append_right _ q.1, q.2⟩
  · have t3 : StA F.p F.S0 H2 s2 := by
      have q := f1.st
      cases s2 with
      | none => trivial
      | some ys =>
        cases s1 with
        | none => cases kd
        | some zs => exact ⟨q.1, t2.2⟩
    exact q a ws H2 (f1.addO x2 kd t3 n2 g2) (x1.trans (x2.xe f1.st f1.kd)) (x1.2 a n2) g2 r2
end
theorem Df.rnL {E : En} {x : Str} {st : Stmt} {N ps : List Str} {k : Nat} {ds zs : List D} {s s' : Sx} (T : Df E st x ps) (S : FnScope N ps (defScope st)) (kd : s.isSome = s'.isSome) (hl : ds.length = ps.length)
    (body : ∀ (fa : Addr) (cdv : Value) (A : Around) (outer : List Env) (sh : Shared) (H0 : Hp) (EX : XK) (S0 : List Addr) (p : Addr), Room k (bodyF E N x st s fa cdv A outer sh H0 EX S0 p).X.A →
      BkL (bodyF E N x st s fa cdv A outer sh H0 EX S0 p) (defBody st) (gStart N ds) s zs s') : RnL E (k + 1) x ds s zs s' := by
  obtain ⟨fa, fd, F, hm, hb⟩ := T.ok
  refine ⟨kd, fa, fd, ps, hm, F.kp, hb, F.ok S (fun vs H Q EX h => ?_) fun cdv A outer sh H vs Q EX hr h => ?_⟩
  · obtain ⟨p, S, r, _⟩ := h
    rw [r.length, hl]
  · obtain ⟨p, S0, r, tr, t, q⟩ := h
    refine ⟨_, pss_wb, body fa cdv A outer sh H EX S0 p hr [] (L2.start N vs) H (fm_start (F := bodyF E N x st s fa cdv A outer sh H EX S0 p) r tr t rfl) _ fun a ws H' n0 nS h1 r1 x1 t1 => ?_⟩
    exact q a ws H' n0 h1 r1 (x1.kind kd.symm) t1
end Gh
set_option Elab.async false
set_option linter.all false
set_option maxRecDepth 100000
/-! equality of told data -/
namespace Gh
open PySem PySem.Spec PyProof.Rows L2
/-- what == asks, with the depth -/
def eqD (n : Nat) (x : D) : Prop := x.pure = true ∧ x.py.canLay0 = true ∧ x.py.depth ≤ n
def eqDs (n : Nat) (xs : List D) : Prop := D.pures xs = true ∧ PyData.canLayAll0 (D.pys xs) = true ∧ PyData.depthAll (D.pys xs) ≤ n
theorem eqD.eqC {n : Nat} {x : D} (h : eqD n x) (hn : n ≤ 64 := by decide) : x.eqC := ⟨h.1, by unfold SeqAt.shaped; rw [h.2.1, decide_eq_true (Nat.le_trans h.2.2 hn)]; rfl⟩
theorem eqDs.nil {n : Nat} : eqDs n [] := ⟨by unfold D.pures; rfl, by simp [D.pys, PyData.canLayAll0], by simp [D.pys, PyData.depthAll]⟩
theorem eqDs.cons {n : Nat} {x : D} {xs : List D} (h : eqD n x) (hs : eqDs n xs) : eqDs n (x :: xs) := by
  refine ⟨by unfold D.pures; rw [h.1, hs.1]; rfl, ?_, ?_⟩
  · unfold D.pys PyData.canLayAll0; rw [h.2.1, hs.2.1]; rfl
  · unfold D.pys PyData.depthAll; exact Nat.max_le.mpr ⟨h.2.2, hs.2.2⟩
theorem eqDs.of {n : Nat} {xs : List D} (h : ∀ x ∈ xs, eqD n x) : eqDs n xs := by
  induction xs with
  | nil => exact .nil
  | cons x xs ih => exact .cons (h x List.mem_cons_self) (ih fun y m => h y (List.mem_cons_of_mem _ m))
theorem eqDs.tup {n : Nat} {xs : List D} (h : eqDs n xs) : eqD (n + 1) (.tup xs) := ⟨by unfold D.pure; exact h.1, by unfold D.py PyData.canLay0; exact h.2.1, by unfold D.py PyData.depth; exact Nat.succ_le_succ h.2.2⟩
theorem eqDs.lst {n : Nat} {xs : List D} (h : eqDs n xs) : eqD (n + 1) (.lst xs) := ⟨by unfold D.pure; exact h.1, by unfold D.py PyData.canLay0; exact h.2.1, by unfold D.py PyData.depth; exact Nat.succ_le_succ h.2.2⟩
theorem eqD.int {n : Nat} (i : Int) : eqD n (.int i) := ⟨by unfold D.pure; rfl, by simp [D.py, PyData.canLay0], by simp [D.py, PyData.depth]⟩
theorem eqD.bl {n : Nat} (i : Bool) : eqD n (.bl i) := ⟨by unfold D.pure; rfl, by simp [D.py, PyData.canLay0], by simp [D.py, PyData.depth]⟩
theorem eqD.non {n : Nat} : eqD n .non := ⟨by unfold D.pure; rfl, by simp [D.py, PyData.canLay0], by simp [D.py, PyData.depth]⟩
theorem eqD.str {n : Nat} {i : Str} (h : PyData.strOk i = true := by decide +kernel) : eqD n (.str i) := ⟨by unfold D.pure; rfl, by simp [D.py, PyData.canLay0, h], by simp [D.py, PyData.depth]⟩
theorem eqD.mono {m n : Nat} {x : D} (h : eqD m x) (l : m ≤ n) : eqD n x := ⟨h.1, h.2.1, Nat.le_trans h.2.2 l⟩
theorem eqD.fr (q : Rat) : eqD 1 (fr q) := (eqDs.cons (.int _) (.cons (.int _) .nil)).tup
theorem eqD.fm (a b : Rat) : eqD 2 (fm a b) := (eqDs.cons (.fr _) (.cons (.fr _) .nil)).tup
theorem eqD.frs (qs : List Rat) : eqDs 1 (qs.map Gh.fr) := .of fun x m => by
  obtain ⟨q, _, rfl⟩ := List.mem_map.mp m
  exact .fr q
def eqbs : List D → List D → Bool
  | [], [] => true
  | x :: xs, y :: ys => x.eqb y && eqbs xs ys
  | _, _ => false
theorem eqvAll_eqbs : ∀ xs ys : List D, PyData.eqvAll (D.pys xs) (D.pys ys) = eqbs xs ys
  | [], [] => by simp [D.pys, PyData.eqvAll, eqbs]
  | [], _ :: _ => by simp [D.pys, PyData.eqvAll, eqbs]
  | _ :: _, [] => by simp [D.pys, PyData.eqvAll, eqbs]
  | x :: xs, y :: ys => by unfold D.pys PyData.eqvAll eqbs; rw [eqvAll_eqbs xs ys]; rfl
theorem tup_eqb (xs ys : List D) : (D.tup xs).eqb (.tup ys) = eqbs xs ys := by
  rw [← eqvAll_eqbs]; unfold D.eqb D.py PyData.eqv; rfl
theorem lst_eqb (xs ys : List D) : (D.lst xs).eqb (.lst ys) = eqbs xs ys := by
  rw [← eqvAll_eqbs]; unfold D.eqb D.py PyData.eqv; rfl
theorem frs_eqbs : ∀ qs ps : List Rat, eqbs (qs.map fr) (ps.map fr) = decide (qs = ps)
  | [], [] => rfl
  | [], _ :: _ => by simp [eqbs]
  | _ :: _, [] => by simp [eqbs]
  | q :: qs, p :: ps => by
    simp only [List.map_cons, eqbs]
    rw [fr_eqb, frs_eqbs qs ps]
    by_cases h : q = p <;> by_cases h2 : qs = ps <;> simp [h, h2]
theorem fm_str (a b : Rat) (w : Str) : (fm a b).eqb (.str w) = false := by
  simp [D.eqb, fm, D.py, PyData.eqv]
theorem tup_str (xs : List D) (w : Str) : (D.tup xs).eqb (.str w) = false := by
  simp [D.eqb, D.py, PyData.eqv]
theorem int_str (i : Int) (w : Str) : (D.int i).eqb (.str w) = false := by
  simp [D.eqb, D.py, PyData.eqv]
end Gh
set_option Elab.async false
set_option linter.all false
set_option maxRecDepth 100000
set_option maxHeartbeats 4000000
/-! From the head's facts to the ghost layer's. -/
namespace Gh
open PySem PySem.Spec PyProof.Rows L2
theorem fun_of {K : PySem.W.Frag} {x q : Str} {st : Stmt} {f : Addr} {fd : FuncData} (F : FunD K x q (defArgs st) (defBody st) (defScope st) [] [] f fd) : Fun K x q st f fd := by
  obtain ⟨oc, od, dV, kV, doc, pm, an, cdv, ct, osl, rfl, lk, hcd, hD, hK⟩ := F.ex
  rcases hD with ⟨_, rfl⟩ | ⟨e, _⟩
  · exact ⟨⟨oc, od, kV, doc, pm, an, cdv, ct, osl, rfl, lk, hcd⟩, F.kp⟩
  · exact absurd rfl e
/-- a def's datum -/
abbrev dd (x : Str) (st : Stmt) : He.DefD := ⟨(x, none), x, x, defArgs st, defBody st, defScope st, [], []⟩
theorem df_of {E : En} {st : Stmt} {x : Str} {ps : List Str} {h : Heap} (X : E.K.In h) (G : h.Ns mainGlobals E.mg) (hd : ∃ fd, FunD E.K x x (defArgs st) (defBody st) (defScope st) [] [] (He.fAd E.K (x, none)) fd) (hf : (He.Fa.glo x).ok E.K = true)
    (hb : ∀ (kV doc pm : Value) (an : Option Addr) (cdv ct : Value) (us : List Value), us.length = ps.length → bindArgs (PySem.W.fnOf x x (defArgs st) (defBody st) (defScope st) .none kV doc pm an cdv ct) ⟨us, []⟩ = pure (ps.zip us)) : Df E st x ps := by
  obtain ⟨fd, F⟩ := hd
  exact ⟨_, fd, fun_of F, He.glo_ok X G hf, F.bindsN hb⟩
theorem cst_tup {E : En} {x : Str} {h : Heap} {vs : List He.Dv} {ds : List D} (X : E.K.In h) (G : h.Ns mainGlobals E.mg) (hf : (He.Fa.glo x).ok E.K = true) (ht : He.tupB E.K x vs = true)
    (hr : ∀ p S H, Rps E.K p S H (vs.map (He.Dv.v E.K)) ds) : Cst E x (.tup ds) :=
  ⟨.ref (He.ga E.K x), _, He.glo_ok X G hf, rfl, fun p S H => .tup (.inr (He.tupB_ok ht _)) (hr p S H)⟩
theorem cst_str {E : En} {x z : Str} {h : Heap} (X : E.K.In h) (G : h.Ns mainGlobals E.mg) (hf : (He.Fa.str x z).ok E.K = true) : Cst E x (.str z) := by
  obtain ⟨t, e⟩ := He.str_ok X G hf
  exact ⟨.str z, _, e, ⟨t, rfl⟩, fun _ _ _ => .str z⟩
theorem cst_int {E : En} {x : Str} {i : Int} {h : Heap} (X : E.K.In h) (G : h.Ns mainGlobals E.mg) (hf : (He.Fa.int x i).ok E.K = true) : Cst E x (.int i) := by
  obtain ⟨t, e⟩ := He.int_ok X G hf
  exact ⟨.int i, _, e, ⟨t, rfl⟩, fun _ _ _ => .int i⟩
/-- none of these keys is in the table -/
def absB (K : PySem.W.Frag) (a : Addr) (ks : List Str) : Bool := ks.all fun z => match PySem.W.nsIn K a z with
  | some none => true
  | _ => false
theorem absB_ok {K : PySem.W.Frag} {a : Addr} {ks : List Str} (h : absB K a ks = true) {z : Str} (m : z ∈ ks) : PySem.W.nsIn K a z = some none := by
  have h2 := List.all_eq_true.mp h z m
  cases e : PySem.W.nsIn K a z with
  | none => rw [e] at h2; cases h2
  | some r =>
    rw [e] at h2
    cases r with
    | none => rfl
    | some u => cases h2
/-- the law's body, for one script -/
def LawBody (E : En) (N : List Str) (st : Stmt) (k : Nat) (ns : List Int) : Prop := ∀ (fa : Addr) (cdv : Value) (A : Around) (outer : List Env) (sh : Shared) (H0 : Hp) (EX : XK) (S0 : List Addr) (p : Addr), Room k (bodyF E N "law" st none fa cdv A outer sh H0 EX S0 p).X.A →
  Bk (bodyF E N "law" st none fa cdv A outer sh H0 EX S0 p) (defBody st) (gStart N [.scr ns]) none ⟨fun _ t => D.bl true = .non ∧ t = none, fun r t => r = D.bl true ∧ t = none, fun _ _ => False, fun _ _ => False⟩
def spLaw (K : PySem.W.Frag) : Sp := fun vs H Q EX => ∃ ns : List Int, ns.length ≤ 63 ∧ spOf K [.scr ns] none (.bl true) none vs H Q EX
theorem law_ok {E : En} {st : Stmt} {fa : Addr} {fd : FuncData} {N : List Str} {k : Nat} (T : Fun E.K "law" "law" st fa fd) {x : Str} (S : FnScope N [x] (defScope st)) (body : ∀ ns : List Int, ns.length ≤ 63 → LawBody E N st k ns) :
    FnOk E.P E.w E.K E.mg E.base CX0 (k + 1) fa fd [x] (spLaw E.K) := by
  refine T.ok S (fun vs H Q EX h => ?_) fun cdv A outer sh H vs Q EX hr h => ?_
  · obtain ⟨ns, _, p, S, r, _⟩ := h
    rw [r.length]; rfl
  · obtain ⟨ns, hl, p, S0, r, tr, t, q⟩ := h
    refine ⟨_, pss_wb, body ns hl fa cdv A outer sh H EX S0 p hr [] (L2.start N vs) H (fm_start (F := bodyF E N "law" st none fa cdv A outer sh H EX S0 p) r tr t rfl) _ ⟨fun O σ H' ρ t' f st h => ?_, fun v H' r' t' rv xp ta h => ?_, fun O σ H' ρ t' f st h => h.elim, fun O σ H' ρ t' f st h => h.elim⟩⟩
    · cases h.1
    · obtain ⟨rfl, rfl⟩ := h
      exact q v H' rv xp ta
theorem law_in {K : PySem.W.Frag} {H : Hp} {a : Addr} {ns : List Int} (hl : ns.length ≤ 63) (h : SqL K H a (ns.map V.int)) : spLaw K [.ref a] H (fun v _ => v = .bl true) fun _ _ _ => False := by
  refine ⟨ns, hl, 0, [], .cons (.scr ?_) .nil, fun a m => absurd m (by simp), trivial, fun v H' r _ _ => by cases r; rfl⟩
  rcases h with h | h
  · exact .inl ⟨by simp, h⟩
  · exact .inr (.inr h)
end Gh
set_option Elab.async false
set_option linter.all false
set_option maxRecDepth 100000
set_option maxHeartbeats 4000000
namespace Gt
open PySem PySem.Spec PyProof.Rows HT L2
section
variable {prog : Program} {w : World} {A : Around} {E : Value → Shared → Prop} {s : Shared}
theorem adjust_rev (n : Nat) : Builtin.Slice.sliceAdjust none none (-1) (n : Int) = ((n : Int) - 1, -1) := by
  unfold Builtin.Slice.sliceAdjust
  simp
theorem places_rev (n : Nat) : Builtin.Slice.slicePlaces ((n : Int) - 1) (-1) (-1) = n := by
  unfold Builtin.Slice.slicePlaces
  simp
  try omega
theorem pick_rev (xs : List Value) : ((List.range xs.toArray.size).filterMap fun (m : Nat) => xs.toArray[(((xs.toArray.size : Int) - 1) + (m : Int) * (-1)).toNat]?).toArray = xs.reverse.toArray := by
  congr 1
  rw [List.size_toArray]
  have e : ∀ m ∈ List.range xs.length, xs.toArray[(((xs.length : Int) - 1) + (m : Int) * (-1)).toNat]? = xs.reverse[m]? := fun m hm => by
    have hm := List.mem_range.mp hm
    have e1 : (((xs.length : Int) - 1) + (m : Int) * (-1)).toNat = xs.length - 1 - m := by omega
    rw [e1, List.getElem?_reverse hm]
    simp
  have fm : ∀ (f : Nat → Option Value) (l : List Nat), l.filterMap f = (l.map f).filterMap id := fun f l => by rw [List.filterMap_map]; rfl
  rw [fm, List.map_congr_left e, ← fm]
  have g := pick_gen xs.reverse.toArray 0 xs.reverse.length
  have g2 : (fun (m : Nat) => xs.reverse.toArray[(((0 : Nat) : Int) + (m : Int) * 1).toNat]?) = fun m => xs.reverse[m]? := by
    funext m
    have : (((0 : Nat) : Int) + (m : Int) * 1).toNat = m := by omega
    rw [this]; simp
  rw [g2] at g
  have g3 := congrArg Array.toList g
  rw [List.drop_zero] at g3
  simp only [List.length_reverse] at g3
  rw [List.take_of_length_le (by simp)] at g3
  exact g3
theorem sliceApplied_rev {sl : Addr} {vl vu vs : Value} {n : Nat} {Q : Int × Int × Nat → Shared → Prop} (hs : s.heap.IsSliceOf sl vl vu vs) (pl : IsPart vl none) (pu : IsPart vu none) (ps : IsPart vs (some (-1)))
    (h : Q ((n : Int) - 1, -1, n) s) : wpAny (model prog w) A (Builtin.Slice.sliceApplied (.ref sl) (pure (n : Int))) Q E s := by
  obtain ⟨os, hos, hcs, hds⟩ := id hs
  unfold Builtin.Slice.sliceApplied Builtin.Slice.sliceFields
  refine wpAny_bind (wpAny_bind (wpAny_field hos hds (x := vl) rfl (wpAny_bind (wpAny_field hos hds (x := vu) rfl (wpAny_bind (wpAny_field hos hds (x := vs) rfl (wpAny_pure ?_)))))))
  refine wpAny_bind (slicePart_ ps ?_)
  show wpAny _ _ (if ((-1 : Int) == 0) = true then _ else _) _ _ s
  rw [if_neg (by decide)]
  refine wpAny_bind (slicePart_ pl (wpAny_bind (slicePart_ pu (wpAny_bind (wpAny_pure ?_)))))
  show wpAny _ _ (match Builtin.Slice.sliceAdjust none none (-1) (n : Int) with | (lo, hi) => pure (lo, (-1 : Int), Builtin.Slice.slicePlaces lo hi (-1))) _ _ s
  rw [adjust_rev n]
  show wpAny _ _ (pure ((n : Int) - 1, (-1 : Int), Builtin.Slice.slicePlaces ((n : Int) - 1) (-1) (-1))) _ _ s
  rw [places_rev]
  exact wpAny_pure h
theorem getItem_tuple_rev {t sl : Addr} {its : List Value} {vl vu vs : Value} {Q : Value → Shared → Prop} (ht : IsTup s.heap t its.toArray) (hs : s.heap.IsSliceOf sl vl vu vs) (pl : IsPart vl none) (pu : IsPart vu none) (ps : IsPart vs (some (-1)))
    (h : Q (.ref s.heap.objs.size) { s with heap := s.heap.push { cls := .type "tuple", data := .seq its.reverse.toArray } })
    (hsz : its.length ≤ sizeLine) : wpAny (model prog w) A (getItem (.ref t) (.ref sl)) Q E s := by
  have htake : sizeOk (.seq its.reverse.toArray) := by
    show its.reverse.toArray.size ≤ sizeLine
    rw [List.size_toArray, List.length_reverse]
    exact hsz
  obtain ⟨os, hos, hcs, hds⟩ := id hs
  have hTs : s.TypeIs (.ref sl) "slice" := ⟨os, hos, hcs⟩
  unfold getItem
  try with_reducible refine wpAny_holding ?_
  first | refine wpAny_bind (wpAny_pure ?_) | skip
  refine wpAny_bind (wpAny_sequenceKey ht.typeIs (by decide) ?_)
  refine wpAny_bind (wpAny_callSpecial?_slot (name := Str.ofString "__getitem__") ht.typeIs PyProof.Rows.slot_tuple_getitem
    (wpAny_call_entry PyProof.Rows.slot_tuple_getitem ht.typeIs entry_tuple_getitem ?_ (args_tuple_getitem _ _)))
  show wpAny _ _ (Builtin.Tuple.tupleItemsOf (.ref t) >>= _) _ _ s
  refine wpAny_bind (tupleItemsOf_ ht ?_)
  refine wpAny_bind (wpAny_typeOf hTs ?_)
  rw [if_pos (by decide)]
  refine wpAny_bind (sliceApplied_rev hs pl pu ps ?_)
  have hno : ¬ ((((its.toArray.size : Int) - 1) == 0 && (-1 : Int) == 1 && its.toArray.size == its.toArray.size) = true) := by
    intro q
    rw [Bool.and_eq_true, Bool.and_eq_true] at q
    exact absurd q.1.2 (by decide)
  show wpAny _ _ (if (((its.toArray.size : Int) - 1) == 0 && (-1 : Int) == 1 && its.toArray.size == its.toArray.size) = true then _ else _) _ _ s
  rw [if_neg hno, pick_rev]
  first
    | exact wpAny_bind (m := Builtin.Tuple.tupleExact _) (wpAny_newObj_type (wpAny_pure ⟨_, rfl, wpAny_pure h⟩) htake)
    | exact wpAny_bind (m := Builtin.Tuple.tupleExact _) (wpAny_newObj_type (wpAny_bind (wpAny_pure (wpAny_pure ⟨_, rfl, wpAny_pure h⟩))) htake)
    | exact wpAny_bind (wpAny_bind (m := Builtin.Tuple.tupleExact _) (wpAny_newObj_type (wpAny_pure (wpAny_pure ⟨_, rfl, wpAny_pure h⟩)) htake))
    | exact wpAny_bind (wpAny_bind (m := Builtin.Tuple.tupleExact _) (wpAny_newObj_type (wpAny_pure ⟨_, rfl, wpAny_pure h⟩) htake))
end
section
variable {X : Cx}
def tRevT (K : PySem.W.Frag) (te : TE) : TE := fun σ H Q => te σ H fun x H1 => ∃ a xs, x = .ref a ∧ SqT K H1 a xs ∧ ∀ p, H1 p = none → Q (.ref p) (upd H1 p (.tup xs.reverse))
theorem pe_revT {e : Expr} {te : TE} {k : Nat} {p1 p2 p3 pos : Pos} (he : PE X e te) : PE X (.Subscript e (.Slice none none (some (.UnaryOp .USub (.Constant (.int 1) k p1) p2)) p3) pos) (tRevT X.K te) := by
  refine ⟨fun pins s σ H Q I h => ?_⟩
  refine Subscript_ (thn (he.run pins s σ H _ I h) fun v s1 ⟨x, H1, I1, r1, q1⟩ => ?_)
  obtain ⟨a, xs, ex, hx, q⟩ := q1
  subst ex
  cases r1
  have hst : PO X (some (.UnaryOp .USub (.Constant (.int 1) k p1) p2)) (tPart (tUn (rU fun i => .int (-i)) (tC (.int 1)))) := po_some (pe_un un_neg pe_int)
  refine wpAny_Slice (thn (po_none.run pins s1 σ H1 (fun o H2 => o = none ∧ H2 = H1) I1 ⟨rfl, rfl⟩) fun vl s2 ⟨l, H2, I2, pl, el, e2⟩ => ?_)
  subst el e2
  refine thn (po_none.run pins s2 σ H2 (fun o H3 => o = none ∧ H3 = H2) I2 ⟨rfl, rfl⟩) fun vu s3 ⟨u, H3, I3, pu, eu, e3⟩ => ?_
  subst eu e3
  refine thn (hst.run pins s3 σ H3 (fun o H4 => o = some (-1) ∧ H4 = H3) I3 ⟨1, rfl, -1, rfl, rfl, rfl⟩) fun vs s4 ⟨o, H4, I4, ps, eo, e4⟩ => ?_
  subst eo e4
  have I5 : Inv X pins σ H4 { s4 with heap := s4.heap.push { cls := .type "slice", data := .fields #[vl, vu, vs] } } := I4.kept (t' := s4.toks) fun b ob q => Heap.get?_push_of_some _ q
  obtain ⟨its, r, ht, hz⟩ := I5.tuple hx
  have hlen := r.length
  show wpAny (model X.prog X.w) X.A (subscriptTail e (.Slice none none (some (.UnaryOp .USub (.Constant (.int 1) k p1) p2)) p3) (.ref a) (.ref s4.heap.objs.size)) (EP X pins σ Q) X.xe { s4 with heap := s4.heap.push { cls := .type "slice", data := .fields #[vl, vu, vs] } }
  refine tail_any (ops := [.ref a, .ref s4.heap.objs.size]) ht.typeIs (PyProof.Rows.slot_tuple_getitem.lookup) ?_ (by with_unfolding_all rfl)
  refine getItem_tuple_rev ht (Heap.IsSliceOf.new _ vl vu vs) pl pu ps ?_ (by omega)
  refine ⟨.ref _, _, I5.laid (t' := s4.toks) (o := .tup xs.reverse) (fun b ob q => Heap.get?_push_of_some _ q) (Nat.le_refl _) ?_, rfl, q _ (I5.hok.fresh (Nat.le_refl _))⟩
  exact ⟨by rw [List.length_reverse]; exact hz, _, r.reverse, IsTup.new _ _⟩
end
end Gt
namespace Gh
open PySem PySem.Spec PyProof.Rows L2
section
variable {F : Fx} {ρ : List G} {s s1 : Sx} {a : Expr} {xs : List D} {pos p p1 p2 p3 : Pos}
theorem ed_revT {k : Nat} (ha : Ed F ρ s a (.tup xs) s1) : Ed F ρ s (.Subscript a (.Slice none none (some (.UnaryOp .USub (.Constant (.int 1) k p1) p2)) p3) pos) (.tup xs.reverse) s1 :=
  ⟨ha.1, fun O σ H f Q q => we (Gt.pe_revT pe_we) (ha.2 O σ H f _ fun v H1 f1 x1 r1 => by
    cases r1 with
    | tup h1 h2 => exact ⟨_, _, rfl, h1.sq, fun t n => q _ _ (f1.new n) (x1.trans (.new n)) (.tup (.inl ⟨f1.fresh n, .inl upd_same⟩) (h2.reverse.ext (.new n)))⟩)⟩
/-- {} -/
theorem ed_emp : Ed F ρ s (.Dict [] [] pos) .emp s :=
  ⟨rfl, fun O σ H f Q q => we pe_dnewK (fun t n => q _ _ (f.new n) (.new n) (.emp (f.fresh n) upd_same))⟩
end
end Gh
set_option Elab.async false
set_option linter.all false
set_option maxRecDepth 100000
set_option maxHeartbeats 4000000
namespace Law
open PySem PySem.Spec PyProof.Rows L2 Gh
def top (i : Nat) : Stmt := PySem.Challenge.pw_pagefall_k38_whole_across.main.body.getD i (.Pass ⟨0, 0, 0, 0⟩)
abbrev t_is_list : Stmt := top 3
theorem sc_is_list : FnScope ["thing"] ["thing"] (defScope t_is_list) := ⟨rfl, rfl, rfl, by decide +kernel, rfl, by decide +kernel, by decide +kernel⟩
abbrev t_is_whole : Stmt := top 4
theorem sc_is_whole : FnScope ["thing"] ["thing"] (defScope t_is_whole) := ⟨rfl, rfl, rfl, by decide +kernel, rfl, by decide +kernel, by decide +kernel⟩
abbrev t_is_natural : Stmt := top 5
theorem sc_is_natural : FnScope ["thing"] ["thing"] (defScope t_is_natural) := ⟨rfl, rfl, rfl, by decide +kernel, rfl, by decide +kernel, by decide +kernel⟩
abbrev t_is_word : Stmt := top 6
theorem sc_is_word : FnScope ["thing", "sign"] ["thing"] (defScope t_is_word) := ⟨rfl, rfl, rfl, by decide +kernel, rfl, by decide +kernel, by decide +kernel⟩
abbrev t_lowest : Stmt := top 7
theorem sc_lowest : FnScope ["top", "bottom", "one", "two"] ["top", "bottom"] (defScope t_lowest) := ⟨rfl, rfl, rfl, by decide +kernel, rfl, by decide +kernel, by decide +kernel⟩
abbrev t_is_frac : Stmt := top 8
theorem sc_is_frac : FnScope ["thing"] ["thing"] (defScope t_is_frac) := ⟨rfl, rfl, rfl, by decide +kernel, rfl, by decide +kernel, by decide +kernel⟩
abbrev t_frac_of : Stmt := top 9
theorem sc_frac_of : FnScope ["thing"] ["thing"] (defScope t_frac_of) := ⟨rfl, rfl, rfl, by decide +kernel, rfl, by decide +kernel, by decide +kernel⟩
abbrev t_is_width : Stmt := top 10
theorem sc_is_width : FnScope ["thing"] ["thing"] (defScope t_is_width) := ⟨rfl, rfl, rfl, by decide +kernel, rfl, by decide +kernel, by decide +kernel⟩
abbrev t_plus : Stmt := top 11
theorem sc_plus : FnScope ["one", "two"] ["one", "two"] (defScope t_plus) := ⟨rfl, rfl, rfl, by decide +kernel, rfl, by decide +kernel, by decide +kernel⟩
abbrev t_minus : Stmt := top 12
theorem sc_minus : FnScope ["one", "two"] ["one", "two"] (defScope t_minus) := ⟨rfl, rfl, rfl, by decide +kernel, rfl, by decide +kernel, by decide +kernel⟩
abbrev t_times : Stmt := top 13
theorem sc_times : FnScope ["one", "two"] ["one", "two"] (defScope t_times) := ⟨rfl, rfl, rfl, by decide +kernel, rfl, by decide +kernel, by decide +kernel⟩
abbrev t_is_upto : Stmt := top 14
theorem sc_is_upto : FnScope ["one", "two"] ["one", "two"] (defScope t_is_upto) := ⟨rfl, rfl, rfl, by decide +kernel, rfl, by decide +kernel, by decide +kernel⟩
abbrev t_flat_form : Stmt := top 21
theorem sc_flat_form : FnScope ["fraction"] ["fraction"] (defScope t_flat_form) := ⟨rfl, rfl, rfl, by decide +kernel, rfl, by decide +kernel, by decide +kernel⟩
abbrev t_plus_form : Stmt := top 22
theorem sc_plus_form : FnScope ["one", "other"] ["one", "other"] (defScope t_plus_form) := ⟨rfl, rfl, rfl, by decide +kernel, rfl, by decide +kernel, by decide +kernel⟩
abbrev t_minus_form : Stmt := top 23
theorem sc_minus_form : FnScope ["one", "other"] ["one", "other"] (defScope t_minus_form) := ⟨rfl, rfl, rfl, by decide +kernel, rfl, by decide +kernel, by decide +kernel⟩
abbrev t_scaled_form : Stmt := top 24
theorem sc_scaled_form : FnScope ["form", "share"] ["form", "share"] (defScope t_scaled_form) := ⟨rfl, rfl, rfl, by decide +kernel, rfl, by decide +kernel, by decide +kernel⟩
abbrev t_plain_ask : Stmt := top 25
theorem sc_plain_ask : FnScope ["one", "other"] ["one", "other"] (defScope t_plain_ask) := ⟨rfl, rfl, rfl, by decide +kernel, rfl, by decide +kernel, by decide +kernel⟩
abbrev t_is_tagged : Stmt := top 29
theorem sc_is_tagged : FnScope ["thing", "tag"] ["thing", "tag"] (defScope t_is_tagged) := ⟨rfl, rfl, rfl, by decide +kernel, rfl, by decide +kernel, by decide +kernel⟩
abbrev t_is_length : Stmt := top 30
theorem sc_is_length : FnScope ["thing"] ["thing"] (defScope t_is_length) := ⟨rfl, rfl, rfl, by decide +kernel, rfl, by decide +kernel, by decide +kernel⟩
abbrev t_is_letter_sign : Stmt := top 31
theorem sc_is_letter_sign : FnScope ["thing"] ["thing"] (defScope t_is_letter_sign) := ⟨rfl, rfl, rfl, by decide +kernel, rfl, by decide +kernel, by decide +kernel⟩
abbrev t_is_spot : Stmt := top 32
theorem sc_is_spot : FnScope ["thing"] ["thing"] (defScope t_is_spot) := ⟨rfl, rfl, rfl, by decide +kernel, rfl, by decide +kernel, by decide +kernel⟩
abbrev t_is_told_word : Stmt := top 33
theorem sc_is_told_word : FnScope ["thing", "word"] ["thing", "word"] (defScope t_is_told_word) := ⟨rfl, rfl, rfl, by decide +kernel, rfl, by decide +kernel, by decide +kernel⟩
abbrev t_is_size : Stmt := top 34
theorem sc_is_size : FnScope ["thing"] ["thing"] (defScope t_is_size) := ⟨rfl, rfl, rfl, by decide +kernel, rfl, by decide +kernel, by decide +kernel⟩
abbrev t_is_plain_value : Stmt := top 35
theorem sc_is_plain_value : FnScope ["word", "value"] ["word", "value"] (defScope t_is_plain_value) := ⟨rfl, rfl, rfl, by decide +kernel, rfl, by decide +kernel, by decide +kernel⟩
abbrev t_checked_told : Stmt := top 40
theorem sc_checked_told : FnScope ["thing", "word", "value"] ["thing"] (defScope t_checked_told) := ⟨rfl, rfl, rfl, by decide +kernel, rfl, by decide +kernel, by decide +kernel⟩
abbrev t_length_form : Stmt := top 41
theorem sc_length_form : FnScope ["length", "room"] ["length", "room"] (defScope t_length_form) := ⟨rfl, rfl, rfl, by decide +kernel, rfl, by decide +kernel, by decide +kernel⟩
abbrev t_told_forms : Stmt := top 42
theorem sc_told_forms : FnScope ["told", "room", "length"] ["told", "room"] (defScope t_told_forms) := ⟨rfl, rfl, rfl, by decide +kernel, rfl, by decide +kernel, by decide +kernel⟩
abbrev t_held_form : Stmt := top 43
theorem sc_held_form : FnScope ["form", "least", "most", "ask", "found"] ["form", "least", "most", "ask"] (defScope t_held_form) := ⟨rfl, rfl, rfl, by decide +kernel, rfl, by decide +kernel, by decide +kernel⟩
abbrev t_margin_form : Stmt := top 44
theorem sc_margin_form : FnScope ["margin"] ["margin"] (defScope t_margin_form) := ⟨rfl, rfl, rfl, by decide +kernel, rfl, by decide +kernel, by decide +kernel⟩
abbrev t_across_forms : Stmt := top 45
theorem sc_across_forms : FnScope ["told", "room", "ask", "width", "least", "most", "mleft", "mright", "near", "far", "left", "rest", "free", "kept", "spare", "right"] ["told", "room", "ask"] (defScope t_across_forms) := ⟨rfl, rfl, rfl, by decide +kernel, rfl, by decide +kernel, by decide +kernel⟩
abbrev t_forms_in : Stmt := top 46
theorem sc_forms_in : FnScope ["told", "room", "ask"] ["told", "room", "ask"] (defScope t_forms_in) := ⟨rfl, rfl, rfl, by decide +kernel, rfl, by decide +kernel, by decide +kernel⟩
abbrev t_across_of : Stmt := top 47
theorem sc_across_of : FnScope ["told", "room", "held", "form"] ["told", "room"] (defScope t_across_of) := ⟨rfl, rfl, rfl, by decide +kernel, rfl, by decide +kernel, by decide +kernel⟩
abbrev t_is_across : Stmt := top 48
theorem sc_is_across : FnScope ["told", "room", "thing", "due", "one"] ["told", "room", "thing"] (defScope t_is_across) := ⟨rfl, rfl, rfl, by decide +kernel, rfl, by decide +kernel, by decide +kernel⟩
abbrev t__law_source : Stmt := top 50
theorem sc__law_source : FnScope ["_law_script", "_law_place", "_law_cell", "_law_seed", "_law_other"] ["_law_script", "_law_place"] (defScope t__law_source) := ⟨rfl, rfl, rfl, by decide +kernel, rfl, by decide +kernel, by decide +kernel⟩
abbrev t__law_draw : Stmt := top 51
theorem sc__law_draw : FnScope ["_law_draws", "_law_many", "_law_found", "_law_seed"] ["_law_draws", "_law_many"] (defScope t__law_draw) := ⟨rfl, rfl, rfl, by decide +kernel, rfl, by decide +kernel, by decide +kernel⟩
abbrev t__law_pick : Stmt := top 52
theorem sc__law_pick : FnScope ["_law_draws", "_law_some"] ["_law_draws", "_law_some"] (defScope t__law_pick) := ⟨rfl, rfl, rfl, by decide +kernel, rfl, by decide +kernel, by decide +kernel⟩
abbrev t__law_mixed : Stmt := top 53
theorem sc__law_mixed : FnScope ["_law_draws", "_law_some", "_law_rest", "_law_found"] ["_law_draws", "_law_some"] (defScope t__law_mixed) := ⟨rfl, rfl, rfl, by decide +kernel, rfl, by decide +kernel, by decide +kernel⟩
abbrev t__law_same : Stmt := top 54
theorem sc__law_same : FnScope ["_law_found", "_law_due", "_law_x", "_law_y"] ["_law_found", "_law_due"] (defScope t__law_same) := ⟨rfl, rfl, rfl, by decide +kernel, rfl, by decide +kernel, by decide +kernel⟩
abbrev t__law_lowest : Stmt := top 55
theorem sc__law_lowest : FnScope ["_law_top", "_law_bottom", "_law_one", "_law_other"] ["_law_top", "_law_bottom"] (defScope t__law_lowest) := ⟨rfl, rfl, rfl, by decide +kernel, rfl, by decide +kernel, by decide +kernel⟩
abbrev t__law_plus : Stmt := top 56
theorem sc__law_plus : FnScope ["_law_one", "_law_other"] ["_law_one", "_law_other"] (defScope t__law_plus) := ⟨rfl, rfl, rfl, by decide +kernel, rfl, by decide +kernel, by decide +kernel⟩
abbrev t__law_minus : Stmt := top 57
theorem sc__law_minus : FnScope ["_law_one", "_law_other"] ["_law_one", "_law_other"] (defScope t__law_minus) := ⟨rfl, rfl, rfl, by decide +kernel, rfl, by decide +kernel, by decide +kernel⟩
abbrev t__law_times : Stmt := top 58
theorem sc__law_times : FnScope ["_law_one", "_law_other"] ["_law_one", "_law_other"] (defScope t__law_times) := ⟨rfl, rfl, rfl, by decide +kernel, rfl, by decide +kernel, by decide +kernel⟩
abbrev t__law_over : Stmt := top 59
theorem sc__law_over : FnScope ["_law_one", "_law_other", "_law_sign"] ["_law_one", "_law_other"] (defScope t__law_over) := ⟨rfl, rfl, rfl, by decide +kernel, rfl, by decide +kernel, by decide +kernel⟩
abbrev t__law_less : Stmt := top 60
theorem sc__law_less : FnScope ["_law_one", "_law_other"] ["_law_one", "_law_other"] (defScope t__law_less) := ⟨rfl, rfl, rfl, by decide +kernel, rfl, by decide +kernel, by decide +kernel⟩
abbrev t__law_sorted : Stmt := top 61
theorem sc__law_sorted : FnScope ["_law_fractions", "_law_found", "_law_one", "_law_place", "_law_other"] ["_law_fractions"] (defScope t__law_sorted) := ⟨rfl, rfl, rfl, by decide +kernel, rfl, by decide +kernel, by decide +kernel⟩
abbrev t__law_length : Stmt := top 62
theorem sc__law_length : FnScope ["_law_draws", "_law_most"] ["_law_draws", "_law_most"] (defScope t__law_length) := ⟨rfl, rfl, rfl, by decide +kernel, rfl, by decide +kernel, by decide +kernel⟩
abbrev t__law_told : Stmt := top 63
theorem sc__law_told : FnScope ["_law_draws", "_law_width", "_law_least", "_law_most", "_law_margins", "_law_k", "_law_pads"] ["_law_draws"] (defScope t__law_told) := ⟨rfl, rfl, rfl, by decide +kernel, rfl, by decide +kernel, by decide +kernel⟩
abbrev t__law_handed_told : Stmt := top 64
theorem sc__law_handed_told : FnScope ["_law_draws", "_law_told_here", "_law_found", "_law_one"] ["_law_draws", "_law_told_here"] (defScope t__law_handed_told) := ⟨rfl, rfl, rfl, by decide +kernel, rfl, by decide +kernel, by decide +kernel⟩
abbrev t__law_worth : Stmt := top 65
theorem sc__law_worth : FnScope ["_law_length_here", "_law_room"] ["_law_length_here", "_law_room"] (defScope t__law_worth) := ⟨rfl, rfl, rfl, by decide +kernel, rfl, by decide +kernel, by decide +kernel⟩
abbrev t__law_held : Stmt := top 66
theorem sc__law_held : FnScope ["_law_number", "_law_least", "_law_most", "_law_found"] ["_law_number", "_law_least", "_law_most"] (defScope t__law_held) := ⟨rfl, rfl, rfl, by decide +kernel, rfl, by decide +kernel, by decide +kernel⟩
abbrev t__law_across : Stmt := top 67
theorem sc__law_across : FnScope ["_law_told_here", "_law_room", "_law_width", "_law_least", "_law_most", "_law_mleft", "_law_mright", "_law_pleft", "_law_pright", "_law_left", "_law_near", "_law_far", "_law_rest", "_law_kept", "_law_spare", "_law_right"] ["_law_told_here", "_law_room"] (defScope t__law_across) := ⟨rfl, rfl, rfl, by decide +kernel, rfl, by decide +kernel, by decide +kernel⟩
abbrev t__law_corners : Stmt := top 68
theorem sc__law_corners : FnScope ["_law_told_here", "_law_width", "_law_least", "_law_most", "_law_mleft", "_law_mright", "_law_pleft", "_law_pright", "_law_zero", "_law_one", "_law_near", "_law_length_here", "_law_start", "_law_slope", "_law_forms", "_law_found", "_law_form", "_law_other", "_law_room"] ["_law_told_here"] (defScope t__law_corners) := ⟨rfl, rfl, rfl, by decide +kernel, rfl, by decide +kernel, by decide +kernel⟩
abbrev t__law_rooms : Stmt := top 69
theorem sc__law_rooms : FnScope ["_law_draws", "_law_told_here", "_law_found"] ["_law_draws", "_law_told_here"] (defScope t__law_rooms) := ⟨rfl, rfl, rfl, by decide +kernel, rfl, by decide +kernel, by decide +kernel⟩
abbrev t__law_things : Stmt := top 70
theorem sc__law_things : FnScope ["_law_draws", "_law_due", "_law_at", "_law_found", "_law_one", "_law_odd", "_law_other", "_law_bent"] ["_law_draws", "_law_due"] (defScope t__law_things) := ⟨rfl, rfl, rfl, by decide +kernel, rfl, by decide +kernel, by decide +kernel⟩
abbrev t__law_is_one : Stmt := top 71
theorem sc__law_is_one : FnScope ["_law_due", "_law_thing", "_law_one", "_law_number"] ["_law_due", "_law_thing"] (defScope t__law_is_one) := ⟨rfl, rfl, rfl, by decide +kernel, rfl, by decide +kernel, by decide +kernel⟩
abbrev t_law : Stmt := top 72
theorem sc_law : FnScope ["_law_script", "_law_turn", "_law_draws", "_law_told_here", "_law_room", "_law_due", "_law_times_here", "_law_handed", "_law_far", "_law_whole", "_law_one", "_law_thing"] ["_law_script"] (defScope t_law) := ⟨rfl, rfl, rfl, by decide +kernel, rfl, by decide +kernel, by decide +kernel⟩
/-- what the top has left: each def -/
structure Tx (E : En) : Prop where
  bf : Bf E.mg
  d_is_list : Df E t_is_list "is_list" ["thing"]
  d_is_whole : Df E t_is_whole "is_whole" ["thing"]
  d_is_natural : Df E t_is_natural "is_natural" ["thing"]
  d_is_word : Df E t_is_word "is_word" ["thing"]
  d_lowest : Df E t_lowest "lowest" ["top", "bottom"]
  d_is_frac : Df E t_is_frac "is_frac" ["thing"]
  d_frac_of : Df E t_frac_of "frac_of" ["thing"]
  d_is_width : Df E t_is_width "is_width" ["thing"]
  d_plus : Df E t_plus "plus" ["one", "two"]
  d_minus : Df E t_minus "minus" ["one", "two"]
  d_times : Df E t_times "times" ["one", "two"]
  d_is_upto : Df E t_is_upto "is_upto" ["one", "two"]
  d_flat_form : Df E t_flat_form "flat_form" ["fraction"]
  d_plus_form : Df E t_plus_form "plus_form" ["one", "other"]
  d_minus_form : Df E t_minus_form "minus_form" ["one", "other"]
  d_scaled_form : Df E t_scaled_form "scaled_form" ["form", "share"]
  d_plain_ask : Df E t_plain_ask "plain_ask" ["one", "other"]
  d_is_tagged : Df E t_is_tagged "is_tagged" ["thing", "tag"]
  d_is_length : Df E t_is_length "is_length" ["thing"]
  d_is_letter_sign : Df E t_is_letter_sign "is_letter_sign" ["thing"]
  d_is_spot : Df E t_is_spot "is_spot" ["thing"]
  d_is_told_word : Df E t_is_told_word "is_told_word" ["thing", "word"]
  d_is_size : Df E t_is_size "is_size" ["thing"]
  d_is_plain_value : Df E t_is_plain_value "is_plain_value" ["word", "value"]
  d_checked_told : Df E t_checked_told "checked_told" ["thing"]
  d_length_form : Df E t_length_form "length_form" ["length", "room"]
  d_told_forms : Df E t_told_forms "told_forms" ["told", "room"]
  d_held_form : Df E t_held_form "held_form" ["form", "least", "most", "ask"]
  d_margin_form : Df E t_margin_form "margin_form" ["margin"]
  d_across_forms : Df E t_across_forms "across_forms" ["told", "room", "ask"]
  d_forms_in : Df E t_forms_in "forms_in" ["told", "room", "ask"]
  d_across_of : Df E t_across_of "across_of" ["told", "room"]
  d_is_across : Df E t_is_across "is_across" ["told", "room", "thing"]
  d__law_source : Df E t__law_source "_law_source" ["_law_script", "_law_place"]
  d__law_draw : Df E t__law_draw "_law_draw" ["_law_draws", "_law_many"]
  d__law_pick : Df E t__law_pick "_law_pick" ["_law_draws", "_law_some"]
  d__law_mixed : Df E t__law_mixed "_law_mixed" ["_law_draws", "_law_some"]
  d__law_same : Df E t__law_same "_law_same" ["_law_found", "_law_due"]
  d__law_lowest : Df E t__law_lowest "_law_lowest" ["_law_top", "_law_bottom"]
  d__law_plus : Df E t__law_plus "_law_plus" ["_law_one", "_law_other"]
  d__law_minus : Df E t__law_minus "_law_minus" ["_law_one", "_law_other"]
  d__law_times : Df E t__law_times "_law_times" ["_law_one", "_law_other"]
  d__law_over : Df E t__law_over "_law_over" ["_law_one", "_law_other"]
  d__law_less : Df E t__law_less "_law_less" ["_law_one", "_law_other"]
  d__law_sorted : Df E t__law_sorted "_law_sorted" ["_law_fractions"]
  d__law_length : Df E t__law_length "_law_length" ["_law_draws", "_law_most"]
  d__law_told : Df E t__law_told "_law_told" ["_law_draws"]
  d__law_handed_told : Df E t__law_handed_told "_law_handed_told" ["_law_draws", "_law_told_here"]
  d__law_worth : Df E t__law_worth "_law_worth" ["_law_length_here", "_law_room"]
  d__law_held : Df E t__law_held "_law_held" ["_law_number", "_law_least", "_law_most"]
  d__law_across : Df E t__law_across "_law_across" ["_law_told_here", "_law_room"]
  d__law_corners : Df E t__law_corners "_law_corners" ["_law_told_here"]
  d__law_rooms : Df E t__law_rooms "_law_rooms" ["_law_draws", "_law_told_here"]
  d__law_things : Df E t__law_things "_law_things" ["_law_draws", "_law_due"]
  d__law_is_one : Df E t__law_is_one "_law_is_one" ["_law_due", "_law_thing"]
  d_law : Df E t_law "law" ["_law_script"]
end Law
set_option Elab.async false
set_option linter.all false
set_option maxRecDepth 100000
set_option maxHeartbeats 4000000
namespace Law
open PySem PySem.Spec PyProof.Rows L2 Gh
variable {E : En} {s : Sx}
def isL : Kn → Bool := fun k => [Kn.list, .tuple].any (isK k)
def isW : Kn → Bool := fun k => isK k .int && !isK k .bool
theorem rn_is_list (T : Tx E) {x : D} {k : Kn} (hk : x.kind = some k) : Rn E 1 "is_list" [x] s (.bl (isL k)) s := by
  refine T.d_is_list.rn sc_is_list rfl rfl fun fa cdv A outer sh H0 EX S0 p hr => ?_
  conv => arg 2; whnf
  exact bk_cons (bs_ret (ed_isiT T.bf (ed_var 0 rfl (.inl rfl) rfl) hk (cns_cons (cn_list T.bf) (cns_cons (cn_tuple T.bf) cns_nil))) ⟨rfl, rfl⟩)
theorem rn_is_whole (T : Tx E) {x : D} {k : Kn} (hk : x.kind = some k) : Rn E 1 "is_whole" [x] s (.bl (isW k)) s := by
  refine T.d_is_whole.rn sc_is_whole rfl rfl fun fa cdv A outer sh H0 EX S0 p hr => ?_
  conv => arg 2; whnf
  exact bk_cons (bs_ret (ed_and (ed_isi T.bf (ed_var 0 rfl (.inl rfl) rfl) hk (cn_int T.bf)) fun _ => (ed_one (ed_not (ed_isi T.bf (ed_var 0 rfl (.inl rfl) rfl) hk (cn_bool T.bf))))) ⟨rfl, rfl⟩)
/-- an int from 0 on -/
def isN : D → Bool
  | .int i => decide (0 ≤ i)
  | _ => false
theorem isW_int {x : D} {k : Kn} (hk : x.kind = some k) : isW k = true → ∃ i, x = .int i := by
  cases x <;> cases hk <;> intro h <;> first | exact ⟨_, rfl⟩ | cases h
theorem rn_is_natural (T : Tx E) {x : D} {k : Kn} (hk : x.kind = some k) : Rn E 2 "is_natural" [x] s (.bl (isN x)) s := by
  refine T.d_is_natural.rn sc_is_natural rfl rfl fun fa cdv A outer sh H0 EX S0 p hr => ?_
  conv => arg 2; whnf
  refine bk_cons ?_
  cases e : isW k with
  | true =>
    obtain ⟨i, rfl⟩ := isW_int hk e
    refine bs_ret (ed_andT (ed_cl (ea_cons (ed_var 0 rfl (.inl rfl) rfl) ea_nil) (hr.mono (by decide)) ((rn_is_whole T hk).is (by rw [e]))) (ed_one (cp_ge (ed_var 0 rfl (.inl rfl) rfl) ed_int).ed)) ⟨rfl, rfl⟩
  | false =>
    have e2 : isN x = false := by cases x <;> cases hk <;> first | rfl | cases e
    refine bs_ret (ed_andF (ed_cl (ea_cons (ed_var 0 rfl (.inl rfl) rfl) ea_nil) (hr.mono (by decide)) ((rn_is_whole T hk).is (by rw [e])))) ⟨by rw [e2], rfl⟩
/-- the loop of Euclid, by the frames -/
theorem rn_lowestN (T : Tx E) {t : Int} {b : Nat} (hb : b ≠ 0) (hs : b < 2 ^ 8000) : Rn E 1 "lowest" [.int t, .int b] s (fr (mkRat t b)) s := by
  refine T.d_lowest.rn sc_lowest rfl rfl fun fa cdv A outer sh H0 EX S0 p hr => ?_
  conv => arg 2; whnf
  refine bk_cons (bs_par 2 3 rfl sc_lowest.nd rfl rfl (by decide) rfl rfl (ea_cons (ed_abs T.bf (ed_var 0 rfl (.inl rfl) rfl)) (ea_cons (ed_var 1 rfl (.inl rfl) rfl) ea_nil)) ?_)
  refine bk_cons (bs_while PassesOwn.never (fun ρ s' => s' = s ∧ ∃ x y : Nat, ρ = [.val (.int t), .val (.int b), .val (.int x), .val (.int y)] ∧ Nat.gcd x y = Nat.gcd t.natAbs b) (fun ρ _ => match ρ with | [_, _, _, .val (.int y)] => y.toNat | _ => 0) ⟨rfl, t.natAbs, b, rfl, rfl⟩ ?_)
  rintro ρ s' ⟨rfl, x, y, rfl, g⟩
  refine ⟨_, _, (cp_gt (ed_var 3 rfl (.inl rfl) rfl) ed_int).et, fun h => ?_, fun h => ?_⟩
  · have hy : (0 : Int) < y := of_decide_eq_true h
    refine bk_cons (bs_par 2 3 rfl sc_lowest.nd rfl rfl (by decide) rfl rfl (ea_cons (ed_var 3 rfl (.inl rfl) rfl) (ea_cons (ed_bin (ed_var 2 rfl (.inl rfl) rfl) (ed_var 3 rfl (.inl rfl) rfl) rfl hy) ea_nil)) (bk_nil ?_))
    refine ⟨⟨rfl, y, x % y, ?_, ?_⟩, ?_⟩
    · rfl
    · rw [← g]; exact (gcd_step x y (by omega)).symm
    · show ((x : Int) % (y : Int)).toNat < (y : Int).toNat
      have := Int.emod_lt_of_pos (x : Int) hy
      have := Int.emod_nonneg (x : Int) (by omega : (y : Int) ≠ 0)
      omega
  · have hy : y = 0 := by
      have h1 : ¬ ((0 : Int) < (y : Int)) := of_decide_eq_false h
      omega
    subst hy
    rw [Nat.gcd_zero_right] at g
    have hx : 0 < x := by
      rw [g]; exact Nat.gcd_pos_of_pos_right _ (by omega)
    have hx2 : x < 2 ^ 8000 := Nat.lt_of_le_of_lt (by rw [g]; exact Nat.gcd_le_right _ (by omega)) hs
    have hc : ∀ i : Int, CDivW i x := fun i => wide_div (by omega) (b := 8000) (by rw [Int.natAbs_natCast]; exact hx2) (by decide) (by decide)
    refine bk_cons (bs_ret (ed_tup (ea_cons (ed_bin (ed_var 0 rfl (.inl rfl) rfl) (ed_var 2 rfl (.inl rfl) rfl) rfl (hc t)) (ea_cons (ed_bin (ed_var 1 rfl (.inl rfl) rfl) (ed_var 2 rfl (.inl rfl) rfl) rfl (hc b)) ea_nil))) ⟨?_, rfl⟩)
    unfold fr
    rw [mk_num t b hb, mk_den t b hb, ← g]
theorem rn_lowest (T : Tx E) {t b : Int} (hb : 0 < b) (hs : b.natAbs < 2 ^ 8000) : Rn E 1 "lowest" [.int t, .int b] s (fr (mkRat t b.toNat)) s := by
  obtain ⟨n, rfl⟩ := Int.eq_ofNat_of_zero_le (Int.le_of_lt hb)
  exact rn_lowestN T (by omega) (by simpa using hs)
section
variable {a b : Rat}
theorem rn_plus (T : Tx E) (ha : Sz 3000 a) (hb : Sz 3000 b) : Rn E 2 "plus" [fr a, fr b] s (fr (a + b)) s := by
  refine T.d_plus.rn sc_plus rfl rfl fun fa cdv A outer sh H0 EX S0 p hr => ?_
  conv => arg 2; whnf
  refine bk_cons (bs_ret (ed_cl (ea_cons (ed_bin (ed_bin (ed_ix (ed_var 0 rfl (.inl rfl) rfl) ed_int rfl) (ed_ix (ed_var 1 rfl (.inl rfl) rfl) ed_int rfl) rfl (mulW ha.n hb.d)) (ed_bin (ed_ix (ed_var 1 rfl (.inl rfl) rfl) ed_int rfl) (ed_ix (ed_var 0 rfl (.inl rfl) rfl) ed_int rfl) rfl (mulW hb.n ha.d)) rfl trivial) (ea_cons (ed_bin (ed_ix (ed_var 0 rfl (.inl rfl) rfl) ed_int rfl) (ed_ix (ed_var 1 rfl (.inl rfl) rfl) ed_int rfl) rfl (mulW ha.d hb.d)) ea_nil)) (hr.mono (by decide)) (rn_lowest T (dd_pos a b) (dd_size ha hb))) ⟨?_, rfl⟩)
  rw [dd_nat, add_mk]
theorem rn_minus (T : Tx E) (ha : Sz 3000 a) (hb : Sz 3000 b) : Rn E 2 "minus" [fr a, fr b] s (fr (a - b)) s := by
  refine T.d_minus.rn sc_minus rfl rfl fun fa cdv A outer sh H0 EX S0 p hr => ?_
  conv => arg 2; whnf
  refine bk_cons (bs_ret (ed_cl (ea_cons (ed_bin (ed_bin (ed_ix (ed_var 0 rfl (.inl rfl) rfl) ed_int rfl) (ed_ix (ed_var 1 rfl (.inl rfl) rfl) ed_int rfl) rfl (mulW ha.n hb.d)) (ed_bin (ed_ix (ed_var 1 rfl (.inl rfl) rfl) ed_int rfl) (ed_ix (ed_var 0 rfl (.inl rfl) rfl) ed_int rfl) rfl (mulW hb.n ha.d)) rfl trivial) (ea_cons (ed_bin (ed_ix (ed_var 0 rfl (.inl rfl) rfl) ed_int rfl) (ed_ix (ed_var 1 rfl (.inl rfl) rfl) ed_int rfl) rfl (mulW ha.d hb.d)) ea_nil)) (hr.mono (by decide)) (rn_lowest T (dd_pos a b) (dd_size ha hb))) ⟨?_, rfl⟩)
  rw [dd_nat, sub_mk]
theorem rn_times (T : Tx E) (ha : Sz 3000 a) (hb : Sz 3000 b) : Rn E 2 "times" [fr a, fr b] s (fr (a * b)) s := by
  refine T.d_times.rn sc_times rfl rfl fun fa cdv A outer sh H0 EX S0 p hr => ?_
  conv => arg 2; whnf
  refine bk_cons (bs_ret (ed_cl (ea_cons (ed_bin (ed_ix (ed_var 0 rfl (.inl rfl) rfl) ed_int rfl) (ed_ix (ed_var 1 rfl (.inl rfl) rfl) ed_int rfl) rfl (mulW ha.n hb.n)) (ea_cons (ed_bin (ed_ix (ed_var 0 rfl (.inl rfl) rfl) ed_int rfl) (ed_ix (ed_var 1 rfl (.inl rfl) rfl) ed_int rfl) rfl (mulW ha.d hb.d)) ea_nil)) (hr.mono (by decide)) (rn_lowest T (dd_pos a b) (dd_size ha hb))) ⟨?_, rfl⟩)
  rw [dd_nat, mul_mk]
theorem rn_is_upto (T : Tx E) (ha : Sz 3000 a) (hb : Sz 3000 b) : Rn E 1 "is_upto" [fr a, fr b] s (.bl (decide (a ≤ b))) s := by
  refine T.d_is_upto.rn sc_is_upto rfl rfl fun fa cdv A outer sh H0 EX S0 p hr => ?_
  conv => arg 2; whnf
  refine bk_cons (bs_ret (Cp.ed (cp_le (ed_bin (ed_ix (ed_var 0 rfl (.inl rfl) rfl) ed_int rfl) (ed_ix (ed_var 1 rfl (.inl rfl) rfl) ed_int rfl) rfl (mulW ha.n hb.d)) (ed_bin (ed_ix (ed_var 1 rfl (.inl rfl) rfl) ed_int rfl) (ed_ix (ed_var 0 rfl (.inl rfl) rfl) ed_int rfl) rfl (mulW hb.n ha.d)))) ⟨?_, rfl⟩)
  exact congrArg D.bl (decide_eq_decide.mpr (Rat.le_iff a b).symm)
end
end Law
set_option Elab.async false
set_option linter.all false
set_option maxRecDepth 100000
set_option maxHeartbeats 4000000
namespace Law
open PySem PySem.Spec PyProof.Rows L2 Gh
variable {E : En} {s : Sx}
mutual
/-- plain data -/
def dat : D → Bool
  | .lst xs => dats xs
  | .tup xs => dats xs
  | .mut => false
  | .ref _ => false
  | .ty _ => false
  | .scr _ => false
  | _ => true
def dats : List D → Bool
  | [] => true
  | x :: xs => dat x && dats xs
end
theorem dat_kind {x : D} (h : dat x = true) : ∃ k, x.kind = some k := by
  cases x <;> first | exact ⟨_, rfl⟩ | (unfold dat at h; cases h)
theorem dats_cons {x : D} {xs : List D} (h : dats (x :: xs) = true) : dat x = true ∧ dats xs = true := by
  unfold dats at h; exact Bool.and_eq_true_iff.mp h
theorem dats_mem {xs : List D} (h : dats xs = true) {x : D} (m : x ∈ xs) : dat x = true := by
  induction xs with
  | nil => cases m
  | cons y ys ih =>
    obtain ⟨h1, h2⟩ := dats_cons h
    rcases List.mem_cons.mp m with rfl | m
    · exact h1
    · exact ih h2 m
theorem dats_of {xs : List D} (h : ∀ x ∈ xs, dat x = true) : dats xs = true := by
  induction xs with
  | nil => unfold dats; rfl
  | cons y ys ih => unfold dats; rw [h y List.mem_cons_self, ih fun x m => h x (List.mem_cons_of_mem _ m)]; rfl
/-- its items, if it is a list or tuple -/
def items : D → Option (List D)
  | .lst xs => some xs
  | .tup xs => some xs
  | _ => none
theorem items_or {x : D} {xs : List D} (h : items x = some xs) : x = .lst xs ∨ x = .tup xs := by
  cases x <;> first | (cases h; exact .inl rfl) | (cases h; exact .inr rfl) | cases h
theorem items_dat {x : D} {xs : List D} (h : items x = some xs) (d : dat x = true) : dats xs = true := by
  cases x <;> first | (cases h; unfold dat at d; exact d) | cases h
theorem items_size {x : D} {xs : List D} (h : items x = some xs) : x.size = some xs.length := by
  cases x <;> first | (cases h; rfl) | cases h
theorem items_at {x : D} {xs : List D} (h : items x = some xs) (i : Int) : x.at i = atI xs i := by
  cases x <;> first | (cases h; rfl) | cases h
theorem isL_items {x : D} {k : Kn} (hk : x.kind = some k) (hd : dat x = true) : isL k = (items x).isSome := by
  cases x <;> first | (cases hk; rfl) | (unfold dat at hd; cases hd)
theorem isW_iff {x : D} {k : Kn} (hk : x.kind = some k) : isW k = (match x with | .int _ => true | _ => false) := by
  cases x <;> first | (cases hk; rfl) | cases hk
/-- a pair of ints, the second above 0 -/
def isFrL : List D → Bool
  | [.int _, .int b] => decide (0 < b)
  | _ => false
theorem isFrL_len {xs : List D} (h : ¬ xs.length = 2) : isFrL xs = false := by
  unfold isFrL
  split
  · exact absurd rfl h
  · rfl
def isFr (x : D) : Bool := match items x with
  | some xs => isFrL xs
  | none => false
theorem eqC_int (i : Int) : (D.int i).eqC := ⟨by unfold D.pure; rfl, by simp [D.py, SeqAt.shaped, PyData.canLay0, PyData.depth]⟩
theorem eqC_bl (b : Bool) : (D.bl b).eqC := ⟨by unfold D.pure; rfl, by simp [D.py, SeqAt.shaped, PyData.canLay0, PyData.depth]⟩
theorem eqC_non : D.non.eqC := ⟨by unfold D.pure; rfl, by simp [D.py, SeqAt.shaped, PyData.canLay0, PyData.depth]⟩
theorem eqb_int (i j : Int) : (D.int i).eqb (.int j) = decide (i = j) := by
  simp [D.eqb, D.py, PyData.eqv]
  rw [Bool.eq_iff_iff]; simp
theorem eqb_str (i j : Str) : (D.str i).eqb (.str j) = (i == j) := by simp [D.eqb, D.py, PyData.eqv]
theorem rn_is_frac (T : Tx E) {x : D} (hx : dat x = true) : Rn E 3 "is_frac" [x] s (.bl (isFr x)) s := by
  obtain ⟨k, hk⟩ := dat_kind hx
  refine T.d_is_frac.rn sc_is_frac rfl rfl fun fa cdv A outer sh H0 EX S0 p hr => ?_
  conv => arg 2; whnf
  refine bk_cons ?_
  have h1 := isL_items hk hx
  cases e : items x with
  | none =>
    rw [e] at h1
    refine bs_ret (ed_andF (ed_cl (ea_cons (ed_var 0 rfl (.inl rfl) rfl) ea_nil) (hr.mono (by decide)) ((rn_is_list T hk).is (by rw [h1]; rfl)))) ⟨by unfold isFr; rw [e], rfl⟩
  | some xs =>
    rw [e] at h1
    have hd := items_dat e hx
    have R1 : Rn E 1 "is_list" [x] s (.bl true) s := (rn_is_list T hk).is (by rw [h1]; rfl)
    by_cases hl : xs.length = 2
    · match xs, hl with
      | [u, v], _ =>
        obtain ⟨d1, d2⟩ := dats_cons hd
        obtain ⟨d2, _⟩ := dats_cons d2
        obtain ⟨k1, hk1⟩ := dat_kind d1
        obtain ⟨k2, hk2⟩ := dat_kind d2
        have i0 : x.at 0 = some u := by rw [items_at e]; rfl
        have i1 : x.at 1 = some v := by rw [items_at e]; rfl
        have w1 := isW_iff hk1
        have w2 := isW_iff hk2
        refine bs_ret (ed_andT (ed_cl (ea_cons (ed_var 0 rfl (.inl rfl) rfl) ea_nil) (hr.mono (by decide)) R1) (ed_andT ((Cp.ed (cp_eq hr (ed_len T.bf (ed_var 0 rfl (.inl rfl) rfl) (items_size e)) ed_int (eqC_int _) (eqC_int _))).is (y := .bl true) (by rw [eqb_int]; rfl)) ?_)) ⟨rfl, rfl⟩
        cases u with
        | int i =>
          refine ed_andT (ed_cl (ea_cons (ed_ix (ed_var 0 rfl (.inl rfl) rfl) ed_int i0) ea_nil) (hr.mono (by decide)) ((rn_is_whole T hk1).is (by rw [w1]))) ?_
          cases v with
          | int j => exact (ed_andT (ed_cl (ea_cons (ed_ix (ed_var 0 rfl (.inl rfl) rfl) ed_int i1) ea_nil) (hr.mono (by decide)) ((rn_is_whole T hk2).is (by rw [w2]))) (ed_one (Cp.ed (cp_gt (ed_ix (ed_var 0 rfl (.inl rfl) rfl) ed_int i1) ed_int)))).is (by unfold isFr; rw [e]; rfl)
          | _ => exact (ed_andF (ed_cl (ea_cons (ed_ix (ed_var 0 rfl (.inl rfl) rfl) ed_int i1) ea_nil) (hr.mono (by decide)) ((rn_is_whole T hk2).is (by rw [w2])))).is (by unfold isFr; rw [e]; rfl)
        | _ => exact (ed_andF (ed_cl (ea_cons (ed_ix (ed_var 0 rfl (.inl rfl) rfl) ed_int i0) ea_nil) (hr.mono (by decide)) ((rn_is_whole T hk1).is (by rw [w1])))).is (by unfold isFr; rw [e]; rfl)
    · refine bs_ret (ed_andT (ed_cl (ea_cons (ed_var 0 rfl (.inl rfl) rfl) ea_nil) (hr.mono (by decide)) R1) (ed_andF ((Cp.ed (cp_eq hr (ed_len T.bf (ed_var 0 rfl (.inl rfl) rfl) (items_size e)) ed_int (eqC_int _) (eqC_int _))).is (y := .bl false) (by rw [eqb_int]; exact congrArg D.bl (decide_eq_false (by omega)))))) ⟨?_, rfl⟩
      unfold isFr
      rw [e]
      exact congrArg D.bl (isFrL_len hl).symm
/-- the rational of a pair that is a fraction -/
def frq (x : D) : Rat := match items x with
  | some [.int t, .int b] => mkRat t b.toNat
  | _ => 0
theorem isFr_items {x : D} (h : isFr x = true) : ∃ t b, items x = some [.int t, .int b] ∧ 0 < b := by
  unfold isFr at h
  cases e : items x with
  | none => rw [e] at h; cases h
  | some xs =>
    rw [e] at h
    match xs, h with
    | [.int t, .int b], h => exact ⟨t, b, rfl, of_decide_eq_true h⟩
theorem rn_frac_of (T : Tx E) {x : D} (hx : isFr x = true) (hs : ∀ t b, items x = some [.int t, .int b] → b.natAbs < 2 ^ 8000) : Rn E 2 "frac_of" [x] s (fr (frq x)) s := by
  obtain ⟨t, b, e, hb⟩ := isFr_items hx
  refine T.d_frac_of.rn sc_frac_of rfl rfl fun fa cdv A outer sh H0 EX S0 p hr => ?_
  conv => arg 2; whnf
  have i0 : x.at 0 = some (.int t) := by rw [items_at e]; rfl
  have i1 : x.at 1 = some (.int b) := by rw [items_at e]; rfl
  refine bk_cons (bs_ret (ed_cl (ea_cons (ed_ix (ed_var 0 rfl (.inl rfl) rfl) ed_int i0) (ea_cons (ed_ix (ed_var 0 rfl (.inl rfl) rfl) ed_int i1) ea_nil)) (hr.mono (by decide)) (rn_lowest T hb (hs t b e))) ⟨?_, rfl⟩)
  unfold frq; rw [e]
/-- a fraction from 0 on -/
def topGe : D → Bool := fun x => match items x with
  | some (.int t :: _) => decide (0 ≤ t)
  | _ => false
def isWd (x : D) : Bool := isFr x && topGe x
theorem rn_is_width (T : Tx E) {x : D} (hx : dat x = true) : Rn E 4 "is_width" [x] s (.bl (isWd x)) s := by
  refine T.d_is_width.rn sc_is_width rfl rfl fun fa cdv A outer sh H0 EX S0 p hr => ?_
  conv => arg 2; whnf
  refine bk_cons ?_
  cases h : isFr x with
  | true =>
    obtain ⟨t, b, e, hb⟩ := isFr_items h
    have i0 : x.at 0 = some (.int t) := by rw [items_at e]; rfl
    refine bs_ret (ed_andT (ed_cl (ea_cons (ed_var 0 rfl (.inl rfl) rfl) ea_nil) (hr.mono (by decide)) ((rn_is_frac T hx).is (by rw [h]))) (ed_one (Cp.ed (cp_ge (ed_ix (ed_var 0 rfl (.inl rfl) rfl) ed_int i0) ed_int)))) ⟨?_, rfl⟩
    unfold isWd topGe
    rw [h, e]; rfl
  | false =>
    exact bs_ret (ed_andF (ed_cl (ea_cons (ed_var 0 rfl (.inl rfl) rfl) ea_nil) (hr.mono (by decide)) ((rn_is_frac T hx).is (by rw [h])))) ⟨by unfold isWd; rw [h]; rfl, rfl⟩
/-! forms -/
section
variable {a b c d : Rat}
theorem rn_plus_form (T : Tx E) (ha : Sz 3000 a) (hb : Sz 3000 b) (hc : Sz 3000 c) (hd : Sz 3000 d) : Rn E 3 "plus_form" [fm a b, fm c d] s (fm (a + c) (b + d)) s := by
  refine T.d_plus_form.rn sc_plus_form rfl rfl fun fa cdv A outer sh H0 EX S0 p hr => ?_
  conv => arg 2; whnf
  exact bk_cons (bs_ret (ed_tup (ea_cons (ed_cl (ea_cons (ed_ix (ed_var 0 rfl (.inl rfl) rfl) ed_int rfl) (ea_cons (ed_ix (ed_var 1 rfl (.inl rfl) rfl) ed_int rfl) ea_nil)) (hr.mono (by decide)) (rn_plus T ha hc)) (ea_cons (ed_cl (ea_cons (ed_ix (ed_var 0 rfl (.inl rfl) rfl) ed_int rfl) (ea_cons (ed_ix (ed_var 1 rfl (.inl rfl) rfl) ed_int rfl) ea_nil)) (hr.mono (by decide)) (rn_plus T hb hd)) ea_nil))) ⟨rfl, rfl⟩)
theorem rn_minus_form (T : Tx E) (ha : Sz 3000 a) (hb : Sz 3000 b) (hc : Sz 3000 c) (hd : Sz 3000 d) : Rn E 3 "minus_form" [fm a b, fm c d] s (fm (a - c) (b - d)) s := by
  refine T.d_minus_form.rn sc_minus_form rfl rfl fun fa cdv A outer sh H0 EX S0 p hr => ?_
  conv => arg 2; whnf
  exact bk_cons (bs_ret (ed_tup (ea_cons (ed_cl (ea_cons (ed_ix (ed_var 0 rfl (.inl rfl) rfl) ed_int rfl) (ea_cons (ed_ix (ed_var 1 rfl (.inl rfl) rfl) ed_int rfl) ea_nil)) (hr.mono (by decide)) (rn_minus T ha hc)) (ea_cons (ed_cl (ea_cons (ed_ix (ed_var 0 rfl (.inl rfl) rfl) ed_int rfl) (ea_cons (ed_ix (ed_var 1 rfl (.inl rfl) rfl) ed_int rfl) ea_nil)) (hr.mono (by decide)) (rn_minus T hb hd)) ea_nil))) ⟨rfl, rfl⟩)
theorem rn_scaled_form (T : Tx E) (ha : Sz 3000 a) (hb : Sz 3000 b) (hc : Sz 3000 c) : Rn E 3 "scaled_form" [fm a b, fr c] s (fm (a * c) (b * c)) s := by
  refine T.d_scaled_form.rn sc_scaled_form rfl rfl fun fa cdv A outer sh H0 EX S0 p hr => ?_
  conv => arg 2; whnf
  exact bk_cons (bs_ret (ed_tup (ea_cons (ed_cl (ea_cons (ed_ix (ed_var 0 rfl (.inl rfl) rfl) ed_int rfl) (ea_cons (ed_var 1 rfl (.inl rfl) rfl) ea_nil)) (hr.mono (by decide)) (rn_times T ha hc)) (ea_cons (ed_cl (ea_cons (ed_ix (ed_var 0 rfl (.inl rfl) rfl) ed_int rfl) (ea_cons (ed_var 1 rfl (.inl rfl) rfl) ea_nil)) (hr.mono (by decide)) (rn_times T hb hc)) ea_nil))) ⟨rfl, rfl⟩)
theorem rn_plain_ask (T : Tx E) (ha : Sz 3000 a) (hc : Sz 3000 c) : Rn E 2 "plain_ask" [fm a b, fm c d] s (.bl (decide (a ≤ c))) s := by
  refine T.d_plain_ask.rn sc_plain_ask rfl rfl fun fa cdv A outer sh H0 EX S0 p hr => ?_
  conv => arg 2; whnf
  exact bk_cons (bs_ret (ed_cl (ea_cons (ed_ix (ed_var 0 rfl (.inl rfl) rfl) ed_int rfl) (ea_cons (ed_ix (ed_var 1 rfl (.inl rfl) rfl) ed_int rfl) ea_nil)) (hr.mono (by decide)) (rn_is_upto T ha hc)) ⟨rfl, rfl⟩)
end
end Law
set_option Elab.async false
set_option linter.all false
set_option maxRecDepth 100000
set_option maxHeartbeats 4000000
namespace Gh
open PySem PySem.Spec PyProof.Rows L2
section
variable {F : Fx} {ρ : List G} {s s1 s2 : Sx} {tg iter elt : Expr} {items : List D} {scope : Scope} {pos : Pos}
theorem Et.is {e : Expr} {x y : Bool} (h : Et F ρ s e x s1) (z : x = y) : Et F ρ s e y s1 := by rw [← z]; exact h
theorem Cp.is {op : CmpOp} {a b : Expr} {x y : Bool} (h : Cp F ρ s op a b x s1) (z : x = y) : Cp F ρ s op a b y s1 := by rw [← z]; exact h
/-- [elt for tg in iter], nothing drawn in the turns -/
theorem el_map (own : List (Str × Nat)) (f : D → D) (hc : F.X.calm = true) (hN : F.X.N.Nodup) (hi : Ei F ρ s tg iter items s1) (ok : BlkOk F.X.N F.X.env.scope scope own) (hl : items.length ≤ sizeLine)
    (h : ∀ (i : Nat) (d : D), items[i]? = some d → ∃ ρ2 js, (∀ c, Eg (F.blk scope c) tg d (gwipe ρ (own.map (·.2))) ρ2 js) ∧ (∀ j ∈ js, j ∈ own.map (·.2)) ∧ ∀ c, Ed (F.blk scope c) ρ2 s1 elt (f d) s1)
    (hs : ∀ x, foldedSetIterable iter F.X.env x = pure x := by intro _; rfl) : El F ρ s (.ListComp elt [⟨tg, iter, [], 0⟩] scope pos) (items.map f) s1 := by
  have z := el_comp (pos := pos) own hc hN (st := fun _ => s1) hi ok (Comp.map f hl h) hi.1 hs
  simp only [List.take_length] at z
  exact z
end
end Gh
namespace Law
open PySem PySem.Spec PyProof.Rows L2 Gh
variable {E : En} {s : Sx}
def acrossD : List D := [.str "width", .str "least", .str "most", .str "mleft", .str "mright", .str "pleft", .str "pright"]
def menusAt (z : Str) : Option (Option D) := if z ∈ (["width", "least", "most", "mleft", "mright", "pleft", "pright"] : List Str) then some none else none
def firstsAt (z : Str) : Option (Option D) := if z = ("most" : Str) then some (some (.str "none")) else none
/-- the top: defs and constants -/
structure Tc (E : En) : Prop extends Tx E where
  c_ZERO : Cst E "ZERO" (fr 0)
  c_HALF : Cst E "HALF" (fr (1 / 2))
  c_FLAT : Cst E "FLAT_ZERO" (fm 0 0)
  c_ACROSS : Cst E "ACROSS" (.tup acrossD)
  k_MENUS : Kdt E "MENUS" menusAt
  k_FIRSTS : Kdt E "FIRSTS" firstsAt
theorem Tc.ask (T : Tc E) : ∃ a, Hf E "plain_ask" a := by
  obtain ⟨fa, fd, F, hm, hb⟩ := T.d_plain_ask.ok
  exact ⟨fa, ⟨hm⟩⟩
theorem rn_flat_form (T : Tc E) {q : Rat} : Rn E 1 "flat_form" [fr q] s (fm q 0) s := by
  refine T.d_flat_form.rn sc_flat_form rfl rfl fun fa cdv A outer sh H0 EX S0 p hr => ?_
  conv => arg 2; whnf
  exact bk_cons (bs_ret (ed_tup (ea_cons (ed_var 0 rfl (.inl rfl) rfl) (ea_cons (ed_cst T.c_ZERO) ea_nil))) ⟨rfl, rfl⟩)
/-! told lengths -/
inductive Ln
  | nat (n : Nat)
  | part (n : Nat)
  | auto
def Ln.D : Ln → Gh.D
  | .nat n => .int n
  | .part n => .tup [.str "part", .int n]
  | .auto => .str "auto"
/-- as handed: a tuple may be a list -/
inductive Hd : Ln → Gh.D → Prop
  | same (l : Ln) : Hd l l.D
  | lst (n : Nat) : Hd (.part n) (.lst [.str "part", .int n])
theorem Hd.items {n : Nat} {x : D} (h : Hd (.part n) x) : items x = some [.str "part", .int n] := by
  cases h <;> rfl
theorem Hd.dat {l : Ln} {x : D} (h : Hd l x) : dat x = true := by
  cases h with
  | same => cases l <;> rfl
  | lst => rfl
theorem eqC_str {x : Str} (h : PyData.strOk x = true := by decide +kernel) : (D.str x).eqC := ⟨by unfold D.pure; rfl, by simp [D.py, SeqAt.shaped, PyData.canLay0, PyData.depth, h]⟩
def toldIs (w : Str) : D → Bool
  | .str v => v == w
  | _ => false
theorem rn_is_told_word (T : Tc E) {x : D} {w : Str} (hx : dat x = true) (hq : ∀ v, x = .str v → PyData.strOk v = true) (hw : PyData.strOk w = true) : Rn E 1 "is_told_word" [x, .str w] s (.bl (toldIs w x)) s := by
  obtain ⟨k, hk⟩ := dat_kind hx
  refine T.d_is_told_word.rn sc_is_told_word rfl rfl fun fa cdv A outer sh H0 EX S0 p hr => ?_
  conv => arg 2; whnf
  refine bk_cons ?_
  cases x with
  | str v => exact bs_ret (ed_andT ((ed_isi T.bf (ed_var 0 rfl (.inl rfl) rfl) hk (cn_str T.bf)).is (by cases hk; rfl)) (ed_one (Cp.ed (cp_eq hr (ed_var 0 rfl (.inl rfl) rfl) (ed_var 1 rfl (.inl rfl) rfl) (eqC_str (hq v rfl)) (eqC_str hw))))) ⟨by rw [eqb_str]; rfl, rfl⟩
  | _ => first
    | (unfold dat at hx; cases hx; done)
    | exact bs_ret (ed_andF ((ed_isi T.bf (ed_var 0 rfl (.inl rfl) rfl) hk (cn_str T.bf)).is (by cases hk; rfl))) ⟨rfl, rfl⟩
theorem rn_is_tagged (T : Tc E) {x : D} {n : Nat} {w : Str} (hx : items x = some [.str w, .int n]) (hw : PyData.strOk w = true) : Rn E 3 "is_tagged" [x, .str w] s (.bl true) s := by
  have hd : dat x = true := by cases x <;> cases hx <;> rfl
  obtain ⟨k, hk⟩ := dat_kind hd
  have h1 := isL_items hk hd
  have i0 : x.at 0 = some (.str w) := by rw [items_at hx]; rfl
  have i1 : x.at 1 = some (.int n) := by rw [items_at hx]; rfl
  refine T.d_is_tagged.rn sc_is_tagged rfl rfl fun fa cdv A outer sh H0 EX S0 p hr => ?_
  conv => arg 2; whnf
  refine bk_cons (bs_ifF (Ew.et (ew_orF (et_not (k := true) (et_val (ed_cl (ea_cons (ed_var 0 rfl (.inl rfl) rfl) ea_nil) (hr.mono (by decide)) ((rn_is_list T.toTx hk).is (by rw [h1, hx]; rfl))))) (ew_orF (Cp.et ((cp_ne hr (ed_len T.bf (ed_var 0 rfl (.inl rfl) rfl) (items_size hx)) ed_int (eqC_int _) (eqC_int _)).is (y := false) (by rw [eqb_int]; rfl))) (ew_or1 (et_not (k := true) (et_val ((ed_isi T.bf (ed_ix (ed_var 0 rfl (.inl rfl) rfl) ed_int i0) rfl (cn_str T.bf)).is rfl))))))) (bk_nil ?_))
  · refine bk_cons (bs_ret (ed_andT ((Cp.ed (cp_eq hr (ed_ix (ed_var 0 rfl (.inl rfl) rfl) ed_int i0) (ed_var 1 rfl (.inl rfl) rfl) (eqC_str hw) (eqC_str hw))).is (y := .bl true) (by rw [eqb_str, beq_self_eq_true])) (ed_one (ed_cl (ea_cons (ed_ix (ed_var 0 rfl (.inl rfl) rfl) ed_int i1) ea_nil) (hr.mono (by decide)) (rn_is_natural T.toTx rfl)))) ⟨?_, rfl⟩)
    show D.bl (decide (0 ≤ (n : Int))) = _
    rw [decide_eq_true (by omega)]
theorem isN_nat (n : Nat) : isN (.int n) = true := by unfold isN; exact decide_eq_true (by omega)
theorem rn_is_length (T : Tc E) {x : D} {l : Ln} (h : Hd l x) (ha : l ≠ .auto) : Rn E 4 "is_length" [x] s (.bl true) s := by
  refine T.d_is_length.rn sc_is_length rfl rfl fun fa cdv A outer sh H0 EX S0 p hr => ?_
  conv => arg 2; whnf
  refine bk_cons ?_
  obtain ⟨k, hk⟩ := dat_kind h.dat
  cases l with
  | auto => exact absurd rfl ha
  | nat n =>
    cases h
    exact bs_ret (ed_orT (ed_cl (ea_cons (ed_var 0 rfl (.inl rfl) rfl) ea_nil) (hr.mono (by decide)) ((rn_is_natural T.toTx hk).is (congrArg D.bl (isN_nat n))))) ⟨rfl, rfl⟩
  | part n => exact bs_ret (ed_orF (ed_cl (ea_cons (ed_var 0 rfl (.inl rfl) rfl) ea_nil) (hr.mono (by decide)) ((rn_is_natural T.toTx hk).is (by cases h <;> rfl))) (ed_one (ed_cl (ea_cons (ed_var 0 rfl (.inl rfl) rfl) (ea_cons ed_str ea_nil)) (hr.mono (by decide)) (rn_is_tagged T h.items (by decide +kernel))))) ⟨rfl, rfl⟩
end Law
set_option Elab.async false
set_option linter.all false
set_option maxRecDepth 100000
set_option maxHeartbeats 4000000
namespace Law
open PySem PySem.Spec PyProof.Rows L2 Gh
variable {E : En} {s : Sx}
abbrev ss (xs : List Str) : List V := xs.map V.str
def moD : Option Nat → D
  | none => .str "none"
  | some m => .int m
theorem moD_dat (m : Option Nat) : dat (moD m) = true := by cases m <;> rfl
theorem Hd.str {l : Ln} {x : D} (h : Hd l x) : ∀ v, x = .str v → PyData.strOk v = true := by
  rintro v rfl
  cases l with
  | auto => cases h; decide +kernel
  | nat n => cases h
  | part n => cases h
def Ln.isA : Ln → Bool
  | .auto => true
  | _ => false
theorem Hd.told {l : Ln} {x : D} (h : Hd l x) : toldIs "auto" x = l.isA := by
  cases h with
  | same => cases l <;> first | rfl | decide +kernel
  | lst => rfl
/-- width, margins -/
theorem rn_pvA (T : Tc E) {w : Str} {x : D} {l : Ln} (h : Hd l x) (h1 : menusAt w = some none) (h2 : inV (.str w) (ss ["width", "base", "mleft", "mright"]) = true) : Rn E 6 "is_plain_value" [.str w, x] s (.bl true) s := by
  refine T.d_is_plain_value.rn sc_is_plain_value rfl rfl fun fa cdv A outer sh H0 EX S0 p hr => ?_
  conv => arg 2; whnf
  refine bk_cons (bs_ifF (Cp.et (cp_inKD T.k_MENUS (ed_var 0 rfl (.inl rfl) rfl) h1)) (bk_nil ?_))
  refine bk_cons (bs_ifT (Cp.et ((cp_in (ed_var 0 rfl (.inl rfl) rfl) (ed_tup (ea_cons ed_str (ea_cons ed_str (ea_cons ed_str (ea_cons ed_str ea_nil))))) (.inr rfl) rfl rfl).is h2)) (bk_cons ?_))
  have R := (rn_is_told_word (s := s) T h.dat h.str (w := "auto") (by decide +kernel)).is (congrArg D.bl h.told)
  cases l with
  | auto => exact bs_ret (ed_orT (ed_cl (ea_cons (ed_var 1 rfl (.inl rfl) rfl) (ea_cons ed_str ea_nil)) (hr.mono (by decide)) R)) ⟨rfl, rfl⟩
  | _ => exact bs_ret (ed_orF (ed_cl (ea_cons (ed_var 1 rfl (.inl rfl) rfl) (ea_cons ed_str ea_nil)) (hr.mono (by decide)) R) (ed_one (ed_cl (ea_cons (ed_var 1 rfl (.inl rfl) rfl) ea_nil) (hr.mono (by decide)) (rn_is_length T h (by intro z; cases z))))) ⟨rfl, rfl⟩
/-- pads -/
theorem rn_pvP (T : Tc E) {w : Str} {x : D} {l : Ln} (h : Hd l x) (ha : l ≠ .auto) (h1 : menusAt w = some none) (h2 : inV (.str w) (ss ["width", "base", "mleft", "mright"]) = false) (h3 : inV (.str w) (ss ["pleft", "pright"]) = true) : Rn E 6 "is_plain_value" [.str w, x] s (.bl true) s := by
  refine T.d_is_plain_value.rn sc_is_plain_value rfl rfl fun fa cdv A outer sh H0 EX S0 p hr => ?_
  conv => arg 2; whnf
  refine bk_cons (bs_ifF (Cp.et (cp_inKD T.k_MENUS (ed_var 0 rfl (.inl rfl) rfl) h1)) (bk_nil ?_))
  refine bk_cons (bs_ifF (Cp.et ((cp_in (ed_var 0 rfl (.inl rfl) rfl) (ed_tup (ea_cons ed_str (ea_cons ed_str (ea_cons ed_str (ea_cons ed_str ea_nil))))) (.inr rfl) rfl rfl).is h2)) (bk_nil ?_))
  refine bk_cons (bs_ifT (Cp.et ((cp_in (ed_var 0 rfl (.inl rfl) rfl) (ed_tup (ea_cons ed_str (ea_cons ed_str ea_nil))) (.inr rfl) rfl rfl).is h3)) (bk_cons ?_))
  exact bs_ret (ed_cl (ea_cons (ed_var 1 rfl (.inl rfl) rfl) ea_nil) (hr.mono (by decide)) (rn_is_length T h ha)) ⟨rfl, rfl⟩
theorem rn_pvM (T : Tc E) (m : Option Nat) : Rn E 6 "is_plain_value" [.str "most", moD m] s (.bl true) s := by
  refine T.d_is_plain_value.rn sc_is_plain_value rfl rfl fun fa cdv A outer sh H0 EX S0 p hr => ?_
  conv => arg 2; whnf
  refine bk_cons (bs_ifF (Cp.et (cp_inKD (o := none) T.k_MENUS (ed_var 0 rfl (.inl rfl) rfl) (if_pos (by decide +kernel)))) (bk_nil ?_))
  refine bk_cons (bs_ifF (Cp.et ((cp_in (ed_var 0 rfl (.inl rfl) rfl) (ed_tup (ea_cons ed_str (ea_cons ed_str (ea_cons ed_str (ea_cons ed_str ea_nil))))) (.inr rfl) rfl rfl).is (by decide +kernel))) (bk_nil ?_))
  refine bk_cons (bs_ifF (Cp.et ((cp_in (ed_var 0 rfl (.inl rfl) rfl) (ed_tup (ea_cons ed_str (ea_cons ed_str ea_nil))) (.inr rfl) rfl rfl).is (by decide +kernel))) (bk_nil ?_))
  refine bk_cons (bs_ifT (Cp.et ((cp_in (ed_var 0 rfl (.inl rfl) rfl) (ed_tup (ea_cons ed_str (ea_cons ed_str ea_nil))) (.inr rfl) rfl rfl).is (by decide +kernel))) (bk_cons ?_))
  have hf : firstsAt "most" = some (some (.str "none")) := rfl
  cases m with
  | none => exact bs_ret (ed_orT (ed_cl (ea_cons (ed_var 1 rfl (.inl rfl) rfl) (ea_cons (ed_ixKD T.k_FIRSTS (ed_var 0 rfl (.inl rfl) rfl) hf) ea_nil)) (hr.mono (by decide)) ((rn_is_told_word T (moD_dat none) (w := "none") (by rintro v z; cases z; decide +kernel) (by decide +kernel)).is rfl))) ⟨rfl, rfl⟩
  | some m => exact bs_ret (ed_orF (ed_cl (ea_cons (ed_var 1 rfl (.inl rfl) rfl) (ea_cons (ed_ixKD T.k_FIRSTS (ed_var 0 rfl (.inl rfl) rfl) hf) ea_nil)) (hr.mono (by decide)) ((rn_is_told_word T (moD_dat (some m)) (w := "none") (by rintro v z; cases z) (by decide +kernel)).is rfl)) (ed_one (ed_cl (ea_cons (ed_var 1 rfl (.inl rfl) rfl) ea_nil) (hr.mono (by decide)) ((rn_is_natural T.toTx (x := .int m) rfl).is (congrArg D.bl (isN_nat m)))))) ⟨rfl, rfl⟩
theorem rn_pvL (T : Tc E) (m : Nat) : Rn E 6 "is_plain_value" [.str "least", .int m] s (.bl true) s := by
  refine T.d_is_plain_value.rn sc_is_plain_value rfl rfl fun fa cdv A outer sh H0 EX S0 p hr => ?_
  conv => arg 2; whnf
  refine bk_cons (bs_ifF (Cp.et (cp_inKD (o := none) T.k_MENUS (ed_var 0 rfl (.inl rfl) rfl) (if_pos (by decide +kernel)))) (bk_nil ?_))
  refine bk_cons (bs_ifF (Cp.et ((cp_in (ed_var 0 rfl (.inl rfl) rfl) (ed_tup (ea_cons ed_str (ea_cons ed_str (ea_cons ed_str (ea_cons ed_str ea_nil))))) (.inr rfl) rfl rfl).is (by decide +kernel))) (bk_nil ?_))
  refine bk_cons (bs_ifF (Cp.et ((cp_in (ed_var 0 rfl (.inl rfl) rfl) (ed_tup (ea_cons ed_str (ea_cons ed_str ea_nil))) (.inr rfl) rfl rfl).is (by decide +kernel))) (bk_nil ?_))
  refine bk_cons (bs_ifF (Cp.et ((cp_in (ed_var 0 rfl (.inl rfl) rfl) (ed_tup (ea_cons ed_str (ea_cons ed_str ea_nil))) (.inr rfl) rfl rfl).is (by decide +kernel))) (bk_nil ?_))
  refine bk_cons (bs_ifF (Cp.et ((cp_eq hr (ed_var 0 rfl (.inl rfl) rfl) ed_str eqC_str eqC_str).is (by rw [eqb_str]; decide +kernel))) (bk_nil ?_))
  refine bk_cons (bs_ifF (Cp.et ((cp_eq hr (ed_var 0 rfl (.inl rfl) rfl) ed_str eqC_str eqC_str).is (by rw [eqb_str]; decide +kernel))) (bk_nil ?_))
  refine bk_cons (bs_ifF (Cp.et ((cp_eq hr (ed_var 0 rfl (.inl rfl) rfl) ed_str eqC_str eqC_str).is (by rw [eqb_str]; decide +kernel))) (bk_nil ?_))
  refine bk_cons (bs_ifF (Cp.et ((cp_eq hr (ed_var 0 rfl (.inl rfl) rfl) ed_str eqC_str eqC_str).is (by rw [eqb_str]; decide +kernel))) (bk_nil ?_))
  refine bk_cons (bs_ifF (Cp.et ((cp_in (ed_var 0 rfl (.inl rfl) rfl) (ed_tup (ea_cons ed_str (ea_cons ed_str ea_nil))) (.inr rfl) rfl rfl).is (by decide +kernel))) (bk_nil ?_))
  exact bk_cons (bs_ret (ed_cl (ea_cons (ed_var 1 rfl (.inl rfl) rfl) ea_nil) (hr.mono (by decide)) ((rn_is_natural T.toTx (x := .int m) rfl).is (congrArg D.bl (isN_nat m)))) ⟨rfl, rfl⟩)
/-! told rows -/
structure Tl where
  w : Ln
  least : Nat
  most : Option Nat
  ml : Ln
  mr : Ln
  pl : Ln
  pr : Ln
/-- the pads are lengths -/
structure Tl.Ok (t : Tl) : Prop where
  pl : t.pl ≠ .auto
  pr : t.pr ≠ .auto
def Tl.ds (t : Tl) : List D := [t.w.D, .int t.least, moD t.most, t.ml.D, t.mr.D, t.pl.D, t.pr.D]
/-- as handed -/
inductive Th (t : Tl) : List D → Prop
  | mk {a d e f g : D} (h1 : Hd t.w a) (h2 : Hd t.ml d) (h3 : Hd t.mr e) (h4 : Hd t.pl f) (h5 : Hd t.pr g) : Th t [a, .int t.least, moD t.most, d, e, f, g]
theorem Th.same (t : Tl) : Th t t.ds := .mk (.same _) (.same _) (.same _) (.same _) (.same _)
theorem Th.len {t : Tl} {hs : List D} (h : Th t hs) : hs.length = 7 := by cases h; rfl
theorem Th.dats {t : Tl} {hs : List D} (h : Th t hs) : dats hs = true := by
  cases h with
  | mk h1 h2 h3 h4 h5 =>
    refine dats_of fun x m => ?_
    simp only [List.mem_cons, List.not_mem_nil, or_false] at m
    rcases m with rfl | rfl | rfl | rfl | rfl | rfl | rfl
    · exact h1.dat
    · rfl
    · exact moD_dat _
    · exact h2.dat
    · exact h3.dat
    · exact h4.dat
    · exact h5.dat
theorem th_pv (T : Tc E) {t : Tl} (ok : t.Ok) {hs : List D} (h : Th t hs) {i : Nat} {d : D} (hi : (zipD acrossD hs)[i]? = some d) : ∃ w v, d = .tup [.str w, v] ∧ ∀ s, Rn E 6 "is_plain_value" [.str w, v] s (.bl true) s := by
  cases h with
  | mk h1 h2 h3 h4 h5 =>
    match i, hi with
    | 0, hi => cases hi; exact ⟨_, _, rfl, fun s => rn_pvA T h1 (if_pos (by decide +kernel)) (by decide +kernel)⟩
    | 1, hi => cases hi; exact ⟨_, _, rfl, fun s => rn_pvL T _⟩
    | 2, hi => cases hi; exact ⟨_, _, rfl, fun s => rn_pvM T _⟩
    | 3, hi => cases hi; exact ⟨_, _, rfl, fun s => rn_pvA T h2 (if_pos (by decide +kernel)) (by decide +kernel)⟩
    | 4, hi => cases hi; exact ⟨_, _, rfl, fun s => rn_pvA T h3 (if_pos (by decide +kernel)) (by decide +kernel)⟩
    | 5, hi => cases hi; exact ⟨_, _, rfl, fun s => rn_pvP T h4 ok.pl (if_pos (by decide +kernel)) (by decide +kernel) (by decide +kernel)⟩
    | 6, hi => cases hi; exact ⟨_, _, rfl, fun s => rn_pvP T h5 ok.pr (if_pos (by decide +kernel)) (by decide +kernel) (by decide +kernel)⟩
    | i + 7, hi => cases hi
theorem rn_checked_told (T : Tc E) {t : Tl} (ok : t.Ok) {x : D} {hs : List D} (h : Th t hs) (hx : items x = some hs) : Rn E 7 "checked_told" [x] s (.tup hs) s := by
  have hd : dat x = true := by
    have := h.dats
    cases x <;> cases hx <;> (unfold dat; exact this)
  obtain ⟨k, hk⟩ := dat_kind hd
  have h1 := isL_items hk hd
  refine T.d_checked_told.rn sc_checked_told rfl rfl fun fa cdv A outer sh H0 EX S0 p hr => ?_
  conv => arg 2; whnf
  refine bk_cons (bs_ifF (Ew.et (ew_orF (et_not (k := true) (et_val (ed_cl (ea_cons (ed_var 0 rfl (.inl rfl) rfl) ea_nil) (hr.mono (by decide)) ((rn_is_list T.toTx hk).is (by rw [h1, hx]; rfl))))) (ew_or1 (Cp.et ((cp_ne hr (ed_len T.bf (ed_var 0 rfl (.inl rfl) rfl) (items_size hx)) ed_int (eqC_int _) (eqC_int _)).is (y := false) (by rw [eqb_int, h.len]; rfl)))))) (bk_nil ?_))
  have hz : (zipD acrossD hs).length = 7 := by simp [zipD, h.len, acrossD]
  refine bk_cons (bs_ifF (s1 := s) (et_not (k := true) (et_val ((ed_all T.bf rfl (bs := List.replicate 7 true) ?_).is rfl))) (bk_nil ?_))
  · refine Ed.is (El.ed (el_map [("word", 1), ("value", 2)] (fun _ => .bl true) rfl sc_checked_told.nd (ei_zipM T.bf (ed_cst T.c_ACROSS) (.inr rfl) (ed_var 0 rfl (.inl rfl) rfl) (items_or hx)) (blkOk_by rfl) (by rw [hz]; decide) (fun i d hi => by
      obtain ⟨w, v, rfl, R⟩ := th_pv T ok h hi
      exact ⟨_, _, fun c => eg_tup rfl (egs_cons (eg_name 1 sc_checked_told.nd rfl (.inl rfl)) (egs_cons (eg_name 2 sc_checked_told.nd rfl (.inl rfl)) egs_nil)), by decide, fun c => ed_cl (ea_cons (ed_var 1 rfl (.inl rfl) rfl) (ea_cons (ed_var 2 rfl (.inl rfl) rfl) ea_nil)) (hr.mono (by decide)) (R _)⟩))) ?_
    rw [List.map_replicate, List.map_const', hz]
  · exact bk_cons (bs_ret (ed_tupleOf T.bf (ed_var 0 rfl (.inl rfl) rfl) (items_or hx)) ⟨rfl, rfl⟩)
end Law
set_option Elab.async false
set_option linter.all false
set_option maxRecDepth 100000
set_option maxHeartbeats 4000000
namespace Law
open PySem PySem.Spec PyProof.Rows L2 Gh
variable {E : En} {s : Sx}
/-! the numbers -/
def Ln.wt (r : Rat) : Ln → Rat
  | .nat n => n
  | .part n => r * mkRat n 100
  | .auto => 0
def Ln.fD (r : Rat) : Ln → Gh.D
  | .nat n => fm n 0
  | .part n => fm (r * mkRat n 100) 0
  | .auto => .str "auto"
def Ln.n : Ln → Nat
  | .nat n => n
  | .part n => n
  | .auto => 0
def moF : Option Nat → D
  | none => .str "none"
  | some m => fm m 0
theorem _root_.Gh.Sz.nat {n : Nat} (h : n < 2 ^ 14) : Sz 14 (n : Rat) := ⟨by simpa using h, by simp⟩
theorem _root_.Gh.Sz.zero {n : Nat} (h : 0 < n := by decide) : Sz n 0 := ⟨by simpa using Nat.two_pow_pos n, by simpa using Nat.one_lt_two_pow (Nat.ne_of_gt h)⟩
theorem Ln.sz {r : Rat} (hr : Sz 40 r) {l : Ln} (h : l.n < 2 ^ 14) : Sz 54 (l.wt r) := by
  cases l with
  | nat n => exact (Sz.nat h).mono (by decide)
  | part n => exact hr.mul (.mk (n := 14) (t := (n : Int)) h (by decide) (by decide))
  | auto => exact .zero
theorem Ln.fD_of {r : Rat} {l : Ln} (h : l ≠ .auto) : l.fD r = fm (l.wt r) 0 := by
  cases l <;> first | rfl | exact absurd rfl h
/-- a held number -/
def heldR (x l : Rat) (m : Option Nat) : Rat :=
  let f : Rat := match m with | none => x | some m => if x ≤ (m : Rat) then x else (m : Rat)
  if l ≤ f then f else l
structure Five where
  left : Rat
  near : Rat
  kept : Rat
  far : Rat
  right : Rat
def Five.qs (f : Five) : List Rat := [f.left, f.near, f.kept, f.far, f.right]
def Tl.free (t : Tl) (r : Rat) : Rat := r - t.ml.wt r - t.pl.wt r - t.pr.wt r - t.mr.wt r
def Tl.kept (t : Tl) (r : Rat) : Rat := heldR (if t.w.isA then t.free r else t.w.wt r) t.least t.most
def Tl.spare (t : Tl) (r : Rat) : Rat := t.free r - t.kept r
def Tl.left (t : Tl) (r : Rat) : Rat := if t.ml.isA && !decide (t.spare r ≤ 0) then (if t.mr.isA then t.spare r * (1 / 2) else t.spare r) else t.ml.wt r
def Tl.right (t : Tl) (r : Rat) : Rat := r - (t.left r + t.pl.wt r + (t.kept r + t.pr.wt r))
def Tl.five (t : Tl) (r : Rat) : Five := ⟨t.left r, t.pl.wt r, t.kept r, t.pr.wt r, t.right r⟩
/-- all its numbers are small -/
structure Tl.Sm (t : Tl) : Prop where
  w : t.w.n < 2 ^ 14
  least : t.least < 2 ^ 14
  most : ∀ m, t.most = some m → m < 2 ^ 14
  ml : t.ml.n < 2 ^ 14
  mr : t.mr.n < 2 ^ 14
  pl : t.pl.n < 2 ^ 14
  pr : t.pr.n < 2 ^ 14
section
variable {t : Tl} {r : Rat}
theorem Tl.Sm.zfree (h : t.Sm) (hr : Sz 40 r) : Sz 260 (t.free r) := (((hr.sub (Ln.sz hr h.ml)).sub (Ln.sz hr h.pl)).sub (Ln.sz hr h.pr)).sub (Ln.sz hr h.mr)
theorem heldR_sz {n : Nat} {x l : Rat} {m : Option Nat} (hx : Sz n x) (hl : Sz n l) (hm : ∀ k, m = some k → Sz n (k : Rat)) : Sz n (heldR x l m) := by
  unfold heldR
  cases m with
  | none => dsimp only; split <;> assumption
  | some m =>
    have := hm m rfl
    dsimp only; split <;> (try split) <;> assumption
theorem Tl.Sm.zw (h : t.Sm) (hr : Sz 40 r) : Sz 260 (if t.w.isA then t.free r else t.w.wt r) := by
  split
  · exact h.zfree hr
  · exact (Ln.sz hr h.w).mono (by decide)
theorem Tl.Sm.zkept (h : t.Sm) (hr : Sz 40 r) : Sz 260 (t.kept r) := heldR_sz (h.zw hr) ((Sz.nat h.least).mono (by decide)) fun k e => (Sz.nat (h.most k e)).mono (by decide)
theorem Tl.Sm.zspare (h : t.Sm) (hr : Sz 40 r) : Sz 521 (t.spare r) := (h.zfree hr).sub (h.zkept hr)
theorem Tl.Sm.zleft (h : t.Sm) (hr : Sz 40 r) : Sz 530 (t.left r) := by
  unfold Tl.left
  split
  · split
    · exact ((h.zspare hr).mul (n := 2) ⟨by decide +kernel, by decide +kernel⟩).mono (by decide)
    · exact (h.zspare hr).mono (by decide)
  · exact (Ln.sz hr h.ml).mono (by decide)
theorem Tl.Sm.zright (h : t.Sm) (hr : Sz 40 r) : Sz 960 (t.right r) := (hr.sub (((h.zleft hr).add (Ln.sz hr h.pl)).add ((h.zkept hr).add (Ln.sz hr h.pr)))).mono (by decide)
end
/-! flat forms -/
section
variable {a c : Rat}
theorem rn_plus0 (T : Tc E) (ha : Sz 3000 a) (hc : Sz 3000 c) : Rn E 3 "plus_form" [fm a 0, fm c 0] s (fm (a + c) 0) s := (rn_plus_form T.toTx ha .zero hc .zero).is (by rw [Rat.add_zero])
theorem rn_minus0 (T : Tc E) (ha : Sz 3000 a) (hc : Sz 3000 c) : Rn E 3 "minus_form" [fm a 0, fm c 0] s (fm (a - c) 0) s := (rn_minus_form T.toTx ha .zero hc .zero).is (by rw [show (0 : Rat) - 0 = 0 by decide +kernel])
theorem rn_scaled0 (T : Tc E) (ha : Sz 3000 a) (hc : Sz 3000 c) : Rn E 3 "scaled_form" [fm a 0, fr c] s (fm (a * c) 0) s := (rn_scaled_form T.toTx ha .zero hc).is (by rw [Rat.zero_mul])
end
/-- what length_form tells of a handed thing -/
def lenF (r : Rat) : D → D
  | .str v => .str v
  | .int n => fm n 0
  | x => match items x with
    | some [_, .int n] => fm (r * mkRat n 100) 0
    | _ => .non
theorem Hd.lenF {l : Ln} {x : D} (h : Hd l x) (r : Rat) : lenF r x = l.fD r := by
  cases h with
  | same => cases l <;> rfl
  | lst => rfl
theorem lenF_mo (m : Option Nat) (r : Rat) : lenF r (moD m) = moF m := by cases m <;> rfl
theorem fr_nat (n : Nat) : (.tup [.int n, .int 1] : D) = fr (n : Rat) := rfl
theorem rn_length_str (T : Tc E) {v : Str} {d : D} : Rn E 5 "length_form" [.str v, d] s (.str v) s := by
  refine T.d_length_form.rn sc_length_form rfl rfl fun fa cdv A outer sh H0 EX S0 p hr => ?_
  conv => arg 2; whnf
  exact bk_cons (bs_ifT (et_val ((ed_isi T.bf (ed_var 0 rfl (.inl rfl) rfl) rfl (cn_str T.bf)).is rfl)) (bk_cons (bs_ret (ed_var 0 rfl (.inl rfl) rfl) ⟨rfl, rfl⟩)))
theorem rn_length_nat (T : Tc E) {n : Nat} {d : D} : Rn E 5 "length_form" [.int n, d] s (fm n 0) s := by
  refine T.d_length_form.rn sc_length_form rfl rfl fun fa cdv A outer sh H0 EX S0 p hr => ?_
  conv => arg 2; whnf
  refine bk_cons (bs_ifF (et_val ((ed_isi T.bf (ed_var 0 rfl (.inl rfl) rfl) rfl (cn_str T.bf)).is rfl)) (bk_nil ?_))
  exact bk_cons (bs_ifT (et_val (ed_cl (ea_cons (ed_var 0 rfl (.inl rfl) rfl) ea_nil) (hr.mono (by decide)) ((rn_is_natural T.toTx rfl).is (congrArg D.bl (isN_nat n))))) (bk_cons (bs_ret (ed_cl (ea_cons ((ed_tup (ea_cons (ed_var 0 rfl (.inl rfl) rfl) (ea_cons ed_int ea_nil))).is (fr_nat n)) ea_nil) (hr.mono (by decide)) (rn_flat_form T)) ⟨rfl, rfl⟩)))
theorem rn_length_part (T : Tc E) {n : Nat} {x : D} {r : Rat} (h : Hd (.part n) x) (hn : n < 2 ^ 14) (hr : Sz 40 r) : Rn E 5 "length_form" [x, fm r 0] s (fm (r * mkRat n 100) 0) s := by
  have hx := h.items
  have i1 : x.at 1 = some (.int n) := by rw [items_at hx]; rfl
  have hk : ∃ k, x.kind = some k ∧ isK k .str = false := by cases h <;> exact ⟨_, rfl, rfl⟩
  obtain ⟨k, hk, hk2⟩ := hk
  have hN : isN x = false := by cases h <;> rfl
  refine T.d_length_form.rn sc_length_form rfl rfl fun fa cdv A outer sh H0 EX S0 p hrm => ?_
  conv => arg 2; whnf
  refine bk_cons (bs_ifF (et_val ((ed_isi T.bf (ed_var 0 rfl (.inl rfl) rfl) hk (cn_str T.bf)).is (by rw [hk2]))) (bk_nil ?_))
  refine bk_cons (bs_ifF (et_val (ed_cl (ea_cons (ed_var 0 rfl (.inl rfl) rfl) ea_nil) (hrm.mono (by decide)) ((rn_is_natural T.toTx hk).is (congrArg D.bl hN)))) (bk_nil ?_))
  exact bk_cons (bs_ret (ed_cl (ea_cons (ed_var 1 rfl (.inl rfl) rfl) (ea_cons (ed_cl (ea_cons (ed_tup (ea_cons (ed_ix (ed_var 0 rfl (.inl rfl) rfl) ed_int i1) (ea_cons ed_int ea_nil))) ea_nil) (hrm.mono (by decide)) ((rn_frac_of T.toTx (x := .tup [.int n, .int 100]) rfl (by
    intro t b e
    cases e
    decide +kernel)).is (show _ = fr (mkRat n 100) from rfl))) ea_nil)) (hrm.mono (by decide)) (rn_scaled0 T (hr.mono (by decide)) ((Sz.mk (n := 14) (t := (n : Int)) hn (by decide) (by decide)).mono (by decide)))) ⟨rfl, rfl⟩)
theorem rn_length_form (T : Tc E) {l : Ln} {x : D} {r : Rat} (h : Hd l x) (hn : l.n < 2 ^ 14) (hr : Sz 40 r) : Rn E 5 "length_form" [x, fm r 0] s (l.fD r) s := by
  cases l with
  | nat n => cases h; exact rn_length_nat T
  | part n => exact rn_length_part T h hn hr
  | auto => cases h; exact rn_length_str T
theorem rn_length_mo (T : Tc E) {m : Option Nat} {d : D} : Rn E 5 "length_form" [moD m, d] s (moF m) s := by
  cases m with
  | none => exact rn_length_str T
  | some m => exact rn_length_nat T
def Tl.fs (t : Tl) (r : Rat) : List D := [t.w.fD r, fm t.least 0, moF t.most, t.ml.fD r, t.mr.fD r, t.pl.fD r, t.pr.fD r]
theorem th_fs {t : Tl} {hs : List D} (h : Th t hs) (r : Rat) : hs.map (lenF r) = t.fs r := by
  cases h with
  | mk h1 h2 h3 h4 h5 =>
    simp only [List.map_cons, List.map_nil, h1.lenF, h2.lenF, h3.lenF, h4.lenF, h5.lenF, lenF_mo]
    rfl
theorem th_len (T : Tc E) {t : Tl} (ok : t.Sm) {hs : List D} (h : Th t hs) {r : Rat} (hr : Sz 40 r) {i : Nat} {d : D} (hi : hs[i]? = some d) : ∀ s, Rn E 5 "length_form" [d, fm r 0] s (lenF r d) s := by
  cases h with
  | mk h1 h2 h3 h4 h5 =>
    match i, hi with
    | 0, hi => cases hi; exact fun s => (rn_length_form T h1 ok.w hr).is (h1.lenF r).symm
    | 1, hi => cases hi; exact fun s => rn_length_nat T
    | 2, hi => cases hi; exact fun s => (rn_length_mo T).is (lenF_mo _ r).symm
    | 3, hi => cases hi; exact fun s => (rn_length_form T h2 ok.ml hr).is (h2.lenF r).symm
    | 4, hi => cases hi; exact fun s => (rn_length_form T h3 ok.mr hr).is (h3.lenF r).symm
    | 5, hi => cases hi; exact fun s => (rn_length_form T h4 ok.pl hr).is (h4.lenF r).symm
    | 6, hi => cases hi; exact fun s => (rn_length_form T h5 ok.pr hr).is (h5.lenF r).symm
    | i + 7, hi => cases hi
theorem rn_told_forms (T : Tc E) {t : Tl} (ok : t.Sm) {hs : List D} (h : Th t hs) {r : Rat} (hr : Sz 40 r) : Rn E 6 "told_forms" [.tup hs, fm r 0] s (.tup (t.fs r)) s := by
  refine T.d_told_forms.rn sc_told_forms rfl rfl fun fa cdv A outer sh H0 EX S0 p hrm => ?_
  conv => arg 2; whnf
  refine bk_cons (bs_ret (ed_tupleOf T.bf (El.ed (el_map [("length", 2)] (lenF r) rfl sc_told_forms.nd (ei_seq (ed_var 0 rfl (.inl rfl) rfl) (.inr rfl)) (blkOk_by rfl) (by rw [h.len]; decide) (fun i d hi => ?_))) (.inl rfl)) ⟨by rw [th_fs h], rfl⟩)
  exact ⟨_, _, fun c => eg_name 2 sc_told_forms.nd rfl (.inl rfl), by decide, fun c => ed_cl (ea_cons (ed_var 2 rfl (.inl rfl) rfl) (ea_cons (ed_var 1 rfl (.inr (.inl rfl)) rfl) ea_nil)) (hrm.mono (by decide)) (th_len T ok h hr hi _)⟩
end Law
set_option Elab.async false
set_option linter.all false
set_option maxRecDepth 100000
set_option maxHeartbeats 4000000
namespace Law
open PySem PySem.Spec PyProof.Rows L2 Gh
variable {E : En} {s : Sx}
theorem moF_eqC (m : Option Nat) : (moF m).eqC := by
  cases m with
  | none => exact eqC_str
  | some m => exact (eqD.fm _ _).eqC
theorem fD_eqC (l : Ln) (r : Rat) : (l.fD r).eqC := by
  cases l with
  | auto => exact eqC_str
  | _ => exact (eqD.fm _ _).eqC
theorem fD_auto (l : Ln) (r : Rat) : (l.fD r).eqb (.str "auto") = l.isA := by
  cases l with
  | auto => show (D.str _).eqb _ = _; rw [eqb_str]; decide +kernel
  | _ => exact fm_str _ _ _
theorem rn_held_form (T : Tc E) {x l : Rat} {m : Option Nat} {c : Addr} (hc : Hf E "plain_ask" c) (hx : Sz 3000 x) (hl : Sz 3000 l) (hm : ∀ k, m = some k → Sz 3000 (k : Rat)) :
    Rn E 3 "held_form" [fm x 0, fm l 0, moF m, .ref c] s (fm (heldR x l m) 0) s := by
  refine T.d_held_form.rn sc_held_form rfl rfl fun fa cdv A outer sh H0 EX S0 p hr => ?_
  conv => arg 2; whnf
  cases m with
  | none =>
    refine bk_cons (bs_set 4 sc_held_form.nd rfl (.inl rfl) (d := fm x 0) (ed_ifT (s1 := s) (Ew.et (ew_orT (Cp.et ((cp_eq hr (ed_var 2 rfl (.inl rfl) rfl) ed_str (moF_eqC none) eqC_str).is (by show (D.str _).eqb _ = _; rw [eqb_str]; decide +kernel))))) (ed_var 0 rfl (.inl rfl) rfl)) ?_)
    refine bk_cons (bs_ret (ed_if (et_val (ed_clL 3 hc rfl (.inl rfl) rfl (ea_cons (ed_var 1 rfl (.inl rfl) rfl) (ea_cons (ed_var 4 rfl (.inl rfl) rfl) ea_nil)) (hr.mono (by decide)) (rn_plain_ask T.toTx hl hx))) (fun _ => (ed_var 4 rfl (.inl rfl) rfl)) (fun _ => (ed_var 1 rfl (.inl rfl) rfl))) ⟨?_, rfl⟩)
    unfold heldR
    by_cases h : l ≤ x <;> simp [h]
  | some m =>
    have hm := hm m rfl
    have e : (moF (some m)).eqb (.str "none") = false := fm_str _ _ _
    have hf : Sz 3000 (if x ≤ (m : Rat) then x else (m : Rat)) := by split <;> assumption
    refine bk_cons (bs_set 4 sc_held_form.nd rfl (.inl rfl) (d := fm (if x ≤ (m : Rat) then x else (m : Rat)) 0) (Ed.is (ed_if (s1 := s) (Ew.et (ew_orF (Cp.et ((cp_eq hr (ed_var 2 rfl (.inl rfl) rfl) ed_str (moF_eqC _) eqC_str).is e)) (ew_or1 (et_val (ed_clL 3 hc rfl (.inl rfl) rfl (ea_cons (ed_var 0 rfl (.inl rfl) rfl) (ea_cons (ed_var 2 rfl (.inl rfl) rfl) ea_nil)) (hr.mono (by decide)) (rn_plain_ask T.toTx hx hm)))))) (fun _ => (ed_var 0 rfl (.inl rfl) rfl)) (fun _ => (ed_var 2 rfl (.inl rfl) rfl))) ?_) ?_)
    · by_cases h : x ≤ (m : Rat) <;> simp [h]; rfl
    refine bk_cons (bs_ret (ed_if (et_val (ed_clL 3 hc rfl (.inl rfl) rfl (ea_cons (ed_var 1 rfl (.inl rfl) rfl) (ea_cons (ed_var 4 rfl (.inl rfl) rfl) ea_nil)) (hr.mono (by decide)) (rn_plain_ask T.toTx hl hf))) (fun _ => (ed_var 4 rfl (.inl rfl) rfl)) (fun _ => (ed_var 1 rfl (.inl rfl) rfl))) ⟨?_, rfl⟩)
    unfold heldR
    dsimp only
    generalize (if x ≤ (m : Rat) then x else (m : Rat)) = f
    by_cases h : l ≤ f <;> simp [h]
theorem rn_margin_form (T : Tc E) (l : Ln) (r : Rat) : Rn E 1 "margin_form" [l.fD r] s (fm (l.wt r) 0) s := by
  refine T.d_margin_form.rn sc_margin_form rfl rfl fun fa cdv A outer sh H0 EX S0 p hr => ?_
  conv => arg 2; whnf
  refine bk_cons (bs_ret (ed_if (Cp.et (cp_eq hr (ed_var 0 rfl (.inl rfl) rfl) ed_str (fD_eqC l r) eqC_str)) (fun _ => (ed_cst T.c_FLAT)) (fun _ => (ed_var 0 rfl (.inl rfl) rfl))) ⟨?_, rfl⟩)
  rw [fD_auto]
  cases l <;> rfl
def fiveD (f : Five) : D := .tup [fm f.left 0, fm f.near 0, fm f.kept 0, fm f.far 0, fm f.right 0]
theorem rn_across_forms (T : Tc E) {t : Tl} (ok : t.Ok) (sm : t.Sm) {r : Rat} (hr : Sz 40 r) {c : Addr} (hc : Hf E "plain_ask" c) : Rn E 5 "across_forms" [.tup (t.fs r), fm r 0, .ref c] s (fiveD (t.five r)) s := by
  have z0 : ∀ {n q}, Sz n q → n ≤ 3000 → Sz 3000 q := fun h l => h.mono l
  have zr : Sz 3000 r := z0 hr (by decide)
  have z1 := Ln.sz hr sm.ml
  have z2 := Ln.sz hr sm.pl
  have z3 := Ln.sz hr sm.pr
  have z4 := Ln.sz hr sm.mr
  have f1 := Ln.fD_of (r := r) ok.pl
  have f2 := Ln.fD_of (r := r) ok.pr
  refine T.d_across_forms.rn sc_across_forms rfl rfl fun fa cdv A outer sh H0 EX S0 p hrm => ?_
  conv => arg 2; whnf
  unfold Tl.fs
  rw [f1, f2]
  refine bk_cons (bs_asg (ed_var 0 rfl (.inl rfl) rfl) (eg_tup rfl (egs_cons (eg_name 3 sc_across_forms.nd rfl (.inl rfl)) (egs_cons (eg_name 4 sc_across_forms.nd rfl (.inl rfl)) (egs_cons (eg_name 5 sc_across_forms.nd rfl (.inl rfl)) (egs_cons (eg_name 6 sc_across_forms.nd rfl (.inl rfl)) (egs_cons (eg_name 7 sc_across_forms.nd rfl (.inl rfl)) (egs_cons (eg_name 8 sc_across_forms.nd rfl (.inl rfl)) (egs_cons (eg_name 9 sc_across_forms.nd rfl (.inl rfl)) egs_nil)))))))) ?_)
  refine bk_cons (bs_set 10 sc_across_forms.nd rfl (.inl rfl) (ed_cl (ea_cons (ed_var 6 rfl (.inl rfl) rfl) ea_nil) (hrm.mono (by decide)) (rn_margin_form T t.ml r)) ?_)
  refine bk_cons (bs_set 11 sc_across_forms.nd rfl (.inl rfl) (ed_cl (ea_cons (ed_cl (ea_cons (ed_cl (ea_cons (ed_var 1 rfl (.inl rfl) rfl) (ea_cons (ed_var 10 rfl (.inl rfl) rfl) ea_nil)) (hrm.mono (by decide)) (rn_minus0 T zr (z0 z1 (by decide)))) (ea_cons (ed_var 8 rfl (.inl rfl) rfl) ea_nil)) (hrm.mono (by decide)) (rn_minus0 T (z0 (hr.sub z1) (by decide)) (z0 z2 (by decide)))) (ea_cons (ed_var 9 rfl (.inl rfl) rfl) ea_nil)) (hrm.mono (by decide)) (rn_minus0 T (z0 ((hr.sub z1).sub z2) (by decide)) (z0 z3 (by decide)))) ?_)
  refine bk_cons (bs_set 12 sc_across_forms.nd rfl (.inl rfl) (d := fm (t.free r) 0) (ed_cl (ea_cons (ed_var 11 rfl (.inl rfl) rfl) (ea_cons (ed_cl (ea_cons (ed_var 7 rfl (.inl rfl) rfl) ea_nil) (hrm.mono (by decide)) (rn_margin_form T t.mr r)) ea_nil)) (hrm.mono (by decide)) (rn_minus0 T (z0 (((hr.sub z1).sub z2).sub z3) (by decide)) (z0 z4 (by decide)))) ?_)
  refine bk_cons (bs_set 13 sc_across_forms.nd rfl (.inl rfl) (d := fm (t.kept r) 0) (ed_cl (ea_cons (Ed.is (y := fm (if t.w.isA then t.free r else t.w.wt r) 0) (ed_if (Cp.et (cp_eq hrm (ed_var 3 rfl (.inl rfl) rfl) ed_str (fD_eqC t.w r) eqC_str)) (fun _ => (ed_var 12 rfl (.inl rfl) rfl)) (fun _ => (ed_var 3 rfl (.inl rfl) rfl))) ?_) (ea_cons (ed_var 4 rfl (.inl rfl) rfl) (ea_cons (ed_var 5 rfl (.inl rfl) rfl) (ea_cons (ed_var 2 rfl (.inl rfl) rfl) ea_nil)))) (hrm.mono (by decide)) (rn_held_form T hc ((sm.zw hr).mono (by decide)) ((Sz.nat sm.least).mono (by decide)) fun k e => (Sz.nat (sm.most k e)).mono (by decide))) ?_)
  · rw [fD_auto]
    cases t.w <;> rfl
  refine bk_cons (bs_set 14 sc_across_forms.nd rfl (.inl rfl) (d := fm (t.spare r) 0) (ed_cl (ea_cons (ed_var 12 rfl (.inl rfl) rfl) (ea_cons (ed_var 13 rfl (.inl rfl) rfl) ea_nil)) (hrm.mono (by decide)) (rn_minus0 T ((sm.zfree hr).mono (by decide)) ((sm.zkept hr).mono (by decide)))) ?_)
  have fin : Bk (bodyF E ["told", "room", "ask", "width", "least", "most", "mleft", "mright", "near", "far", "left", "rest", "free", "kept", "spare", "right"] "across_forms" t_across_forms s fa cdv A outer sh H0 EX S0 p) ((defBody t_across_forms).drop 7) [.val (.tup [t.w.fD r, fm t.least 0, moF t.most, t.ml.fD r, t.mr.fD r, fm (t.pl.wt r) 0, fm (t.pr.wt r) 0]), .val (fm r 0), .val (.ref c), .val (t.w.fD r), .val (fm t.least 0), .val (moF t.most), .val (t.ml.fD r), .val (t.mr.fD r), .val (fm (t.pl.wt r) 0), .val (fm (t.pr.wt r) 0), .val (fm (t.left r) 0), .val (fm (r - t.ml.wt r - t.pl.wt r - t.pr.wt r) 0), .val (fm (t.free r) 0), .val (fm (t.kept r) 0), .val (fm (t.spare r) 0), .no] s
      ⟨fun _ t' => fiveD (t.five r) = .non ∧ t' = s, fun r' t' => r' = fiveD (t.five r) ∧ t' = s, fun _ _ => False, fun _ _ => False⟩ := by
    conv => arg 2; whnf
    exact bk_cons (bs_set 15 sc_across_forms.nd rfl (.inl rfl) (ed_cl (ea_cons (ed_var 1 rfl (.inl rfl) rfl) (ea_cons (ed_cl (ea_cons (ed_cl (ea_cons (ed_var 10 rfl (.inl rfl) rfl) (ea_cons (ed_var 8 rfl (.inl rfl) rfl) ea_nil)) (hrm.mono (by decide)) (rn_plus0 T ((sm.zleft hr).mono (by decide)) (z2.mono (by decide)))) (ea_cons (ed_cl (ea_cons (ed_var 13 rfl (.inl rfl) rfl) (ea_cons (ed_var 9 rfl (.inl rfl) rfl) ea_nil)) (hrm.mono (by decide)) (rn_plus0 T ((sm.zkept hr).mono (by decide)) (z3.mono (by decide)))) ea_nil)) (hrm.mono (by decide)) (rn_plus0 T (((sm.zleft hr).add z2).mono (by decide)) (((sm.zkept hr).add z3).mono (by decide)))) ea_nil)) (hrm.mono (by decide)) (rn_minus0 T zr ((((sm.zleft hr).add z2).add ((sm.zkept hr).add z3)).mono (by decide))))
      (bk_cons (bs_ret (ed_tup (ea_cons (ed_var 10 rfl (.inl rfl) rfl) (ea_cons (ed_var 8 rfl (.inl rfl) rfl) (ea_cons (ed_var 13 rfl (.inl rfl) rfl) (ea_cons (ed_var 9 rfl (.inl rfl) rfl) (ea_cons (ed_var 15 rfl (.inl rfl) rfl) ea_nil)))))) ⟨rfl, rfl⟩)))
  refine bk_cons (bs_if (Ew.et (ew_and (Cp.et (cp_eq hrm (ed_var 6 rfl (.inl rfl) rfl) ed_str (fD_eqC t.ml r) eqC_str)) fun _ => (ew_and1 (et_not (et_val (ed_clL 2 hc rfl (.inl rfl) rfl (ea_cons (ed_var 14 rfl (.inl rfl) rfl) (ea_cons (ed_cst T.c_FLAT) ea_nil)) (hrm.mono (by decide)) (rn_plain_ask T.toTx ((sm.zspare hr).mono (by decide)) .zero))))))) (fun h => ?_) (fun h => ?_))
  · rw [fD_auto] at h
    have e : t.left r = if t.mr.isA then t.spare r * (1 / 2) else t.spare r := by unfold Tl.left; rw [if_pos h]
    refine bk_cons (bs_set 10 sc_across_forms.nd rfl (.inl rfl) (d := fm (t.left r) 0) (Ed.is (ed_if (Cp.et (cp_eq hrm (ed_var 7 rfl (.inl rfl) rfl) ed_str (fD_eqC t.mr r) eqC_str)) (fun _ => (ed_cl (ea_cons (ed_var 14 rfl (.inl rfl) rfl) (ea_cons (ed_cst T.c_HALF) ea_nil)) (hrm.mono (by decide)) (rn_scaled0 T ((sm.zspare hr).mono (by decide)) ⟨by decide +kernel, by decide +kernel⟩))) (fun _ => (ed_var 14 rfl (.inl rfl) rfl))) ?_) (bk_nil fin))
    rw [fD_auto, e]
    cases t.mr.isA <;> rfl
  · rw [fD_auto] at h
    have e : t.left r = t.ml.wt r := by unfold Tl.left; rw [h]; rfl
    rw [e] at fin
    exact bk_nil fin
theorem rn_forms_in (T : Tc E) {t : Tl} (ok : t.Ok) (sm : t.Sm) {hs : List D} (h : Th t hs) {r : Rat} (hr : Sz 40 r) {c : Addr} (hc : Hf E "plain_ask" c) : Rn E 7 "forms_in" [.tup hs, fm r 0, .ref c] s (fiveD (t.five r)) s := by
  refine T.d_forms_in.rn sc_forms_in rfl rfl fun fa cdv A outer sh H0 EX S0 p hrm => ?_
  conv => arg 2; whnf
  exact bk_cons (bs_ret (ed_cl (ea_cons (ed_cl (ea_cons (ed_var 0 rfl (.inl rfl) rfl) (ea_cons (ed_var 1 rfl (.inl rfl) rfl) ea_nil)) (hrm.mono (by decide)) (rn_told_forms T sm h hr)) (ea_cons (ed_var 1 rfl (.inl rfl) rfl) (ea_cons (ed_var 2 rfl (.inl rfl) rfl) ea_nil))) (hrm.mono (by decide)) (rn_across_forms T ok sm hr hc)) ⟨rfl, rfl⟩)
end Law
set_option Elab.async false
set_option linter.all false
set_option maxRecDepth 100000
set_option maxHeartbeats 4000000
namespace Law
open PySem PySem.Spec PyProof.Rows L2 Gh
variable {E : En} {s : Sx}
/-- a room as handed -/
structure Rm (y : D) (r : Rat) : Prop where
  dat : dat y = true
  wd : isWd y = true
  sz : ∀ t b, items y = some [.int t, .int b] → b.natAbs < 2 ^ 8000
  val : frq y = r
theorem Rm.fr {y : D} {r : Rat} (h : Rm y r) : isFr y = true := by
  have := h.wd
  unfold isWd at this
  exact (Bool.and_eq_true_iff.mp this).1
def at0 (d : D) : D := (d.at 0).getD .non
theorem rn_across_of (T : Tc E) {t : Tl} (ok : t.Ok) (sm : t.Sm) {x : D} {hs : List D} (h : Th t hs) (hx : items x = some hs) {y : D} {r : Rat} (hy : Rm y r) (hr : Sz 40 r) :
    Rn E 9 "across_of" [x, y] s (.tup ((t.five r).qs.map fr)) s := by
  obtain ⟨c, hc⟩ := T.ask
  refine T.d_across_of.rn sc_across_of rfl rfl fun fa cdv A outer sh H0 EX S0 p hrm => ?_
  conv => arg 2; whnf
  refine bk_cons (bs_set 2 sc_across_of.nd rfl (.inl rfl) (ed_cl (ea_cons (ed_var 0 rfl (.inl rfl) rfl) ea_nil) (hrm.mono (by decide)) (rn_checked_told T ok h hx)) ?_)
  refine bk_cons (bs_ifF (et_not (k := true) (et_val (ed_cl (ea_cons (ed_var 1 rfl (.inl rfl) rfl) ea_nil) (hrm.mono (by decide)) ((rn_is_width T.toTx hy.dat).is (by rw [hy.wd]))))) (bk_nil ?_))
  refine bk_cons (bs_ret (ed_tupleOf T.bf (El.ed (el_map [("form", 3)] at0 rfl sc_across_of.nd (ei_seq (ed_cl (ea_cons (ed_var 2 rfl (.inl rfl) rfl) (ea_cons (ed_cl (ea_cons (ed_cl (ea_cons (ed_var 1 rfl (.inl rfl) rfl) ea_nil) (hrm.mono (by decide)) ((rn_frac_of T.toTx hy.fr hy.sz).is (by rw [hy.val]))) ea_nil) (hrm.mono (by decide)) (rn_flat_form T)) (ea_cons (ed_fun hc) ea_nil))) (hrm.mono (by decide)) (rn_forms_in T ok sm h hr hc)) (.inr rfl)) (blkOk_by rfl) (by show 5 ≤ sizeLine; decide) (fun i d hi => ?_))) (.inl rfl)) ⟨rfl, rfl⟩)
  have hd : ∃ y, d.at 0 = some y ∧ at0 d = y := by
    match i, hi with
    | 0, hi => cases hi; exact ⟨_, rfl, rfl⟩
    | 1, hi => cases hi; exact ⟨_, rfl, rfl⟩
    | 2, hi => cases hi; exact ⟨_, rfl, rfl⟩
    | 3, hi => cases hi; exact ⟨_, rfl, rfl⟩
    | 4, hi => cases hi; exact ⟨_, rfl, rfl⟩
    | i + 5, hi => cases hi
  obtain ⟨y, h1, h2⟩ := hd
  rw [h2]
  exact ⟨_, _, fun c => eg_name 3 sc_across_of.nd rfl (.inl rfl), by decide, fun c => ed_ix (ed_var 3 rfl (.inl rfl) rfl) ed_int h1⟩
/-- what is_across tells of a thing -/
def isAc (f : Five) (x : D) : Bool := match items x with
  | some xs => decide (xs.length = 5) && xs.all isFr && decide (xs.map frq = f.qs)
  | none => false
theorem all_map {α : Type} (xs : List α) (f : α → Bool) : (xs.map f).all id = xs.all f := by simp [List.all_map]
theorem rn_is_across (T : Tc E) {t : Tl} (ok : t.Ok) (sm : t.Sm) {x : D} {hs : List D} (h : Th t hs) (hx : items x = some hs) {y : D} {r : Rat} (hy : Rm y r) (hr : Sz 40 r) {z : D} (hz : dat z = true)
    (hb : ∀ zs, items z = some zs → ∀ d ∈ zs, ∀ t b, items d = some [.int t, .int b] → b.natAbs < 2 ^ 8000) : Rn E 10 "is_across" [x, y, z] s (.bl (isAc (t.five r) z)) s := by
  obtain ⟨k, hk⟩ := dat_kind hz
  have h1 := isL_items hk hz
  refine T.d_is_across.rn sc_is_across rfl rfl fun fa cdv A outer sh H0 EX S0 p hrm => ?_
  conv => arg 2; whnf
  refine bk_cons (bs_set 3 sc_is_across.nd rfl (.inl rfl) (ed_cl (ea_cons (ed_var 0 rfl (.inl rfl) rfl) (ea_cons (ed_var 1 rfl (.inl rfl) rfl) ea_nil)) (hrm.mono (by decide)) (rn_across_of T ok sm h hx hy hr)) ?_)
  cases e : items z with
  | none =>
    rw [e] at h1
    exact bk_cons (bs_ifT (Ew.et (ew_orT (et_not (k := false) (et_val (ed_cl (ea_cons (ed_var 2 rfl (.inl rfl) rfl) ea_nil) (hrm.mono (by decide)) ((rn_is_list T.toTx hk).is (by rw [h1]; rfl))))))) (bk_cons (bs_ret ed_bl ⟨by unfold isAc; rw [e], rfl⟩)))
  | some zs =>
    rw [e] at h1
    have hd := items_dat e hz
    have R1 : Rn E 1 "is_list" [z] s (.bl true) s := (rn_is_list T.toTx hk).is (by rw [h1]; rfl)
    have hb := hb zs e
    by_cases hl : zs.length = 5
    · refine bk_cons (bs_if (Ew.et (ew_orF (et_not (k := true) (et_val (ed_cl (ea_cons (ed_var 2 rfl (.inl rfl) rfl) ea_nil) (hrm.mono (by decide)) R1))) (ew_orF (Cp.et ((cp_ne hrm (ed_len T.bf (ed_var 2 rfl (.inl rfl) rfl) (items_size e)) ed_int (eqC_int _) (eqC_int _)).is (y := false) (by rw [eqb_int, hl]; rfl))) (ew_or1 (et_not (k := zs.all isFr) (et_val (Ed.is (ed_all T.bf rfl (bs := zs.map isFr) (Ed.is (El.ed (el_map [("one", 4)] (fun d => .bl (isFr d)) rfl sc_is_across.nd (ei_seq (ed_var 2 rfl (.inl rfl) rfl) (items_or e)) (blkOk_by rfl) (by rw [hl]; decide) (fun i d hi => ?_))) ?_)) (by rw [all_map])))))))) (fun hf => ?_) (fun hf => ?_))
      · exact ⟨_, _, fun c => eg_name 4 sc_is_across.nd rfl (.inl rfl), by decide, fun c => ed_cl (ea_cons (ed_var 4 rfl (.inl rfl) rfl) ea_nil) (hrm.mono (by decide)) (rn_is_frac T.toTx (dats_mem hd (List.mem_of_getElem? hi)))⟩
      · rw [List.map_map]; rfl
      · have hf : zs.all isFr = false := by simpa using hf
        exact bk_cons (bs_ret ed_bl ⟨by unfold isAc; rw [e]; simp [hf], rfl⟩)
      · have hf : zs.all isFr = true := by simpa using hf
        have ha : ∀ d ∈ zs, isFr d = true := List.all_eq_true.mp hf
        refine bk_nil (bk_cons (bs_ret (Cp.ed (cp_eq (x := .tup ((zs.map frq).map fr)) hrm (Ed.is (ed_tupleOf T.bf (El.ed (el_map [("one", 4)] (fun d => fr (frq d)) rfl sc_is_across.nd (ei_seq (ed_var 2 rfl (.inl rfl) rfl) (items_or e)) (blkOk_by rfl) (by rw [hl]; decide) (fun i d hi => ?_))) (.inl rfl)) ?_) (ed_var 3 rfl (.inl rfl) rfl) (eqD.frs _).tup.eqC (eqD.frs _).tup.eqC)) ⟨?_, rfl⟩))
        · have m := List.mem_of_getElem? hi
          exact ⟨_, _, fun c => eg_name 4 sc_is_across.nd rfl (.inl rfl), by decide, fun c => ed_cl (ea_cons (ed_var 4 rfl (.inl rfl) rfl) ea_nil) (hrm.mono (by decide)) (rn_frac_of T.toTx (ha d m) (hb d m))⟩
        · rw [List.map_map]; rfl
        · rw [tup_eqb, frs_eqbs]; unfold isAc; rw [e]; simp [hf, hl]
    · refine bk_cons (bs_ifT (Ew.et (ew_orF (et_not (k := true) (et_val (ed_cl (ea_cons (ed_var 2 rfl (.inl rfl) rfl) ea_nil) (hrm.mono (by decide)) R1))) (ew_orT (Cp.et ((cp_ne hrm (ed_len T.bf (ed_var 2 rfl (.inl rfl) rfl) (items_size e)) ed_int (eqC_int _) (eqC_int _)).is (y := true) (by rw [eqb_int, decide_eq_false (by omega)]; rfl)))))) (bk_cons (bs_ret ed_bl ⟨by unfold isAc; rw [e]; simp [hl], rfl⟩)))
end Law
set_option Elab.async false
set_option linter.all false
set_option maxRecDepth 100000
set_option maxHeartbeats 4000000
namespace Law
open PySem PySem.Spec PyProof.Rows L2 Gh
variable {E : En} {s : Sx}
/-- a stream of draws with at most n drawn -/
def St (n : Nat) (s : Sx) : Prop := ∃ c z m : Nat, s = some [(c : Int), (z : Int), (m : Int)] ∧ z < 2 ^ 31 ∧ m ≤ n
theorem St.mono {m n : Nat} (h : St m s) (l : m ≤ n) : St n s := by
  obtain ⟨c, z, k, e, h1, h2⟩ := h
  exact ⟨c, z, k, e, h1, Nat.le_trans h2 l⟩
theorem St.some {n : Nat} (h : St n s) : s.isSome = true := by
  obtain ⟨c, z, k, e, _⟩ := h
  rw [e]; rfl
theorem mulS {a b : Int} (ha : a.natAbs < 2 ^ 100) (hb : b.natAbs < 2 ^ 100) : CMulW a b := wide_mul ha hb (by decide) (by decide) (by decide)
theorem rn_draw (T : Tc E) {n many : Nat} (h : St n s) (hn : n < 2 ^ 40) (hm : 0 < many) (hm2 : many < 2 ^ 60) : ∃ (d : Nat) (s' : Sx), d < many ∧ St (n + 1) s' ∧ Rn E 1 "_law_draw" [.mut, .int many] s (.int d) s' := by
  obtain ⟨c, z, m, rfl, hz, hmn⟩ := h
  by_cases hc : 0 < c
  · refine ⟨c % many, some [((c / many : Nat) : Int), z, m], Nat.mod_lt _ hm, ⟨_, _, _, rfl, hz, by omega⟩, ?_⟩
    refine T.d__law_draw.rn sc__law_draw rfl rfl fun fa cdv A outer sh H0 EX S0 p hr => ?_
    conv => arg 2; whnf
    refine bk_cons (bs_ifT (Cp.et ((cp_gt (ed_ixM (n := (c : Int)) (ed_var 0 rfl (.inl rfl) rfl) ed_int rfl) ed_int).is (decide_eq_true (by omega)))) ?_)
    refine bk_cons (bs_set 2 sc__law_draw.nd rfl (.inl rfl) (ed_bin (ed_intI T.bf (ed_ixM (n := (c : Int)) (ed_var 0 rfl (.inl rfl) rfl) ed_int rfl)) (ed_var 1 rfl (.inl rfl) rfl) rfl (by show (0 : Int) < many; omega)) ?_)
    refine bk_cons (bs_stM 0 rfl (.inl rfl) rfl (ed_bin (ed_ixM (n := (c : Int)) (ed_var 0 rfl (.inl rfl) rfl) ed_int rfl) (ed_var 1 rfl (.inl rfl) rfl) rfl (wide_div (i := (c : Int)) (b := 60) (by omega) (by omega) (by decide) (by decide))) ed_int rfl ?_)
    exact bk_cons (bs_ret (ed_var 2 rfl (.inl rfl) rfl) ⟨rfl, rfl⟩)
  · have hc : c = 0 := by omega
    subst hc
    have hb : ((z : Int) + 7919 * ((m + 1 : Nat) : Int)).natAbs < 2 ^ 60 := by omega
    have h5 : (0 : Int) ≤ ((z : Int) + 7919 * ((m + 1 : Nat) : Int)) ^ (5 : Int).toNat % 2147483647 := Int.emod_nonneg _ (by decide)
    have h6 : ((z : Int) + 7919 * ((m + 1 : Nat) : Int)) ^ (5 : Int).toNat % 2147483647 < 2147483647 := Int.emod_lt_of_pos _ (by decide)
    generalize hw : ((z : Int) + 7919 * ((m + 1 : Nat) : Int)) ^ (5 : Int).toNat % 2147483647 = w at h5 h6
    have h7 : (0 : Int) ≤ ((w + ((m + 1 : Nat) : Int)) * 40692 % 2147483629 / 16) % many := Int.emod_nonneg _ (by omega)
    have h8 : ((w + ((m + 1 : Nat) : Int)) * 40692 % 2147483629 / 16) % many < many := Int.emod_lt_of_pos _ (by omega)
    refine ⟨(((w + ((m + 1 : Nat) : Int)) * 40692 % 2147483629 / 16) % many).toNat, some [((0 : Nat) : Int), z, ((m + 1 : Nat) : Int)], by omega, ⟨_, _, _, rfl, hz, by omega⟩, ?_⟩
    refine T.d__law_draw.rn sc__law_draw rfl rfl fun fa cdv A outer sh H0 EX S0 p hr => ?_
    conv => arg 2; whnf
    refine bk_cons (bs_ifF (Cp.et ((cp_gt (ed_ixM (n := ((0 : Nat) : Int)) (ed_var 0 rfl (.inl rfl) rfl) ed_int rfl) ed_int).is (decide_eq_false (by omega)))) (bk_nil ?_))
    refine bk_cons (bs_stM 0 (n := ((m + 1 : Nat) : Int)) rfl (.inl rfl) rfl (Ed.is (ed_bin (ed_ixM (n := (m : Int)) (ed_var 0 rfl (.inl rfl) rfl) ed_int rfl) ed_int rfl trivial) (congrArg D.int (by omega))) ed_int rfl ?_)
    refine bk_cons (bs_set 3 (d := .int w) sc__law_draw.nd rfl (.inl rfl) (Ed.is (ed_bin (ed_bin (ed_intI T.bf (ed_bin (ed_ixM (n := (z : Int)) (ed_var 0 rfl (.inl rfl) rfl) ed_int rfl) (ed_bin ed_int (ed_ixM (n := ((m + 1 : Nat) : Int)) (ed_var 0 rfl (.inl rfl) rfl) ed_int rfl) rfl (mulS (by decide) (by omega))) rfl trivial)) ed_int rfl ⟨by decide, by decide, by omega⟩) ed_int rfl (by show (0 : Int) < 2147483647; decide)) (congrArg D.int hw)) ?_)
    refine bk_cons (bs_ret (Ed.is (ed_bin (ed_bin (ed_bin (ed_intI T.bf (ed_bin (ed_bin (ed_var 3 rfl (.inl rfl) rfl) (ed_ixM (n := ((m + 1 : Nat) : Int)) (ed_var 0 rfl (.inl rfl) rfl) ed_int rfl) rfl trivial) ed_int rfl (mulS (by omega) (by decide)))) ed_int rfl (by show (0 : Int) < 2147483629; decide)) ed_int rfl (wide_div (i := (w + ((m + 1 : Nat) : Int)) * 40692 % 2147483629) (b := 60) (by decide) (by decide) (by decide) (by decide))) (ed_var 1 rfl (.inl rfl) rfl) rfl (by show (0 : Int) < many; omega)) (congrArg D.int (Int.toNat_of_nonneg h7).symm)) ⟨rfl, rfl⟩)
/-- one of a list -/
theorem rn_pick (T : Tc E) {n : Nat} {xs : List D} (h : St n s) (hn : n < 2 ^ 40) (hx : xs ≠ []) (hx2 : xs.length < 2 ^ 60) : ∃ (d : D) (s' : Sx), d ∈ xs ∧ St (n + 1) s' ∧ Rn E 2 "_law_pick" [.mut, .lst xs] s d s' := by
  obtain ⟨i, s', hi, h', R⟩ := rn_draw T h hn (many := xs.length) (List.length_pos_iff.mpr hx) hx2
  refine ⟨xs[i], s', List.getElem_mem hi, h', ?_⟩
  have kd : s.isSome = s'.isSome := by rw [h.some, h'.some]
  refine T.d__law_pick.rn sc__law_pick kd rfl fun fa cdv A outer sh H0 EX S0 p hr => ?_
  conv => arg 2; whnf
  refine bk_cons (bs_ret (ed_ix (ed_var 1 rfl (.inl rfl) rfl) (ed_cl (ea_cons (ed_var 0 rfl (.inl rfl) rfl) (ea_cons (ed_len T.bf (ed_var 1 rfl (.inl rfl) rfl) rfl) ea_nil)) (hr.mono (by decide)) R) ?_) ⟨rfl, rfl⟩)
  show atI xs (i : Int) = some xs[i]
  unfold atI ixN
  simp [hi]
/-- the stream of a script -/
theorem rn_source (T : Tc E) {ns : List Int} {k : Nat} (hk : k < 2 ^ 40) (hl : ns.length < 2 ^ 40) : ∃ c z : Nat, z < 2 ^ 31 ∧ RnL E 1 "_law_source" [.scr ns, .int k] none [.int c, .int z, .int 0] none := by
  let cell : Int := if h : k < ns.length then ns[k] else (cutD ns none (some 1)).sum % 1000003 + 13 * k + 3
  have hz : ∀ v : Int, ((v + 48271 * cell) % 2147483629).toNat < 2 ^ 31 := fun v => by
    have := Int.emod_lt_of_pos (v + 48271 * cell) (show (0 : Int) < 2147483629 by decide)
    omega
  let fold : Nat → Int := fun i => (ns.take i).foldl (fun v o => (v * 37 + o) % 2147483629) (7919 * k + 17)
  have hf : ∀ i, (fold i).natAbs < 2 ^ 100 := fun i => by
    suffices ∀ (l : List Int) (v : Int), v.natAbs < 2 ^ 100 → (l.foldl (fun v o => (v * 37 + o) % 2147483629) v).natAbs < 2 ^ 100 from this _ _ (by omega)
    intro l
    induction l with
    | nil => exact fun v h => h
    | cons o l ih =>
      intro v _
      refine ih _ ?_
      show ((v * 37 + o) % 2147483629).natAbs < 2 ^ 100
      have h1 := Int.emod_lt_of_pos (v * 37 + o) (show (0 : Int) < 2147483629 by decide)
      have h2 := Int.emod_nonneg (v * 37 + o) (show (2147483629 : Int) ≠ 0 by decide)
      omega
  refine ⟨if 10 ^ 18 ≤ cell then cell.toNat else 0, ((fold ns.length + 48271 * cell) % 2147483629).toNat, hz _, ?_⟩
  refine T.d__law_source.rnL sc__law_source rfl rfl fun fa cdv A outer sh H0 EX S0 p hr => ?_
  conv => arg 2; whnf
  refine bkl_cons (bs_set 2 (d := .int cell) (s1 := none) sc__law_source.nd rfl (.inl rfl) ?_ ?_)
  · by_cases h : k < ns.length
    · refine ed_ifT (Cp.et ((cp_lt (ed_var 1 rfl (.inl rfl) rfl) (ed_len T.bf (ed_var 0 rfl (.inl rfl) rfl) rfl)).is (decide_eq_true (by omega)))) (ed_ixS (ed_var 0 rfl (.inl rfl) rfl) (ed_var 1 rfl (.inl rfl) rfl) ?_)
      show atI ns (k : Int) = some cell
      unfold atI ixN
      simp [h, cell]
    · refine ed_ifF (Cp.et ((cp_lt (ed_var 1 rfl (.inl rfl) rfl) (ed_len T.bf (ed_var 0 rfl (.inl rfl) rfl) rfl)).is (decide_eq_false (by omega)))) (Ed.is (ed_bin (ed_bin (ed_bin (ed_intI T.bf (ed_sum T.bf rfl (El.ed (el_sliceS (ed_var 0 rfl (.inl rfl) rfl) .none (.some ed_int))))) ed_int rfl (by show (0 : Int) < 1000003; decide)) (ed_bin ed_int (ed_var 1 rfl (.inl rfl) rfl) rfl (mulS (by decide) (by omega))) rfl trivial) ed_int rfl trivial) ?_)
      simp only [cell, h, dite_false]
  refine bkl_cons (bs_set 3 (d := .int (fold 0)) sc__law_source.nd rfl (.inl rfl) (ed_bin (ed_bin ed_int (ed_var 1 rfl (.inl rfl) rfl) rfl (mulS (by decide) (by omega))) ed_int rfl trivial) ?_)
  refine bkl_cons (bs_for PassesOwn.never rfl (ei_scr (ed_var 0 rfl (.inl rfl) rfl)) (fun i ρ s' => s' = none ∧ ∃ g, ρ = [.val (.scr ns), .val (.int k), .val (.int cell), .val (.int (fold i)), g]) ⟨rfl, _, rfl⟩ ?_ ?_)
  · rintro i d ρ' s' hi ⟨rfl, g, rfl⟩
    rw [List.getElem?_map] at hi
    cases e : ns[i]? with
    | none => rw [e] at hi; cases hi
    | some o =>
      rw [e] at hi; cases hi
      refine ⟨_, _, eg_name 4 sc__law_source.nd rfl (.inl rfl), bk_cons (bs_set 3 sc__law_source.nd rfl (.inl rfl) (ed_bin (ed_intI T.bf (ed_bin (ed_bin (ed_var 3 rfl (.inl rfl) rfl) ed_int rfl (mulS (hf i) (by decide))) (ed_var 4 rfl (.inl rfl) rfl) rfl trivial)) ed_int rfl (by show (0 : Int) < 2147483629; decide)) (bk_nil ⟨rfl, .val (.int o), ?_⟩))⟩
      have e2 : fold (i + 1) = (fold i * 37 + o) % 2147483629 := by
        show (ns.take (i + 1)).foldl _ _ = _
        rw [List.take_add_one, e]
        simp [fold]
      rw [e2]; rfl
  · rintro ρ' s' ⟨rfl, g, rfl⟩
    rw [List.length_map]
    refine bkl_ret (el_lst (ea_cons (Ed.is (ed_if (Cp.et (cp_ge (ed_var 2 rfl (.inl rfl) rfl) (ed_bin ed_int ed_int rfl ⟨by decide, by decide, by decide⟩))) (fun _ => (ed_var 2 rfl (.inl rfl) rfl)) (fun _ => ed_int)) ?_) (ea_cons (Ed.is (ed_bin (ed_intI T.bf (ed_bin (ed_var 3 rfl (.inl rfl) rfl) (ed_mul (.inl ⟨by decide, by decide⟩) ed_int (ed_var 2 rfl (.inl rfl) rfl)) rfl trivial)) ed_int rfl (by show (0 : Int) < 2147483629; decide)) ?_) (ea_cons ed_int ea_nil))))
    · show (if decide ((10 : Int) ^ (18 : Int).toNat ≤ cell) = true then D.int cell else D.int 0) = _
      by_cases hc : (10 : Int) ^ 18 ≤ cell
      · have e : decide ((10 : Int) ^ (18 : Int).toNat ≤ cell) = true := decide_eq_true hc
        rw [e, if_pos hc, Int.toNat_of_nonneg (by omega)]; rfl
      · have e : decide ((10 : Int) ^ (18 : Int).toNat ≤ cell) = false := decide_eq_false hc
        rw [e, if_neg hc]; rfl
    · exact congrArg D.int (Int.toNat_of_nonneg (Int.emod_nonneg _ (by decide))).symm
end Law
set_option Elab.async false
set_option linter.all false
set_option maxRecDepth 100000
set_option maxHeartbeats 4000000
namespace Law
open PySem PySem.Spec PyProof.Rows L2 Gh
variable {E : En} {s : Sx}
/-- the loop of Euclid, by the frames -/
theorem rn_law_lowestN (T : Tc E) {t : Int} {b : Nat} (hb : b ≠ 0) (hs : b < 2 ^ 8000) : Rn E 1 "_law_lowest" [.int t, .int b] s (fr (mkRat t b)) s := by
  refine T.d__law_lowest.rn sc__law_lowest rfl rfl fun fa cdv A outer sh H0 EX S0 p hr => ?_
  conv => arg 2; whnf
  refine bk_cons (bs_par 2 3 rfl sc__law_lowest.nd rfl rfl (by decide) rfl rfl (ea_cons (ed_abs T.bf (ed_var 0 rfl (.inl rfl) rfl)) (ea_cons (ed_var 1 rfl (.inl rfl) rfl) ea_nil)) ?_)
  refine bk_cons (bs_while PassesOwn.never (fun ρ s' => s' = s ∧ ∃ x y : Nat, ρ = [.val (.int t), .val (.int b), .val (.int x), .val (.int y)] ∧ Nat.gcd x y = Nat.gcd t.natAbs b) (fun ρ _ => match ρ with | [_, _, _, .val (.int y)] => y.toNat | _ => 0) ⟨rfl, t.natAbs, b, rfl, rfl⟩ ?_)
  rintro ρ s' ⟨rfl, x, y, rfl, g⟩
  refine ⟨_, _, (cp_gt (ed_var 3 rfl (.inl rfl) rfl) ed_int).et, fun h => ?_, fun h => ?_⟩
  · have hy : (0 : Int) < y := of_decide_eq_true h
    refine bk_cons (bs_par 2 3 rfl sc__law_lowest.nd rfl rfl (by decide) rfl rfl (ea_cons (ed_var 3 rfl (.inl rfl) rfl) (ea_cons (ed_bin (ed_var 2 rfl (.inl rfl) rfl) (ed_var 3 rfl (.inl rfl) rfl) rfl hy) ea_nil)) (bk_nil ?_))
    refine ⟨⟨rfl, y, x % y, ?_, ?_⟩, ?_⟩
    · rfl
    · rw [← g]; exact (gcd_step x y (by omega)).symm
    · show ((x : Int) % (y : Int)).toNat < (y : Int).toNat
      have := Int.emod_lt_of_pos (x : Int) hy
      have := Int.emod_nonneg (x : Int) (by omega : (y : Int) ≠ 0)
      omega
  · have hy : y = 0 := by
      have h1 : ¬ ((0 : Int) < (y : Int)) := of_decide_eq_false h
      omega
    subst hy
    rw [Nat.gcd_zero_right] at g
    have hx : 0 < x := by
      rw [g]; exact Nat.gcd_pos_of_pos_right _ (by omega)
    have hx2 : x < 2 ^ 8000 := Nat.lt_of_le_of_lt (by rw [g]; exact Nat.gcd_le_right _ (by omega)) hs
    have hc : ∀ i : Int, CDivW i x := fun i => wide_div (by omega) (b := 8000) (by rw [Int.natAbs_natCast]; exact hx2) (by decide) (by decide)
    refine bk_cons (bs_ret (ed_tup (ea_cons (ed_bin (ed_var 0 rfl (.inl rfl) rfl) (ed_var 2 rfl (.inl rfl) rfl) rfl (hc t)) (ea_cons (ed_bin (ed_var 1 rfl (.inl rfl) rfl) (ed_var 2 rfl (.inl rfl) rfl) rfl (hc b)) ea_nil))) ⟨?_, rfl⟩)
    unfold fr
    rw [mk_num t b hb, mk_den t b hb, ← g]
theorem rn_law_lowest (T : Tc E) {t b : Int} (hb : 0 < b) (hs : b.natAbs < 2 ^ 8000) : Rn E 1 "_law_lowest" [.int t, .int b] s (fr (mkRat t b.toNat)) s := by
  obtain ⟨n, rfl⟩ := Int.eq_ofNat_of_zero_le (Int.le_of_lt hb)
  exact rn_law_lowestN T (by omega) (by simpa using hs)
section
variable {a b : Rat}
theorem rn_law_plus (T : Tc E) (ha : Sz 3000 a) (hb : Sz 3000 b) : Rn E 2 "_law_plus" [fr a, fr b] s (fr (a + b)) s := by
  refine T.d__law_plus.rn sc__law_plus rfl rfl fun fa cdv A outer sh H0 EX S0 p hr => ?_
  conv => arg 2; whnf
  refine bk_cons (bs_ret (ed_cl (ea_cons (ed_bin (ed_bin (ed_ix (ed_var 0 rfl (.inl rfl) rfl) ed_int rfl) (ed_ix (ed_var 1 rfl (.inl rfl) rfl) ed_int rfl) rfl (mulW ha.n hb.d)) (ed_bin (ed_ix (ed_var 1 rfl (.inl rfl) rfl) ed_int rfl) (ed_ix (ed_var 0 rfl (.inl rfl) rfl) ed_int rfl) rfl (mulW hb.n ha.d)) rfl trivial) (ea_cons (ed_bin (ed_ix (ed_var 0 rfl (.inl rfl) rfl) ed_int rfl) (ed_ix (ed_var 1 rfl (.inl rfl) rfl) ed_int rfl) rfl (mulW ha.d hb.d)) ea_nil)) (hr.mono (by decide)) (rn_law_lowest T (dd_pos a b) (dd_size ha hb))) ⟨?_, rfl⟩)
  rw [dd_nat, add_mk]
theorem rn_law_minus (T : Tc E) (ha : Sz 3000 a) (hb : Sz 3000 b) : Rn E 2 "_law_minus" [fr a, fr b] s (fr (a - b)) s := by
  refine T.d__law_minus.rn sc__law_minus rfl rfl fun fa cdv A outer sh H0 EX S0 p hr => ?_
  conv => arg 2; whnf
  refine bk_cons (bs_ret (ed_cl (ea_cons (ed_bin (ed_bin (ed_ix (ed_var 0 rfl (.inl rfl) rfl) ed_int rfl) (ed_ix (ed_var 1 rfl (.inl rfl) rfl) ed_int rfl) rfl (mulW ha.n hb.d)) (ed_bin (ed_ix (ed_var 1 rfl (.inl rfl) rfl) ed_int rfl) (ed_ix (ed_var 0 rfl (.inl rfl) rfl) ed_int rfl) rfl (mulW hb.n ha.d)) rfl trivial) (ea_cons (ed_bin (ed_ix (ed_var 0 rfl (.inl rfl) rfl) ed_int rfl) (ed_ix (ed_var 1 rfl (.inl rfl) rfl) ed_int rfl) rfl (mulW ha.d hb.d)) ea_nil)) (hr.mono (by decide)) (rn_law_lowest T (dd_pos a b) (dd_size ha hb))) ⟨?_, rfl⟩)
  rw [dd_nat, sub_mk]
theorem rn_law_times (T : Tc E) (ha : Sz 3000 a) (hb : Sz 3000 b) : Rn E 2 "_law_times" [fr a, fr b] s (fr (a * b)) s := by
  refine T.d__law_times.rn sc__law_times rfl rfl fun fa cdv A outer sh H0 EX S0 p hr => ?_
  conv => arg 2; whnf
  refine bk_cons (bs_ret (ed_cl (ea_cons (ed_bin (ed_ix (ed_var 0 rfl (.inl rfl) rfl) ed_int rfl) (ed_ix (ed_var 1 rfl (.inl rfl) rfl) ed_int rfl) rfl (mulW ha.n hb.n)) (ea_cons (ed_bin (ed_ix (ed_var 0 rfl (.inl rfl) rfl) ed_int rfl) (ed_ix (ed_var 1 rfl (.inl rfl) rfl) ed_int rfl) rfl (mulW ha.d hb.d)) ea_nil)) (hr.mono (by decide)) (rn_law_lowest T (dd_pos a b) (dd_size ha hb))) ⟨?_, rfl⟩)
  rw [dd_nat, mul_mk]

theorem rn_law_less (T : Tc E) (ha : Sz 3000 a) (hb : Sz 3000 b) : Rn E 1 "_law_less" [fr a, fr b] s (.bl (decide (a < b))) s := by
  refine T.d__law_less.rn sc__law_less rfl rfl fun fa cdv A outer sh H0 EX S0 p hr => ?_
  conv => arg 2; whnf
  refine bk_cons (bs_ret (Cp.ed (cp_lt (ed_bin (ed_ix (ed_var 0 rfl (.inl rfl) rfl) ed_int rfl) (ed_ix (ed_var 1 rfl (.inl rfl) rfl) ed_int rfl) rfl (mulW ha.n hb.d)) (ed_bin (ed_ix (ed_var 1 rfl (.inl rfl) rfl) ed_int rfl) (ed_ix (ed_var 0 rfl (.inl rfl) rfl) ed_int rfl) rfl (mulW hb.n ha.d)))) ⟨?_, rfl⟩)
  exact congrArg D.bl (decide_eq_decide.mpr (Rat.lt_iff a b).symm)
/-- times a pair in any terms -/
theorem rn_law_timesP (T : Tc E) {n m : Nat} (ha : Sz 3000 a) (hn : n < 2 ^ 3000) (hm : m < 2 ^ 3000) (hm0 : m ≠ 0) : Rn E 2 "_law_times" [fr a, .tup [.int n, .int m]] s (fr (a * mkRat n m)) s := by
  refine T.d__law_times.rn sc__law_times rfl rfl fun fa cdv A outer sh H0 EX S0 p hr => ?_
  conv => arg 2; whnf
  have h1 : ((n : Int)).natAbs < 2 ^ 3000 := hn
  have h2 : ((m : Int)).natAbs < 2 ^ 3000 := hm
  have h3 : 0 < (a.den : Int) * (m : Int) := Int.mul_pos (den_pos a) (by omega)
  have h4 : ((a.den : Int) * (m : Int)).natAbs < 2 ^ 8000 := by
    rw [Int.natAbs_mul]; exact lt_8000 (Nat.lt_of_lt_of_le (two_pow_mul ha.d h2) (Nat.pow_le_pow_right (by decide) (by decide)))
  refine bk_cons (bs_ret (ed_cl (ea_cons (ed_bin (ed_ix (ed_var 0 rfl (.inl rfl) rfl) ed_int rfl) (ed_ix (ed_var 1 rfl (.inl rfl) rfl) ed_int rfl) rfl (mulW ha.n h1)) (ea_cons (ed_bin (ed_ix (ed_var 0 rfl (.inl rfl) rfl) ed_int rfl) (ed_ix (ed_var 1 rfl (.inl rfl) rfl) ed_int rfl) rfl (mulW ha.d h2)) ea_nil)) (hr.mono (by decide)) (rn_law_lowest T h3 h4)) ⟨?_, rfl⟩)
  rw [← Int.natCast_mul, Int.toNat_natCast]
  have e := Rat.mkRat_mul_mkRat a.num n a.den m
  rw [Rat.mkRat_self] at e
  rw [e]
theorem sgn_pos {x : Int} (h : x ≠ 0) : 0 < (if 0 < x then (1 : Int) else -1) * x := by
  by_cases z : 0 < x
  · rw [if_pos z]; omega
  · rw [if_neg z]; omega
/-- a fraction by another one -/
def ovr (a b : Rat) : Rat := mkRat ((if 0 < b.num then (1 : Int) else -1) * a.num * b.den) ((if 0 < b.num then (1 : Int) else -1) * a.den * b.num).toNat
theorem rn_law_over (T : Tc E) (ha : Sz 1000 a) (hb : Sz 1000 b) (h0 : b.num ≠ 0) : Rn E 2 "_law_over" [fr a, fr b] s (fr (ovr a b)) s := by
  refine T.d__law_over.rn sc__law_over rfl rfl fun fa cdv A outer sh H0 EX S0 p hr => ?_
  conv => arg 2; whnf
  refine bk_cons (bs_set 2 (d := .int (if 0 < b.num then (1 : Int) else -1)) sc__law_over.nd rfl (.inl rfl) (Ed.is (ed_if (Cp.et (cp_gt (ed_ix (ed_var 1 rfl (.inl rfl) rfl) ed_int rfl) ed_int)) (fun _ => ed_int) (fun _ => (ed_neg ed_int))) ?_) ?_)
  · by_cases z : 0 < b.num
    · rw [decide_eq_true z, if_pos z]; rfl
    · rw [decide_eq_false z, if_neg z]; rfl
  have hs : (if 0 < b.num then (1 : Int) else -1).natAbs < 2 ^ 3000 := by
    split <;> exact Nat.one_lt_two_pow (by decide)
  have hsg : (if 0 < b.num then (1 : Int) else -1).natAbs = 1 := by split <;> rfl
  have e : (if 0 < b.num then (1 : Int) else -1) * a.den * b.num = a.den * ((if 0 < b.num then (1 : Int) else -1) * b.num) := by
    rw [Int.mul_comm _ (a.den : Int), Int.mul_assoc]
  have w1 : ((if 0 < b.num then (1 : Int) else -1) * a.num).natAbs < 2 ^ 3000 := by
    rw [Int.natAbs_mul, hsg, Nat.one_mul]; exact (ha.mono (by decide)).n
  have w2 : ((if 0 < b.num then (1 : Int) else -1) * a.den).natAbs < 2 ^ 3000 := by
    rw [Int.natAbs_mul, hsg, Nat.one_mul]; exact (ha.mono (by decide)).d
  have w3 : ((if 0 < b.num then (1 : Int) else -1) * a.den * b.num).natAbs < 2 ^ 8000 := by
    rw [Int.natAbs_mul]; exact lt_8000 (Nat.lt_of_lt_of_le (two_pow_mul w2 (hb.mono (m := 1000) (n := 3000) (by decide)).n) (Nat.pow_le_pow_right (by decide) (by decide)))
  refine bk_cons (bs_ret (ed_cl (ea_cons (ed_bin (ed_bin (ed_var 2 rfl (.inl rfl) rfl) (ed_ix (ed_var 0 rfl (.inl rfl) rfl) ed_int rfl) rfl (mulW hs (ha.mono (by decide)).n)) (ed_ix (ed_var 1 rfl (.inl rfl) rfl) ed_int rfl) rfl (mulW w1 (hb.mono (by decide)).d)) (ea_cons (ed_bin (ed_bin (ed_var 2 rfl (.inl rfl) rfl) (ed_ix (ed_var 0 rfl (.inl rfl) rfl) ed_int rfl) rfl (mulW hs (ha.mono (by decide)).d)) (ed_ix (ed_var 1 rfl (.inl rfl) rfl) ed_int rfl) rfl (mulW w2 (hb.mono (by decide)).n)) ea_nil)) (hr.mono (by decide)) (rn_law_lowest T ?_ w3)) ⟨rfl, rfl⟩)
  rw [e]
  exact Int.mul_pos (den_pos a) (sgn_pos h0)
theorem ovr_sz (h0 : b.num ≠ 0) : ∀ m n, a.num.natAbs < 2 ^ m → a.den < 2 ^ n → b.num.natAbs < 2 ^ m → b.den < 2 ^ n → Sz (m + n) (ovr a b) := by
  intro m n h1 h2 h3 h4
  have hsg : (if 0 < b.num then (1 : Int) else -1).natAbs = 1 := by split <;> rfl
  have hp : 0 < (if 0 < b.num then (1 : Int) else -1) * a.den * b.num := by
    rw [Int.mul_comm _ (a.den : Int), Int.mul_assoc]; exact Int.mul_pos (den_pos a) (sgn_pos h0)
  refine .mk ?_ ?_ (by omega)
  · rw [Int.natAbs_mul, Int.natAbs_mul, hsg, Nat.one_mul]; exact two_pow_mul h1 h4
  · have : ((if 0 < b.num then (1 : Int) else -1) * a.den * b.num).toNat = ((if 0 < b.num then (1 : Int) else -1) * a.den * b.num).natAbs := by omega
    rw [this, Int.natAbs_mul, Int.natAbs_mul, hsg, Nat.one_mul]
    rw [Nat.add_comm m n]; exact two_pow_mul h2 h3
end
/-! same -/
theorem rn_same_int (T : Tc E) (i : Int) : Rn E 1 "_law_same" [.int i, .int i] s (.bl true) s := by
  refine T.d__law_same.rn sc__law_same rfl rfl fun fa cdv A outer sh H0 EX S0 p hr => ?_
  conv => arg 2; whnf
  refine bk_cons (bs_ifF (et_val ((ed_isiT T.bf (ed_var 1 rfl (.inl rfl) rfl) rfl (cns_cons (cn_list T.bf) (cns_cons (cn_tuple T.bf) cns_nil))).is rfl)) (bk_nil ?_))
  refine bk_cons (bs_ifF (et_val ((ed_isi T.bf (ed_var 1 rfl (.inl rfl) rfl) rfl (cn_dict T.bf)).is rfl)) (bk_nil ?_))
  refine bk_cons (bs_ifT (et_val ((ed_isi T.bf (ed_var 1 rfl (.inl rfl) rfl) rfl (cn_int T.bf)).is rfl)) (bk_cons ?_))
  exact bs_ret (ed_andT ((ed_isi T.bf (ed_var 0 rfl (.inl rfl) rfl) rfl (cn_int T.bf)).is rfl) (ed_andT ((Cp.ed (cp_eq hr (ed_isi T.bf (ed_var 0 rfl (.inl rfl) rfl) rfl (cn_bool T.bf)) (ed_isi T.bf (ed_var 1 rfl (.inl rfl) rfl) rfl (cn_bool T.bf)) (eqC_bl _) (eqC_bl _))).is (by simp [D.eqb, D.py, PyData.eqv])) (ed_one ((Cp.ed (cp_eq hr (ed_var 0 rfl (.inl rfl) rfl) (ed_var 1 rfl (.inl rfl) rfl) (eqC_int _) (eqC_int _))).is (by rw [eqb_int, decide_eq_true rfl]))))) ⟨rfl, rfl⟩
theorem rn_same_bl (T : Tc E) (i : Bool) : Rn E 1 "_law_same" [.bl i, .bl i] s (.bl true) s := by
  refine T.d__law_same.rn sc__law_same rfl rfl fun fa cdv A outer sh H0 EX S0 p hr => ?_
  conv => arg 2; whnf
  refine bk_cons (bs_ifF (et_val ((ed_isiT T.bf (ed_var 1 rfl (.inl rfl) rfl) rfl (cns_cons (cn_list T.bf) (cns_cons (cn_tuple T.bf) cns_nil))).is rfl)) (bk_nil ?_))
  refine bk_cons (bs_ifF (et_val ((ed_isi T.bf (ed_var 1 rfl (.inl rfl) rfl) rfl (cn_dict T.bf)).is rfl)) (bk_nil ?_))
  refine bk_cons (bs_ifT (et_val ((ed_isi T.bf (ed_var 1 rfl (.inl rfl) rfl) rfl (cn_int T.bf)).is rfl)) (bk_cons ?_))
  exact bs_ret (ed_andT ((ed_isi T.bf (ed_var 0 rfl (.inl rfl) rfl) rfl (cn_int T.bf)).is rfl) (ed_andT ((Cp.ed (cp_eq hr (ed_isi T.bf (ed_var 0 rfl (.inl rfl) rfl) rfl (cn_bool T.bf)) (ed_isi T.bf (ed_var 1 rfl (.inl rfl) rfl) rfl (cn_bool T.bf)) (eqC_bl _) (eqC_bl _))).is (by simp [D.eqb, D.py, PyData.eqv])) (ed_one ((Cp.ed (cp_eq hr (ed_var 0 rfl (.inl rfl) rfl) (ed_var 1 rfl (.inl rfl) rfl) (eqC_bl _) (eqC_bl _))).is (by simp [D.eqb, D.py, PyData.eqv]))))) ⟨rfl, rfl⟩
theorem zip_self {xs : List D} {i : Nat} {d : D} (h : (zipD xs xs)[i]? = some d) : ∃ y ∈ xs, d = .tup [y, y] := by
  unfold zipD at h
  rw [List.getElem?_zipWith] at h
  cases e : xs[i]? with
  | none => rw [e] at h; cases h
  | some y => rw [e] at h; cases h; exact ⟨y, List.mem_of_getElem? e, rfl⟩
theorem rn_same_tup (T : Tc E) {k : Nat} {xs : List D} (hl : xs.length ≤ 1000) (h : ∀ x ∈ xs, ∀ s, Rn E (k + 1) "_law_same" [x, x] s (.bl true) s) : Rn E (k + 2) "_law_same" [.tup xs, .tup xs] s (.bl true) s := by
  have hz : (zipD xs xs).length = xs.length := by simp [zipD]
  refine T.d__law_same.rn sc__law_same rfl rfl fun fa cdv A outer sh H0 EX S0 p hr => ?_
  conv => arg 2; whnf
  refine bk_cons (bs_ifT (et_val ((ed_isiT T.bf (ed_var 1 rfl (.inl rfl) rfl) rfl (cns_cons (cn_list T.bf) (cns_cons (cn_tuple T.bf) cns_nil))).is rfl)) (bk_cons ?_))
  refine bs_ifF (Ew.et (ew_orF (Cp.et ((cp_ne hr (ed_isi T.bf (ed_var 0 rfl (.inl rfl) rfl) rfl (cn_list T.bf)) (ed_isi T.bf (ed_var 1 rfl (.inl rfl) rfl) rfl (cn_list T.bf)) (eqC_bl _) (eqC_bl _)).is (by simp [D.eqb, D.py, PyData.eqv]))) (ew_or1 (Cp.et ((cp_ne hr (ed_isi T.bf (ed_var 0 rfl (.inl rfl) rfl) rfl (cn_tuple T.bf)) (ed_isi T.bf (ed_var 1 rfl (.inl rfl) rfl) rfl (cn_tuple T.bf)) (eqC_bl _) (eqC_bl _)).is (by simp [D.eqb, D.py, PyData.eqv])))))) (bk_nil (bk_cons ?_))
  refine bs_ret (ed_andT ((Cp.ed (cp_eq hr (ed_len T.bf (ed_var 0 rfl (.inl rfl) rfl) rfl) (ed_len T.bf (ed_var 1 rfl (.inl rfl) rfl) rfl) (eqC_int _) (eqC_int _))).is (by rw [eqb_int, decide_eq_true rfl])) (ed_one (Ed.is (ed_all T.bf rfl (bs := List.replicate xs.length true) (Ed.is (El.ed (el_map [("_law_x", 2), ("_law_y", 3)] (fun _ => .bl true) rfl sc__law_same.nd (ei_zipM T.bf (ed_var 0 rfl (.inl rfl) rfl) (.inr rfl) (ed_var 1 rfl (.inl rfl) rfl) (.inr rfl)) (blkOk_by rfl) (by rw [hz]; exact Nat.le_trans hl (by decide)) (fun i d hi => ?_))) ?_)) ?_))) ⟨rfl, rfl⟩
  · obtain ⟨y, m, rfl⟩ := zip_self hi
    exact ⟨_, _, fun c => eg_tup rfl (egs_cons (eg_name 2 sc__law_same.nd rfl (.inl rfl)) (egs_cons (eg_name 3 sc__law_same.nd rfl (.inl rfl)) egs_nil)), by decide, fun c => ed_cl (ea_cons (ed_var 2 rfl (.inl rfl) rfl) (ea_cons (ed_var 3 rfl (.inl rfl) rfl) ea_nil)) hr (h y m _)⟩
  · rw [List.map_replicate, List.map_const', hz]
  · rw [List.all_replicate]; simp
theorem rn_same_fr (T : Tc E) (q : Rat) : Rn E 2 "_law_same" [fr q, fr q] s (.bl true) s := rn_same_tup (k := 0) T (show 2 ≤ 1000 by decide) fun x m s => by
  simp only [List.mem_cons, List.not_mem_nil, or_false] at m
  rcases m with rfl | rfl <;> exact rn_same_int T _
theorem rn_same_frs (T : Tc E) (qs : List Rat) (hl : qs.length ≤ 1000) : Rn E 3 "_law_same" [.tup (qs.map fr), .tup (qs.map fr)] s (.bl true) s := rn_same_tup (k := 1) T (by simpa using hl) fun x m s => by
  obtain ⟨q, _, rfl⟩ := List.mem_map.mp m
  exact rn_same_fr T q
end Law
set_option Elab.async false
set_option linter.all false
set_option maxRecDepth 100000
set_option maxHeartbeats 4000000
namespace Gh
open PySem PySem.Spec PyProof.Rows L2
section
variable {F : Fx} {ρ : List G} {s s1 s2 : Sx} {tg iter elt t : Expr} {items : List D} {scope : Scope} {pos : Pos}
/-- [elt for tg in iter if t], nothing drawn in the turns -/
theorem el_filter (own : List (Str × Nat)) (f : D → D) (g : D → Bool) (hc : F.X.calm = true) (hN : F.X.N.Nodup) (hi : Ei F ρ s tg iter items s1) (ok : BlkOk F.X.N F.X.env.scope scope own) (hl : items.length ≤ sizeLine)
    (h : ∀ (i : Nat) (d : D), items[i]? = some d → ∃ ρ2 js, (∀ c, Eg (F.blk scope c) tg d (gwipe ρ (own.map (·.2))) ρ2 js) ∧ (∀ j ∈ js, j ∈ own.map (·.2)) ∧ (∀ c, Et (F.blk scope c) ρ2 s1 t (g d) s1) ∧ (g d = true → ∀ c, Ed (F.blk scope c) ρ2 s1 elt (f d) s1))
    (hs : ∀ x, foldedSetIterable iter F.X.env x = pure x := by intro _; rfl) : El F ρ s (.ListComp elt [⟨tg, iter, [t], 0⟩] scope pos) ((items.filter g).map f) s1 := by
  have z := el_comp (pos := pos) own hc hN (st := fun _ => s1) hi ok (Comp.filter f g hl h) hi.1 hs
  simp only [List.take_length] at z
  exact z
end
end Gh
namespace Law
open PySem PySem.Spec PyProof.Rows L2 Gh
variable {E : En} {s : Sx}
open Classical in
/-- step by step -/
theorem trace {α : Type} {R : α → α → Prop} {G : Nat → α → Prop} {N : Nat} (x0 : α) (h0 : G 0 x0) (hs : ∀ i x, i < N → G i x → ∃ y, R x y ∧ G (i + 1) y) :
    ∃ tr : Nat → α, tr 0 = x0 ∧ (∀ i, i ≤ N → G i (tr i)) ∧ ∀ i, i < N → R (tr i) (tr (i + 1)) := by
  let nx : Nat → α → α := fun i x => if h : i < N ∧ G i x then Classical.choose (hs i x h.1 h.2) else x
  have hn : ∀ i x, i < N → G i x → R x (nx i x) ∧ G (i + 1) (nx i x) := fun i x h1 h2 => by
    have e : nx i x = Classical.choose (hs i x h1 h2) := dif_pos ⟨h1, h2⟩
    rw [e]
    exact Classical.choose_spec (hs i x h1 h2)
  let tr : Nat → α := fun n => Nat.rec x0 (fun i x => nx i x) n
  have hg : ∀ i, i ≤ N → G i (tr i) := fun i => by
    induction i with
    | zero => exact fun _ => h0
    | succ i ih => exact fun h => (hn i (tr i) (by omega) (ih (by omega))).2
  exact ⟨tr, rfl, hg, fun i h => (hn i (tr i) h (hg i (by omega))).1⟩
/-- drawn one by one -/
theorem rn_mixed (T : Tc E) {n : Nat} {xs : List D} (h : St n s) (hn : n + xs.length < 2 ^ 40) (hl : xs.length ≤ 1000) (hx : ∀ x ∈ xs, eqD 10 x) : ∃ (ys : List D) (s' : Sx), (∀ y ∈ ys, y ∈ xs) ∧ ys.length = xs.length ∧ St (n + xs.length) s' ∧ Rn E 2 "_law_mixed" [.mut, .lst xs] s (.lst ys) s' := by
  obtain ⟨tr, t0, tg, ts⟩ := trace (α := List D × List D × Sx) (N := xs.length) (R := fun x y => ∃ (d : Nat) (v : D), Rn E 1 "_law_draw" [.mut, .int x.1.length] x.2.2 (.int d) y.2.2 ∧ x.1[d]? = some v ∧ y.1 = x.1.eraseIdx d ∧ y.2.1 = x.2.1 ++ [v])
    (G := fun i x => x.2.1.length = i ∧ x.1.length + i = xs.length ∧ (∀ y ∈ x.1, y ∈ xs) ∧ (∀ y ∈ x.2.1, y ∈ xs) ∧ St (n + i) x.2.2) (xs, [], s) ⟨rfl, by simp, fun y m => m, (fun y m => nomatch m), h⟩ (by
      rintro i ⟨r, f, s1⟩ hi ⟨h1, h2, h3, h4, h5⟩
      dsimp only at h1 h2 h3 h4 h5
      obtain ⟨d, s2, hd, hs2, R⟩ := rn_draw T h5 (by omega) (many := r.length) (by omega) (by omega)
      refine ⟨(r.eraseIdx d, f ++ [r[d]], s2), ⟨d, r[d], R, List.getElem?_eq_getElem hd, rfl, rfl⟩, by simp [h1], ?_, ?_, ?_, hs2⟩
      · rw [List.length_eraseIdx_of_lt hd]; omega
      · exact fun y m => h3 y (List.mem_of_mem_eraseIdx m)
      · intro y m
        rcases List.mem_append.mp m with m | m
        · exact h4 y m
        · rw [List.mem_singleton.mp m]; exact h3 _ (List.getElem_mem hd))
  obtain ⟨g1, g2, g3, g4, g5⟩ := tg xs.length (Nat.le_refl _)
  refine ⟨(tr xs.length).2.1, (tr xs.length).2.2, g4, g1, g5, ?_⟩
  have kd : ∀ i, i ≤ xs.length → (tr i).2.2.isSome = true := fun i hi => (tg i hi).2.2.2.2.some
  have hz : ∀ i, i ≤ xs.length → (tr i).1.length ≤ sizeLine ∧ (tr i).2.1.length ≤ sizeLine := fun i hi => by
    have := tg i hi
    have : 1001 ≤ sizeLine := by decide
    omega
  refine T.d__law_mixed.rn sc__law_mixed (by rw [h.some, kd _ (Nat.le_refl _)]) rfl fun fa cdv A outer sh H0 EX S0 p hr => ?_
  conv => arg 2; whnf
  refine bk_cons (bs_parOO 2 3 rfl sc__law_mixed.nd rfl rfl (by decide) rfl rfl (el_listOf T.bf (ed_var 1 rfl (.inl rfl) rfl) (.inl rfl)) (el_lst ea_nil) ?_)
  refine bk_cons (bs_while PassesOwn.never (fun ρ s' => ∃ i, i ≤ xs.length ∧ ρ = [.val .mut, .val (.lst xs), .own (tr i).1, .own (tr i).2.1] ∧ s' = (tr i).2.2) (fun ρ _ => match ρ with | [_, _, .own r, _] => r.length | _ => 0) ⟨0, Nat.zero_le _, by rw [t0]; rfl, by rw [t0]⟩ ?_)
  rintro ρ s' ⟨i, hi, rfl, rfl⟩
  obtain ⟨h1, h2, h3, h4, h5⟩ := tg i hi
  refine ⟨_, _, Cp.et (cp_neV hr (ev_own 2 rfl (.inl rfl) rfl) (El.ev (el_lst ea_nil)) (eqDs.of (n := 10) fun y m => hx y (h3 y m)).lst.eqC (eqDs.nil (n := 0)).lst.eqC), fun hb => ?_, fun hb => ?_⟩
  · have hne : (tr i).1 ≠ [] := fun z => by
      rw [z] at hb
      rw [lst_eqb] at hb
      cases hb
    have hlt : i < xs.length := by
      have := List.length_pos_iff.mpr hne
      omega
    obtain ⟨d, v, R, r1, r2, r3⟩ := ts i hlt
    refine bk_cons (bs_appendM 3 rfl (.inl rfl) rfl (em_pop 2 rfl (.inl rfl) rfl (ed_cl (ea_cons (ed_var 0 rfl (.inl rfl) rfl) (ea_cons (ed_lenV T.bf (ev_own 2 rfl (.inl rfl) rfl)) ea_nil)) (hr.mono (by decide)) R) r1 (hz i hi).1) rfl (by have := (hz (i + 1) hlt).2; rw [r3, List.length_append] at this; exact this) (bk_nil ⟨⟨i + 1, hlt, ?_, rfl⟩, ?_⟩))
    · rw [r2, r3]; rfl
    · show ((tr i).1.eraseIdx d).length < (tr i).1.length
      have : d < (tr i).1.length := by
        rcases Nat.lt_or_ge d (tr i).1.length with z | z
        · exact z
        · rw [List.getElem?_eq_none z] at r1; cases r1
      rw [List.length_eraseIdx_of_lt this]; omega
  · have he : (tr i).1 = [] := by
      cases z : (tr i).1 with
      | nil => rfl
      | cons y ys =>
        rw [z, lst_eqb] at hb
        cases hb
    have hi2 : i = xs.length := by rw [he] at h2; simpa using h2
    subst hi2
    exact bk_freeze 3 rfl (bk_cons (bs_ret (ed_var 3 rfl (.inl rfl) rfl) ⟨rfl, rfl⟩))
/-- put in its place, once -/
def insQ (ys : List Rat) (q : Rat) : List Rat :=
  let p := (ys.filter fun y => decide (y < q)).length
  if (ys.drop p).take 1 = [q] then ys else ys.take p ++ [q] ++ ys.drop p
theorem insQ_mem {ys : List Rat} {q z : Rat} (h : z ∈ insQ ys q) : z ∈ ys ∨ z = q := by
  unfold insQ at h
  dsimp only at h
  split at h
  · exact .inl h
  · rcases List.mem_append.mp h with h | h
    · rcases List.mem_append.mp h with h | h
      · exact .inl (List.mem_of_mem_take h)
      · exact .inr (List.mem_singleton.mp h)
    · exact .inl (List.mem_of_mem_drop h)
theorem insQ_len (ys : List Rat) (q : Rat) : (insQ ys q).length ≤ ys.length + 1 := by
  unfold insQ
  dsimp only
  split
  · omega
  · simp only [List.length_append, List.length_take, List.length_drop, List.length_singleton]; omega
def sortQ (qs : List Rat) : List Rat := qs.foldl insQ []
theorem foldQ_mem {qs ys : List Rat} {z : Rat} (h : z ∈ qs.foldl insQ ys) : z ∈ ys ∨ z ∈ qs := by
  induction qs generalizing ys with
  | nil => exact .inl h
  | cons q qs ih =>
    rcases ih h with h | h
    · rcases insQ_mem h with h | h
      · exact .inl h
      · exact .inr (h ▸ List.mem_cons_self)
    · exact .inr (List.mem_cons_of_mem _ h)
theorem foldQ_len (qs ys : List Rat) : (qs.foldl insQ ys).length ≤ ys.length + qs.length := by
  induction qs generalizing ys with
  | nil => simp
  | cons q qs ih =>
    have := ih (insQ ys q)
    have := insQ_len ys q
    simp only [List.foldl_cons, List.length_cons]; omega
theorem cut_to {α : Type} (xs : List α) (p : Nat) (h : p ≤ xs.length) : Gh.cutD xs none (some (p : Int)) = xs.take p := by
  unfold Gh.cutD
  rw [HT.sIx_none, HT.sIx_nat, List.drop_zero, Nat.sub_zero, Nat.min_eq_left h]
theorem cut_from {α : Type} (xs : List α) (p : Nat) (h : p ≤ xs.length) : Gh.cutD xs (some (p : Int)) none = xs.drop p := by
  unfold Gh.cutD
  rw [HT.sIx_none, HT.sIx_nat, Nat.min_eq_left h, List.take_of_length_le (by rw [List.length_drop]; omega)]
theorem cut_one {α : Type} (xs : List α) (p : Nat) (h : p ≤ xs.length) : Gh.cutD xs (some (p : Int)) (some ((p : Int) + 1)) = (xs.drop p).take 1 := by
  have e : (p : Int) + 1 = ((p + 1 : Nat) : Int) := by omega
  unfold Gh.cutD
  rw [e, HT.sIx_nat, HT.sIx_nat, Nat.min_eq_left h]
  rcases Nat.lt_or_ge p xs.length with z | z
  · rw [Nat.min_eq_left (by omega), show p + 1 - p = 1 by omega]
  · rw [Nat.min_eq_right (by omega), List.drop_of_length_le (by omega)]; simp
def unfr : D → Rat
  | .tup [.int t, .int b] => mkRat t b.toNat
  | _ => 0
theorem unfr_fr (q : Rat) : unfr (fr q) = q := by
  show mkRat q.num (q.den : Int).toNat = q
  rw [Int.toNat_natCast, Rat.mkRat_self]
theorem rn_sorted (T : Tc E) {qs : List Rat} (hl : qs.length ≤ 1000) (hq : ∀ q ∈ qs, Sz 3000 q) : Rn E 2 "_law_sorted" [.lst (qs.map fr)] s (.lst ((sortQ qs).map fr)) s := by
  have hm : ∀ i, ∀ z ∈ (qs.take i).foldl insQ [], z ∈ qs := fun i z m => by
    rcases foldQ_mem m with m | m
    · cases m
    · exact List.mem_of_mem_take m
  have hlen : ∀ i, ((qs.take i).foldl insQ []).length ≤ 1000 := fun i => by
    have := foldQ_len (qs.take i) []
    have := List.length_take_le' i qs
    simp at *; omega
  have hz : 1001 ≤ sizeLine := by decide
  refine T.d__law_sorted.rn sc__law_sorted rfl rfl fun fa cdv A outer sh H0 EX S0 p hr => ?_
  conv => arg 2; whnf
  refine bk_cons (bs_set 1 sc__law_sorted.nd rfl (.inl rfl) (El.ed (el_lst ea_nil)) ?_)
  refine bk_cons (bs_for PassesOwn.never rfl (ei_seq (ed_var 0 rfl (.inl rfl) rfl) (.inl rfl)) (fun i ρ s' => s' = s ∧ ∃ g2 g3, ρ = [.val (.lst (qs.map fr)), .val (.lst (((qs.take i).foldl insQ []).map fr)), g2, g3, .no]) ⟨rfl, _, _, rfl⟩ ?_ ?_)
  · rintro i d ρ' s' hi ⟨rfl, g2, g3, rfl⟩
    rw [List.getElem?_map] at hi
    cases e : qs[i]? with
    | none => rw [e] at hi; cases hi
    | some q =>
      rw [e] at hi; cases hi
      have e2 : (qs.take (i + 1)).foldl insQ [] = insQ ((qs.take i).foldl insQ []) q := by
        rw [List.take_add_one, e]; simp
      have hmi := hm i
      have hli := hlen i
      generalize hys : (qs.take i).foldl insQ [] = ys at *
      have zq := hq q (List.mem_of_getElem? e)
      have hp : (ys.filter fun y => decide (y < q)).length ≤ ys.length := List.length_filter_le _ _
      have hg : ((ys.map fr).filter fun d => decide (unfr d < q)) = (ys.filter fun y => decide (y < q)).map fr := by
        rw [List.filter_map]
        congr 1
        exact List.filter_congr fun y _ => by simp [unfr_fr]
      refine ⟨_, _, eg_name 2 sc__law_sorted.nd rfl (.inr rfl), bk_cons (bs_set 3 (d := .int ((ys.filter fun y => decide (y < q)).length : Nat)) sc__law_sorted.nd rfl (.inl rfl) (Ed.is (ed_lenV T.bf (El.ev (el_filter [("_law_other", 4)] id (fun d => decide (unfr d < q)) rfl sc__law_sorted.nd (ei_seq (ed_var 1 rfl (.inl rfl) rfl) (.inl rfl)) (blkOk_by rfl) (by rw [List.length_map]; omega) (fun i d hi => ?_)))) ?_) ?_)⟩
      · obtain ⟨y, m, rfl⟩ := List.mem_map.mp (List.mem_of_getElem? hi)
        refine ⟨_, _, fun c => eg_name 4 sc__law_sorted.nd rfl (.inl rfl), by decide, fun c => Et.is (et_val (ed_cl (ea_cons (ed_var 4 rfl (.inl rfl) rfl) (ea_cons (ed_var 2 rfl (.inr (.inl rfl)) rfl) ea_nil)) (hr.mono (by decide)) (rn_law_less T (hq y (hmi y m)) zq))) (by rw [unfr_fr]), fun _ c => ed_var 4 rfl (.inl rfl) rfl⟩
      · rw [List.map_id, hg, List.length_map]
      · have hc1 : ∀ (u v : List D), u.length + v.length ≤ 2002 → u.length + v.length ≤ sizeLine := fun u v h => Nat.le_trans h (by decide)
        have hpm : (ys.filter fun y => decide (y < q)).length ≤ (ys.map fr).length := by rw [List.length_map]; exact hp
        refine bk_cons (bs_if (Cp.et (cp_neV hr (El.ev (El.is (el_slice (ed_var 1 rfl (.inl rfl) rfl) (.some (ed_var 3 rfl (.inl rfl) rfl)) (.some (ed_bin (ed_var 3 rfl (.inl rfl) rfl) ed_int rfl trivial))) (cut_one _ _ hpm))) (El.ev (el_lst (ea_cons (ed_var 2 rfl (.inr (.inl rfl)) rfl) ea_nil))) (eqDs.of (n := 1) fun x m => ?_).lst.eqC (eqDs.cons (eqD.fr q) .nil).lst.eqC)) (fun hb => ?_) (fun hb => ?_))
        · obtain ⟨z, _, rfl⟩ := List.mem_map.mp (List.mem_of_mem_drop (List.mem_of_mem_take m))
          exact .fr z
        · have hb' : ¬ (ys.drop (ys.filter fun y => decide (y < q)).length).take 1 = [q] := fun z => by
            rw [← List.map_drop, ← List.map_take, z, lst_eqb] at hb
            have := frs_eqbs [q] [q]
            simp only [List.map_cons, List.map_nil] at this hb
            rw [this] at hb
            simp at hb
          refine bk_cons (bs_set 1 sc__law_sorted.nd rfl (.inl rfl) (El.ed (El.is (el_catV (hc1 _ _ ?_) (El.ev (el_catV (hc1 _ _ ?_) (El.ev (El.is (el_slice (ed_var 1 rfl (.inl rfl) rfl) .none (.some (ed_var 3 rfl (.inl rfl) rfl))) (cut_to _ _ hpm))) (El.ev (el_lst (ea_cons (ed_var 2 rfl (.inr (.inl rfl)) rfl) ea_nil))))) (El.ev (El.is (el_slice (ed_var 1 rfl (.inl rfl) rfl) (.some (ed_var 3 rfl (.inl rfl) rfl)) .none) (cut_from _ _ hpm)))) rfl)) (bk_nil (bk_nil ⟨rfl, .val (fr q), .val (.int ((ys.filter fun y => decide (y < q)).length : Nat)), ?_⟩)))
          · simp; omega
          · simp; omega
          · rw [e2]
            unfold insQ
            dsimp only
            rw [if_neg hb']
            simp only [List.map_append, List.map_take, List.map_drop, List.map_cons, List.map_nil]
            rfl
        · have hb' : (ys.drop (ys.filter fun y => decide (y < q)).length).take 1 = [q] := by
            rw [← List.map_drop, ← List.map_take, lst_eqb] at hb
            have := frs_eqbs ((ys.drop (ys.filter fun y => decide (y < q)).length).take 1) [q]
            simp only [List.map_cons, List.map_nil] at this
            rw [this] at hb
            simpa using hb
          refine bk_nil (bk_nil ⟨rfl, .val (fr q), .val (.int ((ys.filter fun y => decide (y < q)).length : Nat)), ?_⟩)
          rw [e2]
          unfold insQ
          dsimp only
          rw [if_pos hb']
          rfl
  · rintro ρ' s' ⟨rfl, g2, g3, rfl⟩
    rw [List.length_map, List.take_length]
    exact bk_cons (bs_ret (ed_var 1 rfl (.inl rfl) rfl) ⟨rfl, rfl⟩)
end Law
set_option Elab.async false
set_option linter.all false
set_option maxRecDepth 100000
set_option maxHeartbeats 4000000
namespace Gh
open PySem PySem.Spec PyProof.Rows L2
section
variable {F : Fx} {ρ : List G} {tg iter elt t : Expr} {scope : Scope} {pos : Pos}
/-- two turns -/
theorem Comp.two {vs : List Nat} {x0 x1 y0 y1 : D} {s0 s1 s2 : Sx} (h0 : ∃ ρ2 js, (∀ c, Eg (F.blk scope c) tg x0 (gwipe ρ vs) ρ2 js) ∧ (∀ j ∈ js, j ∈ vs) ∧ ∀ c, Ed (F.blk scope c) ρ2 s0 elt y0 s1)
    (h1 : ∃ ρ2 js, (∀ c, Eg (F.blk scope c) tg x1 (gwipe ρ vs) ρ2 js) ∧ (∀ j ∈ js, j ∈ vs) ∧ ∀ c, Ed (F.blk scope c) ρ2 s1 elt y1 s2) :
    Comp F ρ scope vs tg [] elt [x0, x1] (fun i => [y0, y1].take i) (fun i => match i with | 0 => s0 | 1 => s1 | _ => s2) := by
  refine ⟨rfl, fun i hi => Nat.le_trans (List.length_take_le' i _) (by show 2 ≤ sizeLine; decide), fun i d hd => ?_⟩
  match i, hd with
  | 0, hd =>
    cases hd
    obtain ⟨ρ2, js, e1, e2, e3⟩ := h0
    exact ⟨ρ2, js, e1, e2, true, s0, fun c => .inl ⟨rfl, rfl, rfl⟩, fun _ => ⟨y0, e3, rfl⟩, fun z => by cases z⟩
  | 1, hd =>
    cases hd
    obtain ⟨ρ2, js, e1, e2, e3⟩ := h1
    exact ⟨ρ2, js, e1, e2, true, s1, fun c => .inl ⟨rfl, rfl, rfl⟩, fun _ => ⟨y1, e3, rfl⟩, fun z => by cases z⟩
  | i + 2, hd => cases hd
end
end Gh
namespace Law
open PySem PySem.Spec PyProof.Rows L2 Gh
variable {E : En} {s : Sx}
theorem rn_pickM (T : Tc E) {α : Type} {n : Nat} (f : α → D) (ls : List α) (h : St n s) (hn : n < 2 ^ 40) (hx : ls ≠ []) (hx2 : ls.length < 2 ^ 60) : ∃ (l : α) (s' : Sx), l ∈ ls ∧ St (n + 1) s' ∧ Rn E 2 "_law_pick" [.mut, .lst (ls.map f)] s (f l) s' := by
  obtain ⟨d, s', m, h', R⟩ := rn_pick T h hn (xs := ls.map f) (by simpa using hx) (by simpa using hx2)
  obtain ⟨l, ml, rfl⟩ := List.mem_map.mp m
  exact ⟨l, s', ml, h', R⟩
abbrev nD : Nat → D := fun k => .int k
theorem rn_length (T : Tc E) {n m : Nat} (h : St n s) (hn : n + 2 < 2 ^ 40) (hm : m < 2 ^ 14) : ∃ (l : Ln) (s' : Sx), l ≠ .auto ∧ l.n < 2 ^ 14 ∧ St (n + 2) s' ∧ Rn E 3 "_law_length" [.mut, .int m] s l.D s' := by
  obtain ⟨d, s1, hd, h1, R1⟩ := rn_draw T h (by omega) (many := 3) (by decide) (by decide)
  by_cases z : d = 0
  · subst z
    obtain ⟨k, s2, mk, h2, R2⟩ := rn_pickM T nD [0, 5, 10, 20, 25, 33, 50, 50, 100, 120, 299, 300] h1 (by omega) (by simp) (by decide)
    have hk : k < 2 ^ 14 := by
      simp only [List.mem_cons, List.not_mem_nil, or_false] at mk
      omega
    refine ⟨.part k, s2, (fun z => by cases z), hk, h2, ?_⟩
    refine T.d__law_length.rn sc__law_length (by rw [h.some, h2.some]) rfl fun fa cdv A outer sh H0 EX S0 p hr => ?_
    conv => arg 2; whnf
    refine bk_cons (bs_ifT (Cp.et ((cp_eq hr (ed_cl (ea_cons (ed_var 0 rfl (.inl rfl) rfl) (ea_cons ed_int ea_nil)) (hr.mono (by decide)) R1) ed_int (eqC_int _) (eqC_int _)).is (by rw [eqb_int]; rfl))) (bk_cons (bs_ret (ed_tup (ea_cons ed_str (ea_cons (ed_cl (ea_cons (ed_var 0 rfl (.inl rfl) rfl) (ea_cons (El.ed (el_lst (ea_cons ed_int (ea_cons ed_int (ea_cons ed_int (ea_cons ed_int (ea_cons ed_int (ea_cons ed_int (ea_cons ed_int (ea_cons ed_int (ea_cons ed_int (ea_cons ed_int (ea_cons ed_int (ea_cons ed_int ea_nil)))))))))))))) ea_nil)) (hr.mono (by decide)) R2) ea_nil))) ⟨rfl, rfl⟩)))
  · obtain ⟨k, s2, mk, h2, R2⟩ := rn_pickM T nD [0, 0, 1, 2, 3, 7, 10, 20, m, m, 10000] h1 (by omega) (by simp) (by show 11 < _; decide)
    have hk : k < 2 ^ 14 := by
      simp only [List.mem_cons, List.not_mem_nil, or_false] at mk
      omega
    refine ⟨.nat k, s2, (fun z => by cases z), hk, h2, ?_⟩
    refine T.d__law_length.rn sc__law_length (by rw [h.some, h2.some]) rfl fun fa cdv A outer sh H0 EX S0 p hr => ?_
    conv => arg 2; whnf
    refine bk_cons (bs_ifF (Cp.et ((cp_eq hr (ed_cl (ea_cons (ed_var 0 rfl (.inl rfl) rfl) (ea_cons ed_int ea_nil)) (hr.mono (by decide)) R1) ed_int (eqC_int _) (eqC_int _)).is (by rw [eqb_int]; exact decide_eq_false (by omega)))) (bk_nil ?_))
    exact bk_cons (bs_ret (ed_cl (ea_cons (ed_var 0 rfl (.inl rfl) rfl) (ea_cons (El.ed (el_lst (ea_cons ed_int (ea_cons ed_int (ea_cons ed_int (ea_cons ed_int (ea_cons ed_int (ea_cons ed_int (ea_cons ed_int (ea_cons ed_int (ea_cons (ed_var 1 rfl (.inl rfl) rfl) (ea_cons (ed_var 1 rfl (.inl rfl) rfl) (ea_cons ed_int ea_nil))))))))))))) ea_nil)) (hr.mono (by decide)) R2) ⟨rfl, rfl⟩)
theorem rn_told (T : Tc E) {n : Nat} (h : St n s) (hn : n + 100 < 2 ^ 40) : ∃ (t : Tl) (s' : Sx), t.Ok ∧ t.Sm ∧ St (n + 20) s' ∧ Rn E 4 "_law_told" [.mut] s (.tup t.ds) s' := by
  obtain ⟨l1, s1, a1, b1, h1, L1⟩ := rn_length T h (by omega) (m := 60) (by decide)
  obtain ⟨w, s2, mw, h2, P2⟩ := rn_pickM T Ln.D [.auto, .auto, l1, .part 50] h1 (by omega) (by simp) (by show 4 < _; decide)
  obtain ⟨le, s3, mle, h3, P3⟩ := rn_pickM T nD [0, 0, 0, 0, 5, 12, 40, 9999] h2 (by omega) (by simp) (by decide)
  obtain ⟨mo, s4, mmo, h4, P4⟩ := rn_pickM T moD [none, none, none, some 8, some 30, some 50, some 0, some 10000] h3 (by omega) (by simp) (by decide)
  obtain ⟨l5, s5, a5, b5, h5, L5⟩ := rn_length T h4 (by omega) (m := 15) (by decide)
  obtain ⟨ml, s6, mml, h6, P6⟩ := rn_pickM T Ln.D [.auto, l5, .nat 0] h5 (by omega) (by simp) (by show 3 < _; decide)
  obtain ⟨l7, s7, a7, b7, h7, L7⟩ := rn_length T h6 (by omega) (m := 15) (by decide)
  obtain ⟨mr, s8, mmr, h8, P8⟩ := rn_pickM T Ln.D [.auto, l7, .nat 0] h7 (by omega) (by simp) (by show 3 < _; decide)
  obtain ⟨l9, s9, a9, b9, h9, L9⟩ := rn_length T h8 (by omega) (m := 9) (by decide)
  obtain ⟨pl, s10, mpl, h10, P10⟩ := rn_pickM T Ln.D [.nat 0, .nat 0, l9] h9 (by omega) (by simp) (by show 3 < _; decide)
  obtain ⟨l11, s11, a11, b11, h11, L11⟩ := rn_length T h10 (by omega) (m := 9) (by decide)
  obtain ⟨pr, s12, mpr, h12, P12⟩ := rn_pickM T Ln.D [.nat 0, .nat 0, l11] h11 (by omega) (by simp) (by show 3 < _; decide)
  simp only [List.mem_cons, List.not_mem_nil, or_false] at mw mle mmo mml mmr mpl mpr
  refine ⟨⟨w, le, mo, ml, mr, pl, pr⟩, s12, ⟨?_, ?_⟩, ⟨?_, ?_, ?_, ?_, ?_, ?_, ?_⟩, h12.mono (by omega), ?_⟩
  · rcases mpl with rfl | rfl | rfl <;> first | assumption | (intro z; cases z)
  · rcases mpr with rfl | rfl | rfl <;> first | assumption | (intro z; cases z)
  · rcases mw with rfl | rfl | rfl | rfl <;> first | assumption | simp [Ln.n]
  · show le < _; omega
  · rintro m rfl
    simp at mmo; omega
  · rcases mml with rfl | rfl | rfl <;> first | assumption | simp [Ln.n]
  · rcases mmr with rfl | rfl | rfl <;> first | assumption | simp [Ln.n]
  · rcases mpl with rfl | rfl | rfl <;> first | assumption | simp [Ln.n]
  · rcases mpr with rfl | rfl | rfl <;> first | assumption | simp [Ln.n]
  refine T.d__law_told.rn sc__law_told (by rw [h.some, h12.some]) rfl fun fa cdv A outer sh H0 EX S0 p hr => ?_
  conv => arg 2; whnf
  refine bk_cons (bs_set 1 sc__law_told.nd rfl (.inl rfl) (ed_cl (ea_cons (ed_var 0 rfl (.inr (.inl rfl)) rfl) (ea_cons (El.ed (el_lst (ea_cons ed_str (ea_cons ed_str (ea_cons (ed_cl (ea_cons (ed_var 0 rfl (.inr (.inl rfl)) rfl) (ea_cons ed_int ea_nil)) (hr.mono (by decide)) L1) (ea_cons (ed_tup (ea_cons ed_str (ea_cons ed_int ea_nil))) ea_nil)))))) ea_nil)) (hr.mono (by decide)) P2) ?_)
  refine bk_cons (bs_set 2 sc__law_told.nd rfl (.inl rfl) (ed_cl (ea_cons (ed_var 0 rfl (.inr (.inl rfl)) rfl) (ea_cons (El.ed (el_lst (ea_cons ed_int (ea_cons ed_int (ea_cons ed_int (ea_cons ed_int (ea_cons ed_int (ea_cons ed_int (ea_cons ed_int (ea_cons ed_int ea_nil)))))))))) ea_nil)) (hr.mono (by decide)) P3) ?_)
  refine bk_cons (bs_set 3 sc__law_told.nd rfl (.inl rfl) (ed_cl (ea_cons (ed_var 0 rfl (.inr (.inl rfl)) rfl) (ea_cons (El.ed (el_lst (ea_cons ed_str (ea_cons ed_str (ea_cons ed_str (ea_cons ed_int (ea_cons ed_int (ea_cons ed_int (ea_cons ed_int (ea_cons ed_int ea_nil)))))))))) ea_nil)) (hr.mono (by decide)) P4) ?_)
  refine bk_cons (bs_setLc 4 [("_law_k", 5)] rfl sc__law_told.nd rfl rfl rfl (ei_range1 (j := 2) T.bf ed_int (by decide) (by decide)) (blkOk_by rfl) (Comp.two (x0 := .int 0) (x1 := .int 1) (s0 := s4) (s1 := s6) (s2 := s8) (y0 := ml.D) (y1 := mr.D) ?_ ?_) ?_)
  · exact ⟨_, _, fun c => eg_name 5 sc__law_told.nd rfl (.inl rfl), by decide, fun c => ed_cl (ea_cons (ed_var 0 rfl (.inr (.inl rfl)) rfl) (ea_cons (El.ed (el_lst (ea_cons ed_str (ea_cons (ed_cl (ea_cons (ed_var 0 rfl (.inr (.inl rfl)) rfl) (ea_cons ed_int ea_nil)) (hr.mono (by decide)) L5) (ea_cons ed_int ea_nil))))) ea_nil)) (hr.mono (by decide)) P6⟩
  · exact ⟨_, _, fun c => eg_name 5 sc__law_told.nd rfl (.inl rfl), by decide, fun c => ed_cl (ea_cons (ed_var 0 rfl (.inr (.inl rfl)) rfl) (ea_cons (El.ed (el_lst (ea_cons ed_str (ea_cons (ed_cl (ea_cons (ed_var 0 rfl (.inr (.inl rfl)) rfl) (ea_cons ed_int ea_nil)) (hr.mono (by decide)) L7) (ea_cons ed_int ea_nil))))) ea_nil)) (hr.mono (by decide)) P8⟩
  refine bk_cons (bs_setLc 6 [("_law_k", 5)] rfl sc__law_told.nd rfl rfl rfl (ei_range1 (j := 2) T.bf ed_int (by decide) (by decide)) (blkOk_by rfl) (Comp.two (x0 := .int 0) (x1 := .int 1) (s0 := s8) (s1 := s10) (s2 := s12) (y0 := pl.D) (y1 := pr.D) ?_ ?_) ?_)
  · exact ⟨_, _, fun c => eg_name 5 sc__law_told.nd rfl (.inl rfl), by decide, fun c => ed_cl (ea_cons (ed_var 0 rfl (.inr (.inl rfl)) rfl) (ea_cons (El.ed (el_lst (ea_cons ed_int (ea_cons ed_int (ea_cons (ed_cl (ea_cons (ed_var 0 rfl (.inr (.inl rfl)) rfl) (ea_cons ed_int ea_nil)) (hr.mono (by decide)) L9) ea_nil))))) ea_nil)) (hr.mono (by decide)) P10⟩
  · exact ⟨_, _, fun c => eg_name 5 sc__law_told.nd rfl (.inl rfl), by decide, fun c => ed_cl (ea_cons (ed_var 0 rfl (.inr (.inl rfl)) rfl) (ea_cons (El.ed (el_lst (ea_cons ed_int (ea_cons ed_int (ea_cons (ed_cl (ea_cons (ed_var 0 rfl (.inr (.inl rfl)) rfl) (ea_cons ed_int ea_nil)) (hr.mono (by decide)) L11) ea_nil))))) ea_nil)) (hr.mono (by decide)) P12⟩
  exact bk_cons (bs_ret (ed_tup (ea_cons (ed_var 1 rfl (.inl rfl) rfl) (ea_cons (ed_var 2 rfl (.inl rfl) rfl) (ea_cons (ed_var 3 rfl (.inl rfl) rfl) (ea_cons (ed_ixV (ev_own 4 rfl (.inl rfl) rfl) ed_int rfl) (ea_cons (ed_ixV (ev_own 4 rfl (.inl rfl) rfl) ed_int rfl) (ea_cons (ed_ixV (ev_own 6 rfl (.inl rfl) rfl) ed_int rfl) (ea_cons (ed_ixV (ev_own 6 rfl (.inl rfl) rfl) ed_int rfl) ea_nil)))))))) ⟨rfl, rfl⟩)
end Law
set_option Elab.async false
set_option linter.all false
set_option maxRecDepth 100000
set_option maxHeartbeats 4000000
namespace Law
open PySem PySem.Spec PyProof.Rows L2 Gh
variable {E : En} {s : Sx}
/-- one thing handed: a tuple, or a list of the same -/
def Hn (x y : D) : Prop := y = x ∨ ∃ xs, x = .tup xs ∧ y = .lst xs
theorem Hn.hd {l : Ln} {y : D} (h : Hn l.D y) : Hd l y := by
  rcases h with rfl | ⟨xs, e, rfl⟩
  · exact .same l
  · cases l with
    | nat n => cases e
    | auto => cases e
    | part n => cases e; exact .lst n
theorem Hn.mo {m : Option Nat} {y : D} (h : Hn (moD m) y) : y = moD m := by
  rcases h with rfl | ⟨xs, e, rfl⟩
  · rfl
  · cases m <;> cases e
theorem Hn.int {n : Int} {y : D} (h : Hn (.int n) y) : y = .int n := by
  rcases h with rfl | ⟨xs, e, rfl⟩
  · rfl
  · cases e
def isTu : D → Bool
  | .tup _ => true
  | _ => false
/-- a turn of it -/
def Tn (E : En) (x : D) (s : Sx) (y : D) (s' : Sx) : Prop := (isTu x = false ∧ y = x ∧ s' = s) ∨ ∃ (xs : List D) (k : Nat), x = .tup xs ∧ Rn E 1 "_law_draw" [.mut, .int 2] s (.int k) s' ∧ y = (if k = 0 then .lst xs else x)
theorem Tn.hn {x y : D} {s' : Sx} (h : Tn E x s y s') : Hn x y := by
  rcases h with ⟨_, e, _⟩ | ⟨xs, k, rfl, _, e⟩
  · exact .inl e
  · by_cases z : k = 0
    · rw [if_pos z] at e; exact .inr ⟨xs, rfl, e⟩
    · rw [if_neg z] at e; exact .inl e
theorem rn_handed (T : Tc E) {n : Nat} {t : Tl} (h : St n s) (hn : n + 100 < 2 ^ 40) : ∃ (x : D) (hs : List D) (s' : Sx), items x = some hs ∧ Th t hs ∧ St (n + 8) s' ∧ Rn E 2 "_law_handed_told" [.mut, .tup t.ds] s x s' := by
  obtain ⟨tr, t0, tg, ts⟩ := trace (α := List D × Sx) (N := 7) (R := fun x y => ∃ d v, t.ds[x.1.length]? = some d ∧ Tn E d x.2 v y.2 ∧ y.1 = x.1 ++ [v])
    (G := fun i x => x.1.length = i ∧ (∀ (j : Nat) (v : D), x.1[j]? = some v → ∃ d, t.ds[j]? = some d ∧ Hn d v) ∧ St (n + i) x.2) ([], s) ⟨rfl, (fun j v e => by cases e), h⟩ (by
      rintro i ⟨hs, s1⟩ hi ⟨h1, h2, h3⟩
      dsimp only at h1 h2 h3
      have hd : ∃ d, t.ds[hs.length]? = some d := ⟨_, List.getElem?_eq_getElem (by rw [h1]; exact hi)⟩
      obtain ⟨d, hd⟩ := hd
      have key : ∃ v s2, Tn E d s1 v s2 ∧ St (n + (i + 1)) s2 := by
        cases z : isTu d with
        | false => exact ⟨d, s1, .inl ⟨z, rfl, rfl⟩, h3.mono (by omega)⟩
        | true =>
          cases d with
          | tup xs =>
            obtain ⟨k, s2, hk, h4, R⟩ := rn_draw T h3 (by omega) (many := 2) (by decide) (by decide)
            exact ⟨_, s2, .inr ⟨xs, k, rfl, R, rfl⟩, h4⟩
          | _ => cases z
      obtain ⟨v, s2, k1, k2⟩ := key
      refine ⟨(hs ++ [v], s2), ⟨d, v, hd, k1, rfl⟩, by simp [h1], fun j u e => ?_, k2⟩
      rcases Nat.lt_or_ge j hs.length with z | z
      · rw [List.getElem?_append_left z] at e; exact h2 j u e
      · rw [List.getElem?_append_right z] at e
        cases zz : j - hs.length with
        | zero =>
          rw [zz] at e; cases e
          have : j = hs.length := by omega
          subst this
          exact ⟨d, hd, k1.hn⟩
        | succ m => rw [zz] at e; cases e)
  have hlen : ∀ i, i ≤ 7 → (tr i).1.length = i := fun i hi => (tg i hi).1
  obtain ⟨g1, g2, g3⟩ := tg 7 (Nat.le_refl _)
  have hth : Th t (tr 7).1 := by
    match e : (tr 7).1, g1 with
    | [a, b, c, d, e', f, g], _ =>
      rw [e] at g2
      obtain ⟨_, q0, r0⟩ := g2 0 a rfl
      obtain ⟨_, q1, r1⟩ := g2 1 b rfl
      obtain ⟨_, q2, r2⟩ := g2 2 c rfl
      obtain ⟨_, q3, r3⟩ := g2 3 d rfl
      obtain ⟨_, q4, r4⟩ := g2 4 e' rfl
      obtain ⟨_, q5, r5⟩ := g2 5 f rfl
      obtain ⟨_, q6, r6⟩ := g2 6 g rfl
      cases q0; cases q1; cases q2; cases q3; cases q4; cases q5; cases q6
      rw [r1.int, r2.mo]
      exact .mk r0.hd r3.hd r4.hd r5.hd r6.hd
  obtain ⟨k, s', hk, h', R⟩ := rn_draw T g3 (by omega) (many := 2) (by decide) (by decide)
  refine ⟨if k = 0 then .lst (tr 7).1 else .tup (tr 7).1, (tr 7).1, s', by split <;> rfl, hth, h', ?_⟩
  refine T.d__law_handed_told.rn sc__law_handed_told (by rw [h.some, h'.some]) rfl fun fa cdv A outer sh H0 EX S0 p hr => ?_
  conv => arg 2; whnf
  refine bk_cons (bs_setLc 2 [("_law_one", 3)] rfl sc__law_handed_told.nd rfl rfl rfl (out := fun i => (tr i).1) (st := fun i => (tr i).2) (by rw [t0]; exact ei_seq (ed_var 1 rfl (.inl rfl) rfl) (.inr rfl)) (blkOk_by rfl) ⟨by rw [t0], fun i hi => by rw [hlen i hi]; exact Nat.le_trans hi (by show 7 ≤ sizeLine; decide), fun i d hd => ?_⟩ ?_)
  · have hi : i < 7 := by
      rcases Nat.lt_or_ge i 7 with z | z
      · exact z
      · rw [List.getElem?_eq_none (by exact z)] at hd; cases hd
    obtain ⟨d', v, k1, k2, k3⟩ := ts i hi
    rw [hlen i (by omega), hd] at k1
    cases k1
    refine ⟨_, _, fun c => eg_name 3 sc__law_handed_told.nd rfl (.inl rfl), by decide, true, (tr i).2, fun c => .inl ⟨rfl, rfl, rfl⟩, fun _ => ⟨v, fun c => ?_, k3⟩, fun z => by cases z⟩
    have hk : ∃ kk, d.kind = some kk ∧ isK kk .tuple = isTu d := by
      have : d ∈ t.ds := List.mem_of_getElem? hd
      simp only [Tl.ds, List.mem_cons, List.not_mem_nil, or_false] at this
      have hl : ∀ l : Ln, ∃ kk, l.D.kind = some kk ∧ isK kk .tuple = isTu l.D := fun l => by cases l <;> exact ⟨_, rfl, rfl⟩
      rcases this with rfl | rfl | rfl | rfl | rfl | rfl | rfl
      · exact hl _
      · exact ⟨_, rfl, rfl⟩
      · cases t.most <;> exact ⟨_, rfl, rfl⟩
      · exact hl _
      · exact hl _
      · exact hl _
      · exact hl _
    obtain ⟨kk, hk1, hk2⟩ := hk
    rcases k2 with ⟨z, rfl, e⟩ | ⟨xs, m, rfl, R1, e⟩
    · rw [e]
      exact ed_ifF (Ew.et (ew_andF (et_val (Ed.is (ed_isi T.bf (ed_var 3 rfl (.inl rfl) rfl) hk1 (cn_tuple T.bf)) (by rw [hk2, z]))))) (ed_var 3 rfl (.inl rfl) rfl)
    · by_cases z : m = 0
      · rw [e, if_pos z]
        exact ed_ifT (Ew.et (ew_andT (et_val (Ed.is (ed_isi T.bf (ed_var 3 rfl (.inl rfl) rfl) hk1 (cn_tuple T.bf)) (by rw [hk2]; rfl))) (ew_and1 (Cp.et (Cp.is (cp_eq hr (ed_cl (ea_cons (ed_var 0 rfl (.inr (.inl rfl)) rfl) (ea_cons ed_int ea_nil)) (hr.mono (by decide)) R1) ed_int (eqC_int _) (eqC_int _)) (by rw [eqb_int]; exact decide_eq_true (by omega))))))) (El.ed (el_listOf T.bf (ed_var 3 rfl (.inl rfl) rfl) (.inr rfl)))
      · rw [e, if_neg z]
        exact ed_ifF (Ew.et (ew_andT (et_val (Ed.is (ed_isi T.bf (ed_var 3 rfl (.inl rfl) rfl) hk1 (cn_tuple T.bf)) (by rw [hk2]; rfl))) (ew_and1 (Cp.et (Cp.is (cp_eq hr (ed_cl (ea_cons (ed_var 0 rfl (.inr (.inl rfl)) rfl) (ea_cons ed_int ea_nil)) (hr.mono (by decide)) R1) ed_int (eqC_int _) (eqC_int _)) (by rw [eqb_int]; exact decide_eq_false (by omega))))))) (ed_var 3 rfl (.inl rfl) rfl)
  · refine bk_freeze 2 rfl (bk_cons ?_)
    by_cases z : k = 0
    · rw [if_pos z]
      exact bs_ret (ed_ifT (Cp.et (Cp.is (cp_eq hr (ed_cl (ea_cons (ed_var 0 rfl (.inr (.inl rfl)) rfl) (ea_cons ed_int ea_nil)) (hr.mono (by decide)) R) ed_int (eqC_int _) (eqC_int _)) (by rw [eqb_int]; exact decide_eq_true (by omega)))) (ed_var 2 rfl (.inl rfl) rfl)) ⟨rfl, rfl⟩
    · rw [if_neg z]
      exact bs_ret (ed_ifF (Cp.et (Cp.is (cp_eq hr (ed_cl (ea_cons (ed_var 0 rfl (.inr (.inl rfl)) rfl) (ea_cons ed_int ea_nil)) (hr.mono (by decide)) R) ed_int (eqC_int _) (eqC_int _)) (by rw [eqb_int]; exact decide_eq_false (by omega)))) (ed_tupleOf T.bf (ed_var 2 rfl (.inl rfl) rfl) (.inl rfl))) ⟨rfl, rfl⟩
theorem LD_eqC (l : Ln) : l.D.eqC := by
  cases l with
  | nat n => exact eqC_int _
  | part n => exact (eqDs.cons (n := 0) .str (.cons (.int _) .nil)).tup.eqC
  | auto => exact eqC_str
theorem LD_auto (l : Ln) : l.D.eqb (.str "auto") = l.isA := by
  cases l with
  | auto => show (D.str _).eqb _ = _; rw [eqb_str]; decide +kernel
  | nat n => exact int_str _ _
  | part n => exact tup_str _ _
theorem fr_zero : (.tup [.int 0, .int 1] : D) = fr 0 := rfl
theorem fr_one : (.tup [.int 1, .int 1] : D) = fr 1 := rfl
theorem rn_worth (T : Tc E) {l : Ln} {r : Rat} (hl : l.n < 2 ^ 14) (hr : Sz 40 r) : Rn E 3 "_law_worth" [l.D, fr r] s (fr (l.wt r)) s := by
  refine T.d__law_worth.rn sc__law_worth rfl rfl fun fa cdv A outer sh H0 EX S0 p hrm => ?_
  conv => arg 2; whnf
  have ha := LD_auto l
  have hk : ∃ kk, l.D.kind = some kk := by cases l <;> exact ⟨_, rfl⟩
  cases l with
  | auto => exact bk_cons (bs_ifT (Cp.et (Cp.is (cp_eq hrm (ed_var 0 rfl (.inl rfl) rfl) ed_str (LD_eqC _) eqC_str) ha)) (bk_cons (bs_ret (ed_tup (ea_cons ed_int (ea_cons ed_int ea_nil))) ⟨fr_zero, rfl⟩)))
  | nat n =>
    refine bk_cons (bs_ifF (Cp.et (Cp.is (cp_eq hrm (ed_var 0 rfl (.inl rfl) rfl) ed_str (LD_eqC _) eqC_str) ha)) (bk_nil (bk_cons (bs_ret (ed_ifT (et_val (Ed.is (ed_isi T.bf (ed_var 0 rfl (.inl rfl) rfl) (k := .int) rfl (cn_int T.bf)) rfl)) (ed_cl (ea_cons (ed_var 0 rfl (.inl rfl) rfl) (ea_cons ed_int ea_nil)) (hrm.mono (by decide)) (rn_law_lowestN (b := 1) T (by decide) (by decide +kernel)))) ⟨?_, rfl⟩))))
    show fr (mkRat n 1) = fr (n : Rat)
    congr 1
    exact Rat.mkRat_one n
  | part n =>
    exact bk_cons (bs_ifF (Cp.et (Cp.is (cp_eq hrm (ed_var 0 rfl (.inl rfl) rfl) ed_str (LD_eqC _) eqC_str) ha)) (bk_nil (bk_cons (bs_ret (ed_ifF (et_val (Ed.is (ed_isi T.bf (ed_var 0 rfl (.inl rfl) rfl) (k := .tuple) rfl (cn_int T.bf)) rfl)) (ed_cl (ea_cons (ed_var 1 rfl (.inl rfl) rfl) (ea_cons (ed_tup (ea_cons (ed_ix (ed_var 0 rfl (.inl rfl) rfl) ed_int rfl) (ea_cons ed_int ea_nil))) ea_nil)) (hrm.mono (by decide)) (rn_law_timesP (n := n) (m := 100) T (hr.mono (by decide)) (Nat.lt_of_lt_of_le hl (Nat.pow_le_pow_right (by decide) (by decide))) (Nat.lt_of_lt_of_le (show 100 < 2 ^ 7 by decide) (Nat.pow_le_pow_right (by decide) (by decide))) (by decide)))) ⟨rfl, rfl⟩))))
theorem moD_eqC (m : Option Nat) : (moD m).eqC := by
  cases m with
  | none => exact eqC_str
  | some m => exact eqC_int _
theorem rn_law_held (T : Tc E) {x : Rat} {l : Nat} {m : Option Nat} (hx : Sz 3000 x) (hl : l < 2 ^ 14) (hm : ∀ k, m = some k → k < 2 ^ 14) : Rn E 2 "_law_held" [fr x, .int l, moD m] s (fr (heldR x l m)) s := by
  have zl : Sz 3000 (l : Rat) := (Sz.nat hl).mono (by decide)
  refine T.d__law_held.rn sc__law_held rfl rfl fun fa cdv A outer sh H0 EX S0 p hr => ?_
  conv => arg 2; whnf
  have fin : ∀ f : Rat, Sz 3000 f → Bk (bodyF E ["_law_number", "_law_least", "_law_most", "_law_found"] "_law_held" t__law_held s fa cdv A outer sh H0 EX S0 p) ((defBody t__law_held).drop 1) [.val (fr x), .val (.int l), .val (moD m), .val (fr f)] s ⟨fun _ t => fr (if (l : Rat) ≤ f then f else l) = .non ∧ t = s, fun r t => r = fr (if (l : Rat) ≤ f then f else l) ∧ t = s, fun _ _ => False, fun _ _ => False⟩ := fun f hf => by
    conv => arg 2; whnf
    refine bk_cons (bs_ret (ed_if (et_val (ed_cl (ea_cons (ed_var 3 rfl (.inl rfl) rfl) (ea_cons (Ed.is (ed_tup (ea_cons (ed_var 1 rfl (.inl rfl) rfl) (ea_cons ed_int ea_nil))) (fr_nat l)) ea_nil)) (hr.mono (by decide)) (rn_law_less T hf zl))) (fun _ => (ed_tup (ea_cons (ed_var 1 rfl (.inl rfl) rfl) (ea_cons ed_int ea_nil)))) (fun _ => (ed_var 3 rfl (.inl rfl) rfl))) ⟨?_, rfl⟩)
    by_cases h : (l : Rat) ≤ f
    · rw [if_pos h, if_neg (by rw [decide_eq_false (Rat.not_lt.mpr h)]; decide)]
    · rw [if_neg h, if_pos (decide_eq_true (Rat.not_le.mp h))]; rfl
  cases m with
  | none =>
    exact bk_cons (bs_set 3 (d := fr x) sc__law_held.nd rfl (.inl rfl) (ed_ifF (s1 := s) (Ew.et (ew_andF (Cp.et (Cp.is (cp_ne hr (ed_var 2 rfl (.inl rfl) rfl) ed_str (moD_eqC none) eqC_str) (by show (!(D.str _).eqb _) = _; rw [eqb_str]; decide +kernel))))) (ed_var 0 rfl (.inl rfl) rfl)) (fin x hx))
  | some m =>
    have zm : Sz 3000 (m : Rat) := (Sz.nat (hm m rfl)).mono (by decide)
    have hf : Sz 3000 (if x ≤ (m : Rat) then x else (m : Rat)) := by split <;> assumption
    refine bk_cons (bs_set 3 (d := fr (if x ≤ (m : Rat) then x else (m : Rat))) sc__law_held.nd rfl (.inl rfl) (Ed.is (ed_if (s1 := s) (Ew.et (ew_andT (Cp.et (Cp.is (cp_ne hr (ed_var 2 rfl (.inl rfl) rfl) ed_str (moD_eqC _) eqC_str) (by show (!(D.int _).eqb _) = _; rw [int_str]; rfl))) (ew_and1 (et_val (ed_cl (ea_cons (Ed.is (ed_tup (ea_cons (ed_var 2 rfl (.inl rfl) rfl) (ea_cons ed_int ea_nil))) (fr_nat m)) (ea_cons (ed_var 0 rfl (.inl rfl) rfl) ea_nil)) (hr.mono (by decide)) (rn_law_less T zm hx)))))) (fun _ => (ed_tup (ea_cons (ed_var 2 rfl (.inl rfl) rfl) (ea_cons ed_int ea_nil)))) (fun _ => (ed_var 0 rfl (.inl rfl) rfl))) ?_) (fin _ hf))
    by_cases h : x ≤ (m : Rat)
    · rw [if_pos h, if_neg (by rw [decide_eq_false (Rat.not_lt.mpr h)]; decide)]
    · rw [if_neg h, if_pos (decide_eq_true (Rat.not_le.mp h))]; rfl
end Law
set_option Elab.async false
set_option linter.all false
set_option maxRecDepth 100000
set_option maxHeartbeats 4000000
namespace Law
open PySem PySem.Spec PyProof.Rows L2 Gh
variable {E : En} {s : Sx}
theorem fr_half : (.tup [.int 1, .int 2] : D) = fr (1 / 2) := by
  have h1 : (1 / 2 : Rat).num = 1 := by decide +kernel
  have h2 : (1 / 2 : Rat).den = 2 := by decide +kernel
  unfold fr
  rw [h1, h2]; rfl
abbrev N_across : List Str := ["_law_told_here", "_law_room", "_law_width", "_law_least", "_law_most", "_law_mleft", "_law_mright", "_law_pleft", "_law_pright", "_law_left", "_law_near", "_law_far", "_law_rest", "_law_kept", "_law_spare", "_law_right"]
theorem rn_law_across (T : Tc E) {t : Tl} (sm : t.Sm) {r : Rat} (hr : Sz 40 r) : Rn E 4 "_law_across" [.tup t.ds, fr r] s (.tup ((t.five r).qs.map fr)) s := by
  have z1 := Ln.sz hr sm.ml
  have z2 := Ln.sz hr sm.pl
  have z3 := Ln.sz hr sm.pr
  have z4 := Ln.sz hr sm.mr
  have zr : Sz 3000 r := hr.mono (by decide)
  refine T.d__law_across.rn sc__law_across rfl rfl fun fa cdv A outer sh H0 EX S0 p hrm => ?_
  conv => arg 2; whnf
  unfold Tl.ds
  refine bk_cons (bs_asg (ed_var 0 rfl (.inl rfl) rfl) (eg_tup rfl (egs_cons (eg_name 2 sc__law_across.nd rfl (.inl rfl)) (egs_cons (eg_name 3 sc__law_across.nd rfl (.inl rfl)) (egs_cons (eg_name 4 sc__law_across.nd rfl (.inl rfl)) (egs_cons (eg_name 5 sc__law_across.nd rfl (.inl rfl)) (egs_cons (eg_name 6 sc__law_across.nd rfl (.inl rfl)) (egs_cons (eg_name 7 sc__law_across.nd rfl (.inl rfl)) (egs_cons (eg_name 8 sc__law_across.nd rfl (.inl rfl)) egs_nil)))))))) ?_)
  refine bk_cons (bs_par3 9 10 11 rfl sc__law_across.nd rfl rfl rfl (by decide) (by decide) (by decide) rfl rfl rfl (ea_cons (ed_cl (ea_cons (ed_var 5 rfl (.inl rfl) rfl) (ea_cons (ed_var 1 rfl (.inl rfl) rfl) ea_nil)) (hrm.mono (by decide)) (rn_worth T sm.ml hr)) (ea_cons (ed_cl (ea_cons (ed_var 7 rfl (.inl rfl) rfl) (ea_cons (ed_var 1 rfl (.inl rfl) rfl) ea_nil)) (hrm.mono (by decide)) (rn_worth T sm.pl hr)) (ea_cons (ed_cl (ea_cons (ed_var 8 rfl (.inl rfl) rfl) (ea_cons (ed_var 1 rfl (.inl rfl) rfl) ea_nil)) (hrm.mono (by decide)) (rn_worth T sm.pr hr)) ea_nil))) ?_)
  refine bk_cons (bs_set 12 sc__law_across.nd rfl (.inl rfl) (d := fr (t.free r)) (Ed.is (ed_cl (ea_cons (ed_cl (ea_cons (ed_cl (ea_cons (ed_var 1 rfl (.inl rfl) rfl) (ea_cons (ed_var 9 rfl (.inl rfl) rfl) ea_nil)) (hrm.mono (by decide)) (rn_law_minus T zr (z1.mono (by decide)))) (ea_cons (ed_var 10 rfl (.inl rfl) rfl) ea_nil)) (hrm.mono (by decide)) (rn_law_minus T ((hr.sub z1).mono (by decide)) (z2.mono (by decide)))) (ea_cons (ed_cl (ea_cons (ed_var 11 rfl (.inl rfl) rfl) (ea_cons (ed_cl (ea_cons (ed_var 6 rfl (.inl rfl) rfl) (ea_cons (ed_var 1 rfl (.inl rfl) rfl) ea_nil)) (hrm.mono (by decide)) (rn_worth T sm.mr hr)) ea_nil)) (hrm.mono (by decide)) (rn_law_plus T (z3.mono (by decide)) (z4.mono (by decide)))) ea_nil)) (hrm.mono (by decide)) (rn_law_minus T (((hr.sub z1).sub z2).mono (by decide)) ((z3.add z4).mono (by decide)))) (congrArg fr (by unfold Tl.free; grind))) ?_)
  refine bk_cons (bs_set 13 sc__law_across.nd rfl (.inl rfl) (d := fr (t.kept r)) (ed_cl (ea_cons (Ed.is (y := fr (if t.w.isA then t.free r else t.w.wt r)) (ed_if (Cp.et (cp_eq hrm (ed_var 2 rfl (.inl rfl) rfl) ed_str (LD_eqC t.w) eqC_str)) (fun _ => (ed_var 12 rfl (.inl rfl) rfl)) (fun _ => (ed_cl (ea_cons (ed_var 2 rfl (.inl rfl) rfl) (ea_cons (ed_var 1 rfl (.inl rfl) rfl) ea_nil)) (hrm.mono (by decide)) (rn_worth T sm.w hr)))) ?_) (ea_cons (ed_var 3 rfl (.inl rfl) rfl) (ea_cons (ed_var 4 rfl (.inl rfl) rfl) ea_nil))) (hrm.mono (by decide)) (rn_law_held T ((sm.zw hr).mono (by decide)) sm.least sm.most)) ?_)
  · rw [LD_auto]
    cases t.w.isA <;> rfl
  refine bk_cons (bs_set 14 sc__law_across.nd rfl (.inl rfl) (d := fr (t.spare r)) (ed_cl (ea_cons (ed_var 12 rfl (.inl rfl) rfl) (ea_cons (ed_var 13 rfl (.inl rfl) rfl) ea_nil)) (hrm.mono (by decide)) (rn_law_minus T ((sm.zfree hr).mono (by decide)) ((sm.zkept hr).mono (by decide)))) ?_)
  have fin : Bk (bodyF E N_across "_law_across" t__law_across s fa cdv A outer sh H0 EX S0 p) ((defBody t__law_across).drop 6) [.val (.tup [t.w.D, .int t.least, moD t.most, t.ml.D, t.mr.D, t.pl.D, t.pr.D]), .val (fr r), .val t.w.D, .val (.int t.least), .val (moD t.most), .val t.ml.D, .val t.mr.D, .val t.pl.D, .val t.pr.D, .val (fr (t.left r)), .val (fr (t.pl.wt r)), .val (fr (t.pr.wt r)), .val (fr (t.free r)), .val (fr (t.kept r)), .val (fr (t.spare r)), .no] s
      ⟨fun _ t' => D.tup ((t.five r).qs.map fr) = .non ∧ t' = s, fun r' t' => r' = .tup ((t.five r).qs.map fr) ∧ t' = s, fun _ _ => False, fun _ _ => False⟩ := by
    conv => arg 2; whnf
    refine bk_cons (bs_set 15 sc__law_across.nd rfl (.inl rfl) (d := fr (t.right r)) (Ed.is (ed_cl (ea_cons (ed_cl (ea_cons (ed_var 1 rfl (.inl rfl) rfl) (ea_cons (ed_var 9 rfl (.inl rfl) rfl) ea_nil)) (hrm.mono (by decide)) (rn_law_minus T zr ((sm.zleft hr).mono (by decide)))) (ea_cons (ed_cl (ea_cons (ed_cl (ea_cons (ed_var 10 rfl (.inl rfl) rfl) (ea_cons (ed_var 13 rfl (.inl rfl) rfl) ea_nil)) (hrm.mono (by decide)) (rn_law_plus T (z2.mono (by decide)) ((sm.zkept hr).mono (by decide)))) (ea_cons (ed_var 11 rfl (.inl rfl) rfl) ea_nil)) (hrm.mono (by decide)) (rn_law_plus T ((z2.add (sm.zkept hr)).mono (by decide)) (z3.mono (by decide)))) ea_nil)) (hrm.mono (by decide)) (rn_law_minus T ((hr.sub (sm.zleft hr)).mono (by decide)) (((z2.add (sm.zkept hr)).add z3).mono (by decide)))) (congrArg fr (by unfold Tl.right; grind))) ?_)
    exact bk_cons (bs_ret (ed_tup (ea_cons (ed_var 9 rfl (.inl rfl) rfl) (ea_cons (ed_var 10 rfl (.inl rfl) rfl) (ea_cons (ed_var 13 rfl (.inl rfl) rfl) (ea_cons (ed_var 11 rfl (.inl rfl) rfl) (ea_cons (ed_var 15 rfl (.inl rfl) rfl) ea_nil)))))) ⟨rfl, rfl⟩)
  have hlt : decide ((0 : Rat) < t.spare r) = !decide (t.spare r ≤ 0) := by
    by_cases h : t.spare r ≤ 0
    · rw [decide_eq_true h, decide_eq_false (Rat.not_lt.mpr h)]; rfl
    · rw [decide_eq_false h, decide_eq_true (Rat.not_le.mp h)]; rfl
  refine bk_cons (bs_if (Ew.et (ew_and (Cp.et (cp_eq hrm (ed_var 5 rfl (.inl rfl) rfl) ed_str (LD_eqC t.ml) eqC_str)) fun _ => (ew_and1 (et_val (ed_cl (ea_cons (Ed.is (ed_tup (ea_cons ed_int (ea_cons ed_int ea_nil))) fr_zero) (ea_cons (ed_var 14 rfl (.inl rfl) rfl) ea_nil)) (hrm.mono (by decide)) (rn_law_less T .zero ((sm.zspare hr).mono (by decide)))))))) (fun h => ?_) (fun h => ?_))
  · rw [LD_auto, hlt] at h
    have e : t.left r = if t.mr.isA then t.spare r * (1 / 2) else t.spare r := by unfold Tl.left; rw [if_pos h]
    refine bk_cons (bs_set 9 sc__law_across.nd rfl (.inl rfl) (d := fr (t.left r)) (Ed.is (ed_if (Cp.et (cp_eq hrm (ed_var 6 rfl (.inl rfl) rfl) ed_str (LD_eqC t.mr) eqC_str)) (fun _ => (ed_cl (ea_cons (ed_var 14 rfl (.inl rfl) rfl) (ea_cons (Ed.is (ed_tup (ea_cons ed_int (ea_cons ed_int ea_nil))) fr_half) ea_nil)) (hrm.mono (by decide)) (rn_law_times T ((sm.zspare hr).mono (by decide)) ⟨by decide +kernel, by decide +kernel⟩))) (fun _ => (ed_var 14 rfl (.inl rfl) rfl))) ?_) (bk_nil fin))
    rw [LD_auto, e]
    cases t.mr.isA <;> rfl
  · rw [LD_auto, hlt] at h
    have e : t.left r = t.ml.wt r := by unfold Tl.left; rw [h]; rfl
    rw [e] at fin
    exact bk_nil fin
/-- the five are the room -/
theorem five_sum (t : Tl) (r : Rat) : 0 + t.left r + t.pl.wt r + t.kept r + t.pr.wt r + t.right r = r := by unfold Tl.right; grind
end Law
set_option Elab.async false
set_option linter.all false
set_option maxRecDepth 100000
set_option maxHeartbeats 4000000
namespace Law
open PySem PySem.Spec PyProof.Rows L2 Gh
variable {E : En} {s : Sx}
/-- so many hundredths -/
def Hu (B : Nat) (q : Rat) : Prop := ∃ k : Int, q * 100 = (k : Rat) ∧ k.natAbs ≤ B
theorem Hu.mono {B C : Nat} {q : Rat} (h : Hu B q) (l : B ≤ C) : Hu C q := by
  obtain ⟨k, e, h⟩ := h
  exact ⟨k, e, Nat.le_trans h l⟩
theorem Hu.add {B C : Nat} {p q : Rat} (h : Hu B p) (g : Hu C q) : Hu (B + C) (p + q) := by
  obtain ⟨k, e, h⟩ := h
  obtain ⟨l, f, g⟩ := g
  exact ⟨k + l, by rw [Rat.add_mul, e, f, Rat.intCast_add], by omega⟩
theorem Hu.sub {B C : Nat} {p q : Rat} (h : Hu B p) (g : Hu C q) : Hu (B + C) (p - q) := by
  obtain ⟨k, e, h⟩ := h
  obtain ⟨l, f, g⟩ := g
  exact ⟨k - l, by rw [Rat.intCast_sub, ← e, ← f]; grind, by omega⟩
theorem Hu.zero {B : Nat} : Hu B 0 := ⟨0, by rw [Rat.zero_mul]; rfl, by simp⟩
theorem Hu.one : Hu 100 1 := ⟨100, by rw [Rat.one_mul]; rfl, by decide⟩
theorem Hu.nat {n : Nat} (h : n < 2 ^ 14) : Hu (2 ^ 21) (n : Rat) := ⟨(n : Int) * 100, by rw [Rat.intCast_mul]; rfl, by omega⟩
theorem Hu.mk {B : Nat} {q : Rat} (h : Hu B q) : ∃ k : Int, q = mkRat k 100 ∧ k.natAbs ≤ B := by
  obtain ⟨k, e, h⟩ := h
  refine ⟨k, ?_, h⟩
  rw [Rat.mkRat_eq_div]
  have : q = (k : Rat) / 100 := by grind
  exact this
theorem Hu.num {B : Nat} {q : Rat} (h : Hu B q) : q.num.natAbs ≤ B ∧ q.den ≤ 100 := by
  obtain ⟨k, e, h⟩ := h.mk
  rw [e]
  constructor
  · rw [mk_num k 100 (by decide)]
    exact Nat.le_trans (Int.natAbs_ediv_le_natAbs ..) h
  · rw [Rat.den_mkRat, if_neg (by decide)]
    exact Nat.div_le_self ..
theorem Hu.part {n : Nat} (h : n < 2 ^ 14) : Hu (2 ^ 21) (mkRat n 100) := ⟨n, by rw [Rat.mkRat_eq_div]; have : ((n : Int) : Rat) / ((100 : Nat) : Rat) * 100 = ((n : Int) : Rat) := by { have h : ((100 : Nat) : Rat) = 100 := rfl; rw [h]; grind }; exact this, by omega⟩
theorem Hu.sz {B : Nat} {q : Rat} (h : Hu B q) (hB : B < 2 ^ 40) : Sz 40 q := by
  have := h.num
  exact ⟨by omega, by omega⟩
theorem Ln.hu0 {l : Ln} (h : l.n < 2 ^ 14) : Hu (2 ^ 21) (l.wt 0) := by
  cases l with
  | nat n => exact .nat h
  | part n => show Hu _ (0 * _); rw [Rat.zero_mul]; exact .zero
  | auto => exact .zero
theorem Ln.hu1 {l : Ln} (h : l.n < 2 ^ 14) : Hu (2 ^ 21) (l.wt 1 - l.wt 0) := by
  cases l with
  | nat n => show Hu _ ((n : Rat) - n); rw [Rat.sub_self]; exact .zero
  | part n => show Hu _ (1 * _ - 0 * _); rw [Rat.zero_mul, Rat.one_mul]; have : mkRat (n : Int) 100 - 0 = mkRat (n : Int) 100 := by grind
              rw [this]; exact .part h
  | auto => show Hu _ ((0 : Rat) - 0); rw [Rat.sub_self]; exact .zero
theorem sz1 : Sz 40 1 := ⟨by decide, by decide⟩
/-- the sum of what stands beside -/
def nr (ls : List Ln) : Rat × Rat := ls.foldl (fun a l => (a.1 + l.wt 0, a.2 + (l.wt 1 - l.wt 0))) (0, 0)
theorem nr_snoc (ls : List Ln) (l : Ln) : nr (ls ++ [l]) = ((nr ls).1 + l.wt 0, (nr ls).2 + (l.wt 1 - l.wt 0)) := by simp [nr]
theorem nr_hu (ls : List Ln) (h : ∀ l ∈ ls, l.n < 2 ^ 14) : ∀ i, Hu (i * 2 ^ 21) (nr (ls.take i)).1 ∧ Hu (i * 2 ^ 21) (nr (ls.take i)).2
  | 0 => ⟨.zero, .zero⟩
  | i + 1 => by
    have ih := nr_hu ls h i
    rw [List.take_add_one]
    cases e : ls[i]? with
    | none => rw [show (none : Option Ln).toList = [] from rfl, List.append_nil]; exact ⟨ih.1.mono (by omega), ih.2.mono (by omega)⟩
    | some l =>
      have hl := h l (List.mem_of_getElem? e)
      rw [show (some l).toList = [l] from rfl, nr_snoc]
      exact ⟨(ih.1.add (Ln.hu0 hl)).mono (by omega), (ih.2.add (Ln.hu1 hl)).mono (by omega)⟩
def Tl.beside (t : Tl) : List Ln := [t.ml, t.pl, t.pr, t.mr]
def Tl.forms (t : Tl) : List (Rat × Rat) := [(0 - (nr t.beside).1, 1 - (nr t.beside).2), (0, 0), ((t.least : Rat), 0)] ++ (match t.most with | some m => [((m : Rat), 0)] | none => []) ++ (if t.w.isA then [] else [(t.w.wt 0, t.w.wt 1 - t.w.wt 0)])
theorem Tl.Sm.mem {t : Tl} (h : t.Sm) : ∀ l ∈ t.beside, l.n < 2 ^ 14 := by
  intro l m
  simp only [Tl.beside, List.mem_cons, List.not_mem_nil, or_false] at m
  rcases m with rfl | rfl | rfl | rfl
  · exact h.ml
  · exact h.pl
  · exact h.pr
  · exact h.mr
theorem forms_hu {t : Tl} (h : t.Sm) : ∀ f ∈ t.forms, Hu (2 ^ 24) f.1 ∧ Hu (2 ^ 24) f.2 := by
  have hn := nr_hu t.beside h.mem 4
  have e : t.beside.take 4 = t.beside := rfl
  rw [e] at hn
  intro f m
  rcases List.mem_append.mp m with m | m
  · rcases List.mem_append.mp m with m | m
    · simp only [List.mem_cons, List.not_mem_nil, or_false] at m
      rcases m with rfl | rfl | rfl
      · exact ⟨(Hu.zero (B := 0).sub hn.1).mono (by decide), (Hu.one.sub hn.2).mono (by decide)⟩
      · exact ⟨.zero, .zero⟩
      · exact ⟨(Hu.nat h.least).mono (by decide), .zero⟩
    · cases e : t.most with
      | none => rw [e] at m; cases m
      | some k => rw [e] at m; rw [List.mem_singleton.mp m]; exact ⟨(Hu.nat (h.most k e)).mono (by decide), .zero⟩
  · cases e : t.w.isA with
    | true => rw [e] at m; cases m
    | false => rw [e] at m; rw [List.mem_singleton.mp m]; exact ⟨(Ln.hu0 h.w).mono (by decide), (Ln.hu1 h.w).mono (by decide)⟩
theorem forms_len (t : Tl) : t.forms.length ≤ 5 := by
  unfold Tl.forms
  cases t.most <;> cases t.w.isA <;> simp
abbrev fp (f : Rat × Rat) : D := fm f.1 f.2
/-- where two of them meet -/
def meet (f g : Rat × Rat) : List Rat := if (f.2 - g.2).num = 0 then [] else if 0 < (ovr (g.1 - f.1) (f.2 - g.2)).num then [ovr (g.1 - f.1) (f.2 - g.2)] else []
def meets1 (fs : List (Rat × Rat)) (f : Rat × Rat) : List Rat := fs.flatMap (meet f)
def meets (fs gs : List (Rat × Rat)) : List Rat := gs.flatMap (meets1 fs)
theorem meet_ok {f g : Rat × Rat} (h1 : Hu (2 ^ 24) f.1) (h2 : Hu (2 ^ 24) f.2) (h3 : Hu (2 ^ 24) g.1) (h4 : Hu (2 ^ 24) g.2) {q : Rat} (m : q ∈ meet f g) : 0 < q.num ∧ Sz 40 q := by
  unfold meet at m
  split at m
  · cases m
  · rename_i h0
    split at m
    · rename_i hp
      rw [List.mem_singleton.mp m]
      have n1 := (h3.sub h1).num
      have n2 := (h2.sub h4).num
      exact ⟨hp, (ovr_sz h0 26 7 (by omega) (by omega) (by omega) (by omega)).mono (by decide)⟩
    · cases m
theorem meet_len (f g : Rat × Rat) : (meet f g).length ≤ 1 := by
  unfold meet
  split
  · simp
  · split <;> simp
theorem meets1_len (fs : List (Rat × Rat)) (f : Rat × Rat) : (meets1 fs f).length ≤ fs.length := by
  unfold meets1
  induction fs with
  | nil => simp
  | cons g gs ih =>
    have := meet_len f g
    rw [List.flatMap_cons, List.length_append, List.length_cons]; omega
theorem meets_len (fs : List (Rat × Rat)) : ∀ gs : List (Rat × Rat), (meets fs gs).length ≤ gs.length * fs.length
  | [] => by simp [meets]
  | g :: gs => by
    have := meets1_len fs g
    have := meets_len fs gs
    show ((g :: gs).flatMap (meets1 fs)).length ≤ _
    rw [List.flatMap_cons, List.length_append, List.length_cons, Nat.add_mul]
    unfold meets at this
    omega
theorem meets_mem {fs gs : List (Rat × Rat)} {q : Rat} (h : q ∈ meets fs gs) : ∃ f ∈ gs, ∃ g ∈ fs, q ∈ meet f g := by
  obtain ⟨f, mf, h⟩ := List.mem_flatMap.mp h
  obtain ⟨g, mg, h⟩ := List.mem_flatMap.mp h
  exact ⟨f, mf, g, mg, h⟩
def Tl.corn (t : Tl) : List Rat := sortQ (0 :: meets t.forms t.forms)
theorem corn_ok {t : Tl} (sm : t.Sm) : ∀ q ∈ t.corn, 0 ≤ q.num ∧ Sz 40 q := by
  intro q m
  rcases foldQ_mem m with m | m
  · cases m
  · rcases List.mem_cons.mp m with rfl | m
    · exact ⟨by decide, .zero⟩
    · obtain ⟨f, mf, g, mg, h⟩ := meets_mem m
      obtain ⟨a1, a2⟩ := forms_hu sm f mf
      obtain ⟨b1, b2⟩ := forms_hu sm g mg
      obtain ⟨c1, c2⟩ := meet_ok a1 a2 b1 b2 h
      exact ⟨by omega, c2⟩
theorem corn_len (t : Tl) : t.corn.length ≤ 26 := by
  have h1 := foldQ_len (0 :: meets t.forms t.forms) []
  have h2 := meets_len t.forms t.forms
  have h3 := forms_len t
  have h4 : t.forms.length * t.forms.length ≤ 25 := Nat.mul_le_mul h3 h3
  unfold Tl.corn sortQ
  simp only [List.length_nil, List.length_cons] at *
  omega
end Law
set_option Elab.async false
set_option linter.all false
set_option maxRecDepth 100000
set_option maxHeartbeats 4000000
namespace Law
open PySem PySem.Spec PyProof.Rows L2 Gh
variable {E : En} {s : Sx}
abbrev N_corners : List Str := ["_law_told_here", "_law_width", "_law_least", "_law_most", "_law_mleft", "_law_mright", "_law_pleft", "_law_pright", "_law_zero", "_law_one", "_law_near", "_law_length_here", "_law_start", "_law_slope", "_law_forms", "_law_found", "_law_form", "_law_other", "_law_room"]
/-- the names of it, from the told ones on -/
abbrev cfr (t : Tl) (near : D) (g11 g12 g13 forms found g16 g17 g18 : G) : List G :=
  [.val (.tup t.ds), .val t.w.D, .val (.int t.least), .val (moD t.most), .val t.ml.D, .val t.mr.D, .val t.pl.D, .val t.pr.D, .val (fr 0), .val (fr 1), .val near, g11, g12, g13, forms, found, g16, g17, g18]
theorem fm_at0 (a b : Rat) : (fm a b).at 0 = some (fr a) := rfl
theorem fm_at1 (a b : Rat) : (fm a b).at 1 = some (fr b) := rfl
theorem fr_at0 (a : Rat) : (fr a).at 0 = some (.int a.num) := rfl
/-- the loops over the forms -/
theorem bk_corners (T : Tc E) {fs : List (Rat × Rat)} {t : Tl} (hf : ∀ f ∈ fs, Hu (2 ^ 24) f.1 ∧ Hu (2 ^ 24) f.2) (hl : fs.length ≤ 5) {near : D} {g11 g12 g13 g15 : G} (fa : Addr) (cdv : Value) (A : Around) (outer : List Env) (sh : Shared) (H0 : Hp) (EX : XK) (S0 : List Addr) (p : Addr) (hr : Room 4 (bodyF E N_corners "_law_corners" t__law_corners s fa cdv A outer sh H0 EX S0 p).X.A) :
    Bk (bodyF E N_corners "_law_corners" t__law_corners s fa cdv A outer sh H0 EX S0 p) ((defBody t__law_corners).drop 7) (cfr t near g11 g12 g13 (.val (.lst (fs.map fp))) g15 .no .no .no) s
      ⟨fun _ t' => D.lst ((sortQ (0 :: meets fs fs)).map fr) = .non ∧ t' = s, fun r' t' => r' = .lst ((sortQ (0 :: meets fs fs)).map fr) ∧ t' = s, fun _ _ => False, fun _ _ => False⟩ := by
  have zl : 1000 ≤ sizeLine := by decide
  have hsz : ∀ f ∈ fs, Sz 3000 f.1 ∧ Sz 3000 f.2 := fun f m => ⟨((hf f m).1.sz (by decide)).mono (by decide), ((hf f m).2.sz (by decide)).mono (by decide)⟩
  have hml : ∀ i, (meets fs (fs.take i)).length ≤ 25 := fun i => by
    have h1 := meets_len fs (fs.take i)
    have h2 : (fs.take i).length ≤ 5 := Nat.le_trans (List.length_take_le' i fs) hl
    have h3 : (fs.take i).length * fs.length ≤ 25 := Nat.mul_le_mul h2 hl
    omega
  conv => arg 2; whnf
  refine bk_cons (bs_setOwn 15 sc__law_corners.nd rfl (.inl rfl) (el_lst (ea_cons (ed_var 8 rfl (.inl rfl) rfl) ea_nil)) ?_)
  refine bk_cons (bs_for PassesOwn.never rfl (ei_seq (ed_var 14 rfl (.inl rfl) rfl) (.inl rfl)) (fun i ρ s' => s' = s ∧ ∃ g13 g16 g17 g18, ρ = cfr t near g11 g12 g13 (.val (.lst (fs.map fp))) (.own ((0 :: meets fs (fs.take i)).map fr)) g16 g17 g18) ⟨rfl, _, _, _, _, rfl⟩ ?_ ?_)
  · rintro i d ρ' s' hi ⟨rfl, g13, g16, g17, g18, rfl⟩
    rw [List.getElem?_map] at hi
    cases e : fs[i]? with
    | none => rw [e] at hi; cases hi
    | some f =>
      rw [e] at hi; cases hi
      have mf := List.mem_of_getElem? e
      have e2 : meets fs (fs.take (i + 1)) = meets fs (fs.take i) ++ meets1 fs f := by
        rw [List.take_add_one, e]
        simp [meets]
      have hli := hml i
      have hli2 := hml (i + 1)
      rw [e2, List.length_append] at hli2
      refine ⟨_, _, eg_name 16 sc__law_corners.nd rfl (.inl rfl), bk_cons (bs_for PassesOwn.never rfl (ei_seq (ed_var 14 rfl (.inl rfl) rfl) (.inl rfl)) (fun j ρ s1 => s1 = s' ∧ ∃ g13 g17 g18, ρ = cfr t near g11 g12 g13 (.val (.lst (fs.map fp))) (.own ((0 :: (meets fs (fs.take i) ++ meets1 (fs.take j) f)).map fr)) (.val (fp f)) g17 g18) ⟨rfl, g13, g17, g18, by rw [show meets1 (fs.take 0) f = [] from rfl, List.append_nil]; rfl⟩ ?_ ?_)⟩
      · rintro j d ρ2 s1 hj ⟨rfl, g13, g17, g18, rfl⟩
        rw [List.getElem?_map] at hj
        cases e3 : fs[j]? with
        | none => rw [e3] at hj; cases hj
        | some g =>
          rw [e3] at hj; cases hj
          have mg := List.mem_of_getElem? e3
          have e4 : meets1 (fs.take (j + 1)) f = meets1 (fs.take j) f ++ meet f g := by
            rw [List.take_add_one, e3]
            simp [meets1]
          have e5 : (0 :: (meets fs (fs.take i) ++ meets1 (fs.take (j + 1)) f)).map fr = (0 :: (meets fs (fs.take i) ++ meets1 (fs.take j) f)).map fr ++ (meet f g).map fr := by rw [e4]; simp
          have hlj : (meets1 (fs.take j) f).length ≤ 5 := Nat.le_trans (meets1_len _ _) (Nat.le_trans (List.length_take_le' j fs) hl)
          have zf := hsz f mf
          have zg := hsz g mg
          have zs : Sz 1000 (f.2 - g.2) := (((hf f mf).2.sub (hf g mg).2).sz (by decide)).mono (by decide)
          have zd : Sz 1000 (g.1 - f.1) := (((hf g mg).1.sub (hf f mf).1).sz (by decide)).mono (by decide)
          refine ⟨_, _, eg_name 17 sc__law_corners.nd rfl (.inl rfl), bk_cons (bs_set 13 sc__law_corners.nd rfl (.inl rfl) (ed_cl (ea_cons (ed_ix (ed_var 16 rfl (.inl rfl) rfl) ed_int (fm_at1 _ _)) (ea_cons (ed_ix (ed_var 17 rfl (.inl rfl) rfl) ed_int (fm_at1 _ _)) ea_nil)) (hr.mono (by decide)) (rn_law_minus T zf.2 zg.2)) ?_)⟩
          refine bk_cons (bs_if (Cp.et (cp_ne hr (ed_ix (ed_var 13 rfl (.inl rfl) rfl) ed_int (fr_at0 _)) ed_int (eqC_int _) (eqC_int _))) (fun hb => ?_) (fun hb => ?_))
          · have h0 : (f.2 - g.2).num ≠ 0 := by rw [eqb_int] at hb; simpa using hb
            refine bk_cons (bs_set 18 sc__law_corners.nd rfl (.inl rfl) (ed_cl (ea_cons (ed_cl (ea_cons (ed_ix (ed_var 17 rfl (.inl rfl) rfl) ed_int (fm_at0 _ _)) (ea_cons (ed_ix (ed_var 16 rfl (.inl rfl) rfl) ed_int (fm_at0 _ _)) ea_nil)) (hr.mono (by decide)) (rn_law_minus T zg.1 zf.1)) (ea_cons (ed_var 13 rfl (.inl rfl) rfl) ea_nil)) (hr.mono (by decide)) (rn_law_over T zd zs h0)) ?_)
            by_cases hp : 0 < (ovr (g.1 - f.1) (f.2 - g.2)).num
            · have em : meet f g = [ovr (g.1 - f.1) (f.2 - g.2)] := by unfold meet; rw [if_neg h0, if_pos hp]
              refine bk_cons (bs_extend 15 rfl (.inl rfl) rfl (el_ifT (Cp.et (Cp.is (cp_gt (ed_ix (ed_var 18 rfl (.inl rfl) rfl) ed_int (fr_at0 _)) ed_int) (decide_eq_true hp))) (el_lst (ea_cons (ed_var 18 rfl (.inl rfl) rfl) ea_nil))) ?_ (bk_nil (bk_nil ⟨rfl, .val (fr (f.2 - g.2)), .val (fp g), .val (fr (ovr (g.1 - f.1) (f.2 - g.2))), ?_⟩)))
              · simp; omega
              · rw [e5, em]; rfl
            · have em : meet f g = [] := by unfold meet; rw [if_neg h0, if_neg hp]
              refine bk_cons (bs_extend 15 rfl (.inl rfl) rfl (el_ifF (Cp.et (Cp.is (cp_gt (ed_ix (ed_var 18 rfl (.inl rfl) rfl) ed_int (fr_at0 _)) ed_int) (decide_eq_false hp))) (el_lst ea_nil)) ?_ (bk_nil (bk_nil ⟨rfl, .val (fr (f.2 - g.2)), .val (fp g), .val (fr (ovr (g.1 - f.1) (f.2 - g.2))), ?_⟩)))
              · simp; omega
              · rw [e5, em]; rfl
          · have h0 : (f.2 - g.2).num = 0 := by rw [eqb_int] at hb; simpa using hb
            have em : meet f g = [] := by unfold meet; rw [if_pos h0]
            refine bk_nil (bk_nil ⟨rfl, .val (fr (f.2 - g.2)), .val (fp g), g18, ?_⟩)
            rw [e4, em, List.append_nil]; rfl
      · rintro ρ2 s1 ⟨rfl, g13, g17, g18, rfl⟩
        rw [List.length_map, List.take_length]
        exact bk_nil ⟨rfl, _, _, _, _, by rw [e2]⟩
  · rintro ρ' s' ⟨rfl, g13, g16, g17, g18, rfl⟩
    rw [List.length_map, List.take_length]
    have hl2 := hml fs.length
    rw [List.take_length] at hl2
    refine bk_freeze 15 rfl (bk_cons (bs_ret (ed_cl (ea_cons (ed_var 15 rfl (.inl rfl) rfl) ea_nil) (hr.mono (by decide)) (rn_sorted T ?_ ?_)) ⟨rfl, rfl⟩))
    · rw [List.length_cons]; omega
    · intro q m
      rcases List.mem_cons.mp m with rfl | m
      · exact .zero
      · obtain ⟨f, mf, g, mg, h⟩ := meets_mem m
        exact (meet_ok (hf f mf).1 (hf f mf).2 (hf g mg).1 (hf g mg).2 h).2.mono (by decide)
end Law
set_option Elab.async false
set_option linter.all false
set_option maxRecDepth 100000
set_option maxHeartbeats 4000000
namespace Law
open PySem PySem.Spec PyProof.Rows L2 Gh
variable {E : En} {s : Sx}
theorem LD_mo (m : Option Nat) : (moD m).eqb (.str "none") = m.isNone := by
  cases m with
  | none => show (D.str _).eqb _ = _; rw [eqb_str]; decide +kernel
  | some m => exact int_str _ _
theorem nfm (n : Nat) : (.tup [.tup [.int n, .int 1], fr 0] : D) = fp ((n : Rat), 0) := rfl
theorem rn_corners (T : Tc E) {t : Tl} (sm : t.Sm) : Rn E 5 "_law_corners" [.tup t.ds] s (.lst (t.corn.map fr)) s := by
  have zb := nr_hu t.beside sm.mem
  have z40 : ∀ {q : Rat} {B : Nat}, Hu B q → B < 2 ^ 40 → Sz 3000 q := fun h l => (h.sz l).mono (by decide)
  have s1 : Sz 3000 1 := sz1.mono (by decide)
  refine T.d__law_corners.rn sc__law_corners rfl rfl fun fa cdv A outer sh H0 EX S0 p hr => ?_
  have fin := fun (g11 g12 g13 : G) (near : D) => bk_corners (s := s) (near := near) (g11 := g11) (g12 := g12) (g13 := g13) (g15 := .no) (t := t) T (forms_hu sm) (forms_len t) fa cdv A outer sh H0 EX S0 p hr
  conv => arg 2; whnf
  refine bk_cons (bs_asg (ed_var 0 rfl (.inl rfl) rfl) (eg_tup rfl (egs_cons (eg_name 1 sc__law_corners.nd rfl (.inl rfl)) (egs_cons (eg_name 2 sc__law_corners.nd rfl (.inl rfl)) (egs_cons (eg_name 3 sc__law_corners.nd rfl (.inl rfl)) (egs_cons (eg_name 4 sc__law_corners.nd rfl (.inl rfl)) (egs_cons (eg_name 5 sc__law_corners.nd rfl (.inl rfl)) (egs_cons (eg_name 6 sc__law_corners.nd rfl (.inl rfl)) (egs_cons (eg_name 7 sc__law_corners.nd rfl (.inl rfl)) egs_nil)))))))) ?_)
  refine bk_cons (bs_asg (d := .tup [fr 0, fr 1]) (ed_tup (ea_cons (Ed.is (ed_tup (ea_cons ed_int (ea_cons ed_int ea_nil))) fr_zero) (ea_cons (Ed.is (ed_tup (ea_cons ed_int (ea_cons ed_int ea_nil))) fr_one) ea_nil))) (eg_tup rfl (egs_cons (eg_name 8 sc__law_corners.nd rfl (.inl rfl)) (egs_cons (eg_name 9 sc__law_corners.nd rfl (.inl rfl)) egs_nil))) ?_)
  refine bk_cons (bs_set 10 (d := fm 0 0) sc__law_corners.nd rfl (.inl rfl) (ed_tup (ea_cons (ed_var 8 rfl (.inl rfl) rfl) (ea_cons (ed_var 8 rfl (.inl rfl) rfl) ea_nil))) ?_)
  refine bk_cons (bs_for PassesOwn.never rfl (ei_seq (ed_tup (ea_cons (ed_var 4 rfl (.inl rfl) rfl) (ea_cons (ed_var 6 rfl (.inl rfl) rfl) (ea_cons (ed_var 7 rfl (.inl rfl) rfl) (ea_cons (ed_var 5 rfl (.inl rfl) rfl) ea_nil))))) (.inr rfl)) (fun i ρ s' => s' = s ∧ ∃ g11 g12 g13, ρ = cfr t (fp (nr (t.beside.take i))) g11 g12 g13 .no .no .no .no .no) ⟨rfl, _, _, _, rfl⟩ ?_ ?_)
  · rintro i d ρ' s' hi ⟨rfl, g11, g12, g13, rfl⟩
    have hl : ∃ l ∈ t.beside, t.beside[i]? = some l ∧ d = l.D := by
      match i, hi with
      | 0, hi => cases hi; exact ⟨t.ml, by simp [Tl.beside], rfl, rfl⟩
      | 1, hi => cases hi; exact ⟨t.pl, by simp [Tl.beside], rfl, rfl⟩
      | 2, hi => cases hi; exact ⟨t.pr, by simp [Tl.beside], rfl, rfl⟩
      | 3, hi => cases hi; exact ⟨t.mr, by simp [Tl.beside], rfl, rfl⟩
      | i + 4, hi => cases hi
    obtain ⟨l, ml, e, rfl⟩ := hl
    have hn := sm.mem l ml
    have e2 : nr (t.beside.take (i + 1)) = ((nr (t.beside.take i)).1 + l.wt 0, (nr (t.beside.take i)).2 + (l.wt 1 - l.wt 0)) := by
      rw [List.take_add_one, e]; exact nr_snoc _ _
    have hi4 : i < 4 := by
      rcases Nat.lt_or_ge i 4 with z | z
      · exact z
      · rw [List.getElem?_eq_none (by exact z)] at e; cases e
    have w0 : Sz 3000 (l.wt 0) := z40 (Ln.hu0 hn) (by decide)
    have w1 : Sz 3000 (l.wt 1) := (Ln.sz sz1 hn).mono (by decide)
    have w2 : Sz 3000 (l.wt 1 - l.wt 0) := z40 (Ln.hu1 hn) (by decide)
    have n1 : Sz 3000 (nr (t.beside.take i)).1 := z40 (zb i).1 (by omega)
    have n2 : Sz 3000 (nr (t.beside.take i)).2 := z40 (zb i).2 (by omega)
    refine ⟨_, _, eg_name 11 sc__law_corners.nd rfl (.inl rfl), bk_cons (bs_par 12 13 rfl sc__law_corners.nd rfl rfl (by decide) rfl rfl (ea_cons (ed_cl (ea_cons (ed_var 11 rfl (.inl rfl) rfl) (ea_cons (ed_var 8 rfl (.inl rfl) rfl) ea_nil)) (hr.mono (by decide)) (rn_worth T hn .zero)) (ea_cons (ed_cl (ea_cons (ed_cl (ea_cons (ed_var 11 rfl (.inl rfl) rfl) (ea_cons (ed_var 9 rfl (.inl rfl) rfl) ea_nil)) (hr.mono (by decide)) (rn_worth T hn sz1)) (ea_cons (ed_cl (ea_cons (ed_var 11 rfl (.inl rfl) rfl) (ea_cons (ed_var 8 rfl (.inl rfl) rfl) ea_nil)) (hr.mono (by decide)) (rn_worth T hn .zero)) ea_nil)) (hr.mono (by decide)) (rn_law_minus T w1 w0)) ea_nil)) ?_)⟩
    refine bk_cons (bs_set 10 sc__law_corners.nd rfl (.inl rfl) (ed_tup (ea_cons (ed_cl (ea_cons (ed_ix (ed_var 10 rfl (.inl rfl) rfl) ed_int (fm_at0 _ _)) (ea_cons (ed_var 12 rfl (.inl rfl) rfl) ea_nil)) (hr.mono (by decide)) (rn_law_plus T n1 w0)) (ea_cons (ed_cl (ea_cons (ed_ix (ed_var 10 rfl (.inl rfl) rfl) ed_int (fm_at1 _ _)) (ea_cons (ed_var 13 rfl (.inl rfl) rfl) ea_nil)) (hr.mono (by decide)) (rn_law_plus T n2 w2)) ea_nil))) (bk_nil ⟨rfl, .val l.D, .val (fr (l.wt 0)), .val (fr (l.wt 1 - l.wt 0)), ?_⟩))
    rw [e2]; rfl
  · rintro ρ' s' ⟨rfl, g11, g12, g13, rfl⟩
    have e : t.beside.take [t.ml.D, t.pl.D, t.pr.D, t.mr.D].length = t.beside := rfl
    rw [e]
    have n1 : Sz 3000 (nr t.beside).1 := z40 (zb 4).1 (by decide)
    have n2 : Sz 3000 (nr t.beside).2 := z40 (zb 4).2 (by decide)
    have w0 : Sz 3000 (t.w.wt 0) := z40 (Ln.hu0 sm.w) (by decide)
    have w1 : Sz 3000 (t.w.wt 1) := (Ln.sz sz1 sm.w).mono (by decide)
    refine bk_cons (bs_setOwn 14 (ds := [fp (0 - (nr t.beside).1, 1 - (nr t.beside).2), fp (0, 0), fp ((t.least : Rat), 0)]) sc__law_corners.nd rfl (.inl rfl) (el_lst (ea_cons (ed_tup (ea_cons (ed_cl (ea_cons (ed_var 8 rfl (.inl rfl) rfl) (ea_cons (ed_ix (ed_var 10 rfl (.inl rfl) rfl) ed_int (fm_at0 _ _)) ea_nil)) (hr.mono (by decide)) (rn_law_minus T .zero n1)) (ea_cons (ed_cl (ea_cons (ed_var 9 rfl (.inl rfl) rfl) (ea_cons (ed_ix (ed_var 10 rfl (.inl rfl) rfl) ed_int (fm_at1 _ _)) ea_nil)) (hr.mono (by decide)) (rn_law_minus T s1 n2)) ea_nil))) (ea_cons (ed_tup (ea_cons (ed_var 8 rfl (.inl rfl) rfl) (ea_cons (ed_var 8 rfl (.inl rfl) rfl) ea_nil))) (ea_cons (ed_tup (ea_cons (ed_tup (ea_cons (ed_var 2 rfl (.inl rfl) rfl) (ea_cons ed_int ea_nil))) (ea_cons (ed_var 8 rfl (.inl rfl) rfl) ea_nil))) ea_nil)))) ?_)
    have last : ∀ (ms : List (Rat × Rat)), ms = (match t.most with | some m => [((m : Rat), (0 : Rat))] | none => []) → Bk (bodyF E N_corners "_law_corners" t__law_corners s' fa cdv A outer sh H0 EX S0 p) ((defBody t__law_corners).drop 6) (cfr t (fp (nr t.beside)) g11 g12 g13 (.own ([fp (0 - (nr t.beside).1, 1 - (nr t.beside).2), fp (0, 0), fp ((t.least : Rat), 0)] ++ ms.map fp)) .no .no .no .no) s'
        ⟨fun _ t' => D.lst (t.corn.map fr) = .non ∧ t' = s', fun r' t' => r' = .lst (t.corn.map fr) ∧ t' = s', fun _ _ => False, fun _ _ => False⟩ := by
      intro ms hms
      have hml : ms.length ≤ 1 := by rw [hms]; cases t.most <;> simp
      conv => arg 2; whnf
      cases hw : t.w.isA with
      | true =>
        refine bk_cons (bs_ifF (Cp.et (Cp.is (cp_ne hr (ed_var 1 rfl (.inl rfl) rfl) ed_str (LD_eqC t.w) eqC_str) (by rw [LD_auto, hw]; rfl))) (bk_nil (bk_freeze 14 rfl ?_)))
        have ef : t.forms.map fp = [fp (0 - (nr t.beside).1, 1 - (nr t.beside).2), fp (0, 0), fp ((t.least : Rat), 0)] ++ ms.map fp := by unfold Tl.forms; rw [hms, hw]; simp <;> (cases t.most <;> rfl)
        have := fin g11 g12 g13 (fp (nr t.beside))
        rw [ef] at this
        exact this
      | false =>
        refine bk_cons (bs_ifT (Cp.et (Cp.is (cp_ne hr (ed_var 1 rfl (.inl rfl) rfl) ed_str (LD_eqC t.w) eqC_str) (by rw [LD_auto, hw]; rfl))) ?_)
        refine bk_cons (bs_set 12 sc__law_corners.nd rfl (.inl rfl) (ed_cl (ea_cons (ed_var 1 rfl (.inl rfl) rfl) (ea_cons (ed_var 8 rfl (.inl rfl) rfl) ea_nil)) (hr.mono (by decide)) (rn_worth T sm.w .zero)) ?_)
        refine bk_cons (bs_append 14 rfl (.inl rfl) rfl (ed_tup (ea_cons (ed_var 12 rfl (.inl rfl) rfl) (ea_cons (ed_cl (ea_cons (ed_cl (ea_cons (ed_var 1 rfl (.inl rfl) rfl) (ea_cons (ed_var 9 rfl (.inl rfl) rfl) ea_nil)) (hr.mono (by decide)) (rn_worth T sm.w sz1)) (ea_cons (ed_var 12 rfl (.inl rfl) rfl) ea_nil)) (hr.mono (by decide)) (rn_law_minus T w1 w0)) ea_nil))) ?_ (bk_nil (bk_freeze 14 rfl ?_)))
        · have : 5 < sizeLine := by decide
          simp only [List.length_append, List.length_cons, List.length_nil, List.length_map]; omega
        · have ef : t.forms.map fp = [fp (0 - (nr t.beside).1, 1 - (nr t.beside).2), fp (0, 0), fp ((t.least : Rat), 0)] ++ ms.map fp ++ [fp (t.w.wt 0, t.w.wt 1 - t.w.wt 0)] := by unfold Tl.forms; rw [hms, hw]; simp <;> (cases t.most <;> rfl)
          have := fin g11 (.val (fr (t.w.wt 0))) g13 (fp (nr t.beside))
          rw [ef] at this
          exact this
    cases hm : t.most with
    | none =>
      refine bk_cons (bs_extend 14 rfl (.inl rfl) rfl (el_ifF (Cp.et (Cp.is (cp_ne hr (ed_var 3 rfl (.inl rfl) rfl) ed_str (moD_eqC _) eqC_str) (by rw [LD_mo, hm]; rfl))) (el_lst ea_nil)) (by show 3 ≤ sizeLine; decide) ?_)
      exact last [] (by rw [hm])
    | some m =>
      refine bk_cons (bs_extend 14 (ds := [fp ((m : Rat), 0)]) rfl (.inl rfl) rfl (el_ifT (Cp.et (Cp.is (cp_ne hr (ed_var 3 rfl (.inl rfl) rfl) ed_str (moD_eqC _) eqC_str) (by rw [LD_mo, hm]; rfl))) (el_lst (ea_cons (Ed.is (ed_tup (ea_cons (ed_tup (ea_cons (ed_var 3 (d := .int m) rfl (.inl rfl) (by show some (G.val (moD t.most)) = _; rw [hm]; rfl)) (ea_cons ed_int ea_nil))) (ea_cons (ed_var 8 rfl (.inl rfl) rfl) ea_nil))) (nfm m)) ea_nil))) (by show 4 ≤ sizeLine; decide) ?_)
      exact last [((m : Rat), 0)] (by rw [hm])
end Law
set_option Elab.async false
set_option linter.all false
set_option maxRecDepth 100000
set_option maxHeartbeats 4000000
namespace Law
open PySem PySem.Spec PyProof.Rows L2 Gh
variable {E : En} {s : Sx}
/-- a room of the law's -/
def Ro (d : D) : Prop := ∃ t b : Nat, d = .tup [.int t, .int b] ∧ t < 2 ^ 40 ∧ 0 < b ∧ b < 2 ^ 40
theorem ro_fr {q : Rat} (h : 0 ≤ q.num) (z : Sz 40 q) : Ro (fr q) := by
  refine ⟨q.num.toNat, q.den, ?_, ?_, q.den_pos, z.2⟩
  · unfold fr; rw [Int.toNat_of_nonneg h]
  · have := z.1; omega
theorem rn_rooms (T : Tc E) {n : Nat} {t : Tl} (sm : t.Sm) (h : St n s) (hn : n + 100 < 2 ^ 40) : ∃ (rs : List D) (s' : Sx), (∀ r ∈ rs, Ro r) ∧ rs.length ≤ 5 ∧ St (n + 29) s' ∧ Rn E 6 "_law_rooms" [.mut, .tup t.ds] s (.lst rs) s' := by
  obtain ⟨d1, s1, hd1, h1, R1⟩ := rn_draw T h (by omega) (many := 90) (by decide) (by decide)
  obtain ⟨d2, s2, hd2, h2, R2⟩ := rn_draw T h1 (by omega) (many := 300) (by decide) (by decide)
  obtain ⟨d3, s3, hd3, h3, R3⟩ := rn_draw T h2 (by omega) (many := 7) (by decide) (by decide)
  have hcl := corn_len t
  obtain ⟨ys, s4, hy, hyl, h4, R4⟩ := rn_mixed T h3 (xs := t.corn.map fr) (by rw [List.length_map]; omega) (by rw [List.length_map]; omega) (fun x m => by
    obtain ⟨q, _, rfl⟩ := List.mem_map.mp m
    exact (eqD.fr q).mono (by decide))
  rw [List.length_map] at h4 hyl
  have hro : ∀ y ∈ ys, Ro y := fun y m => by
    obtain ⟨q, mq, rfl⟩ := List.mem_map.mp (hy y m)
    obtain ⟨a, b⟩ := corn_ok sm q mq
    exact ro_fr a b
  have hcut : ∀ y ∈ Gh.cutD ys none (some 2), y ∈ ys := fun y m => List.mem_of_mem_drop (List.mem_of_mem_take m)
  have hcl2 : (Gh.cutD ys none (some 2)).length ≤ 2 := by
    unfold Gh.cutD
    have : HT.sIx ys.length ys.length (some 2) ≤ 2 := by
      have := HT.sIx_nat ys.length ys.length 2
      show HT.sIx ys.length ys.length (some ((2 : Nat) : Int)) ≤ 2
      omega
    rw [HT.sIx_none, List.drop_zero, Nat.sub_zero]
    exact Nat.le_trans (List.length_take_le ..) this
  refine ⟨[.tup [.int 0, .int 1], .tup [.int d1, .int 1], .tup [.int d2, .int (1 + d3)]] ++ Gh.cutD ys none (some 2), s4, ?_, ?_, h4.mono (by omega), ?_⟩
  · intro r m
    rcases List.mem_append.mp m with m | m
    · simp only [List.mem_cons, List.not_mem_nil, or_false] at m
      rcases m with rfl | rfl | rfl
      · exact ⟨0, 1, rfl, by decide, by decide, by decide⟩
      · exact ⟨d1, 1, rfl, by omega, by decide, by decide⟩
      · exact ⟨d2, 1 + d3, by rw [Int.natCast_add]; rfl, by omega, by omega, by omega⟩
    · exact hro r (hcut r m)
  · rw [List.length_append]; simp only [List.length_cons, List.length_nil]; omega
  refine T.d__law_rooms.rn sc__law_rooms (by rw [h.some, h4.some]) rfl fun fa cdv A outer sh H0 EX S0 p hr => ?_
  conv => arg 2; whnf
  refine bk_cons (bs_set 2 sc__law_rooms.nd rfl (.inl rfl) (El.ed (el_lst (ea_cons (ed_tup (ea_cons ed_int (ea_cons ed_int ea_nil))) (ea_cons (ed_tup (ea_cons (ed_cl (ea_cons (ed_var 0 rfl (.inl rfl) rfl) (ea_cons ed_int ea_nil)) (hr.mono (by decide)) R1) (ea_cons ed_int ea_nil))) (ea_cons (ed_tup (ea_cons (ed_cl (ea_cons (ed_var 0 rfl (.inl rfl) rfl) (ea_cons ed_int ea_nil)) (hr.mono (by decide)) R2) (ea_cons (ed_bin ed_int (ed_cl (ea_cons (ed_var 0 rfl (.inl rfl) rfl) (ea_cons ed_int ea_nil)) (hr.mono (by decide)) R3) rfl trivial) ea_nil))) ea_nil))))) ?_)
  refine bk_cons (bs_ret (El.ed (el_cat ?_ (ed_var 2 rfl (.inl rfl) rfl) (El.ed (el_slice (ed_cl (ea_cons (ed_var 0 rfl (.inl rfl) rfl) (ea_cons (ed_cl (ea_cons (ed_var 1 rfl (.inl rfl) rfl) ea_nil) (hr.mono (by decide)) (rn_corners T sm)) ea_nil)) (hr.mono (by decide)) R4) .none (.some ed_int))))) ⟨rfl, rfl⟩)
  have : 5 ≤ sizeLine := by decide
  simp only [List.length_cons, List.length_nil]; omega
def wh : D → Bool
  | .int _ => true
  | _ => false
theorem wh_iff {x : D} {k : Kn} (hk : x.kind = some k) : (isK k .int && !isK k .bool) = wh x := by
  cases x <;> first | (cases hk; rfl) | cases hk
theorem isFr_wh {d u v : D} (e : items d = some [u, v]) (h : (wh u && wh v) = false) : isFr d = false := by
  unfold isFr
  rw [e]
  cases u <;> first | rfl | skip
  cases v <;> first | rfl | cases h
theorem isFr_len {d : D} {ys : List D} (e : items d = some ys) (h : ¬ ys.length = 2) : isFr d = false := by
  unfold isFr; rw [e]; exact isFrL_len h
def ival : D → Int
  | .int b => b
  | _ => 0
theorem isFr_uv {d u v : D} (e : items d = some [u, v]) : isFr d = !(!(wh u && wh v) || decide (ival v < 1)) := by
  cases h : (wh u && wh v) with
  | false => rw [isFr_wh e h]; rfl
  | true =>
    obtain ⟨hu, hv⟩ := Bool.and_eq_true_iff.mp h
    unfold isFr
    rw [e]
    cases u <;> first | cases hu | skip
    cases v <;> first | cases hv | skip
    rename_i a b
    show decide (0 < b) = !(!true || decide (b < 1))
    by_cases z : b < 1
    · rw [decide_eq_true z, decide_eq_false (by omega)]; rfl
    · rw [decide_eq_false z, decide_eq_true (by omega)]; rfl
/-- is_one tells what is_across tells -/
theorem rn_is_one (T : Tc E) {f : Five} {z : D} (hz : dat z = true) (hb : ∀ zs, items z = some zs → ∀ d ∈ zs, ∀ t b, items d = some [.int t, .int b] → b.natAbs < 2 ^ 8000) :
    Rn E 2 "_law_is_one" [.tup (f.qs.map fr), z] s (.bl (isAc f z)) s := by
  obtain ⟨k, hk⟩ := dat_kind hz
  have h1 : [Kn.list, Kn.tuple].any (isK k) = (items z).isSome := isL_items hk hz
  refine T.d__law_is_one.rn sc__law_is_one rfl rfl fun fa cdv A outer sh H0 EX S0 p hr => ?_
  conv => arg 2; whnf
  cases e : items z with
  | none =>
    rw [e] at h1
    exact bk_cons (bs_ifT (Ew.et (ew_orT (et_not (k := false) (et_val (Ed.is (ed_isiT T.bf (ed_var 1 rfl (.inl rfl) rfl) hk (cns_cons (cn_list T.bf) (cns_cons (cn_tuple T.bf) cns_nil))) (by rw [h1]; rfl)))))) (bk_cons (bs_ret ed_bl ⟨by unfold isAc; rw [e], rfl⟩)))
  | some zs =>
    rw [e] at h1
    have hd := items_dat e hz
    have hb := hb zs e
    by_cases hl : zs.length = 5
    · refine bk_cons (bs_ifF (Ew.et (ew_orF (et_not (k := true) (et_val (Ed.is (ed_isiT T.bf (ed_var 1 rfl (.inl rfl) rfl) hk (cns_cons (cn_list T.bf) (cns_cons (cn_tuple T.bf) cns_nil))) (by rw [h1]; rfl)))) (ew_or1 (Cp.et (Cp.is (cp_ne hr (ed_len T.bf (ed_var 1 rfl (.inl rfl) rfl) (items_size e)) ed_int (eqC_int _) (eqC_int _)) (y := false) (by rw [eqb_int, hl]; rfl)))))) (bk_nil ?_))
      refine bk_cons (bs_for PassesOwn.never rfl (ei_seq (ed_var 1 rfl (.inl rfl) rfl) (items_or e)) (fun i ρ s' => s' = s ∧ (∃ g2, ρ = [.val (.tup (f.qs.map fr)), .val z, g2, .no]) ∧ ∀ (j : Nat) (d : D), j < i → zs[j]? = some d → isFr d = true) ⟨rfl, ⟨_, rfl⟩, fun j d h => by omega⟩ ?_ ?_)
      · rintro i d ρ' s' hi ⟨rfl, ⟨g2, rfl⟩, ih⟩
        have md := List.mem_of_getElem? hi
        have hdd := dats_mem hd md
        obtain ⟨k2, hk2⟩ := dat_kind hdd
        have h2 : [Kn.list, Kn.tuple].any (isK k2) = (items d).isSome := isL_items hk2 hdd
        have no : isFr d = false → D.bl false = D.bl (isAc f z) := fun hf => by
          unfold isAc; rw [e]
          have : zs.all isFr = false := by
            rw [Bool.eq_false_iff]
            intro h
            rw [List.all_eq_true.mp h d md] at hf; cases hf
          simp [this]
        have yes : isFr d = true → ∀ (j : Nat) (d' : D), j < i + 1 → zs[j]? = some d' → isFr d' = true := fun hf j d' hj hd' => by
          rcases Nat.lt_or_ge j i with z | z
          · exact ih j d' z hd'
          · have : j = i := by omega
            subst this
            rw [hi] at hd'; cases hd'; exact hf
        refine ⟨_, _, eg_name 2 sc__law_is_one.nd rfl (.inl rfl), ?_⟩
        cases e2 : items d with
        | none =>
          rw [e2] at h2
          exact bk_cons (bs_ifT (Ew.et (ew_orT (et_not (k := false) (et_val (Ed.is (ed_isiT T.bf (ed_var 2 rfl (.inl rfl) rfl) hk2 (cns_cons (cn_list T.bf) (cns_cons (cn_tuple T.bf) cns_nil))) (by rw [h2]; rfl)))))) (bk_cons (bs_ret ed_bl ⟨no (by unfold isFr; rw [e2]), rfl⟩)))
        | some ys =>
          rw [e2] at h2
          have hyd := items_dat e2 hdd
          by_cases hl2 : ys.length = 2
          · refine bk_cons (bs_ifF (Ew.et (ew_orF (et_not (k := true) (et_val (Ed.is (ed_isiT T.bf (ed_var 2 rfl (.inl rfl) rfl) hk2 (cns_cons (cn_list T.bf) (cns_cons (cn_tuple T.bf) cns_nil))) (by rw [h2]; rfl)))) (ew_or1 (Cp.et (Cp.is (cp_ne hr (ed_len T.bf (ed_var 2 rfl (.inl rfl) rfl) (items_size e2)) ed_int (eqC_int _) (eqC_int _)) (y := false) (by rw [eqb_int, hl2]; rfl)))))) (bk_nil ?_))
            match ys, hl2 with
            | [u, v], _ =>
              refine bk_cons (bs_if (Ew.et (ew_or (k := !(wh u && wh v)) (l := decide (ival v < 1)) (et_not (et_val (Ed.is (ed_all T.bf rfl (bs := [wh u, wh v]) (Ed.is (El.ed (el_map [("_law_number", 3)] (fun y => .bl (wh y)) rfl sc__law_is_one.nd (ei_seq (ed_var 2 rfl (.inl rfl) rfl) (items_or e2)) (blkOk_by rfl) (by show 2 ≤ sizeLine; decide) (fun j y hj => ?_))) rfl)) (by simp)))) fun hw => ?_)) (fun ht => ?_) (fun ht => ?_))
              · have my := dats_mem hyd (List.mem_of_getElem? hj)
                obtain ⟨k3, hk3⟩ := dat_kind my
                exact ⟨_, _, fun c => eg_name 3 sc__law_is_one.nd rfl (.inl rfl), by decide, fun c => Ed.is (ed_and (ed_isi T.bf (ed_var 3 rfl (.inl rfl) rfl) hk3 (cn_int T.bf)) fun _ => (ed_one (ed_not (ed_isi T.bf (ed_var 3 rfl (.inl rfl) rfl) hk3 (cn_bool T.bf))))) (congrArg D.bl (wh_iff hk3))⟩
              · have hv : wh v = true := by
                  cases hu : wh u <;> cases hv : wh v <;> rw [hu, hv] at hw <;> first | rfl | cases hw
                have i1 : d.at 1 = some (.int (ival v)) := by
                  rw [items_at e2]
                  cases v <;> first | rfl | cases hv
                exact ew_or1 (Cp.et (cp_lt (ed_ix (ed_var 2 rfl (.inl rfl) rfl) ed_int i1) ed_int))
              · exact bk_cons (bs_ret ed_bl ⟨no (by rw [isFr_uv e2, ht]; rfl), rfl⟩)
              · exact bk_nil (bk_nil ⟨rfl, ⟨_, rfl⟩, yes (by rw [isFr_uv e2, ht]; rfl)⟩)
          · exact bk_cons (bs_ifT (Ew.et (ew_orF (et_not (k := true) (et_val (Ed.is (ed_isiT T.bf (ed_var 2 rfl (.inl rfl) rfl) hk2 (cns_cons (cn_list T.bf) (cns_cons (cn_tuple T.bf) cns_nil))) (by rw [h2]; rfl)))) (ew_or1 (Cp.et (Cp.is (cp_ne hr (ed_len T.bf (ed_var 2 rfl (.inl rfl) rfl) (items_size e2)) ed_int (eqC_int _) (eqC_int _)) (y := true) (by rw [eqb_int, decide_eq_false (by omega)]; rfl)))))) (bk_cons (bs_ret ed_bl ⟨no (isFr_len e2 hl2), rfl⟩)))
      · rintro ρ' s' ⟨rfl, ⟨g2, rfl⟩, ih⟩
        have ha : ∀ d ∈ zs, isFr d = true := fun d m => by
          obtain ⟨j, hj⟩ := List.getElem?_of_mem m
          refine ih j d ?_ hj
          rcases Nat.lt_or_ge j zs.length with z | z
          · exact z
          · rw [List.getElem?_eq_none z] at hj; cases hj
        have hf : zs.all isFr = true := List.all_eq_true.mpr ha
        refine bk_cons (bs_ret (Cp.ed (cp_eq (x := .tup ((zs.map frq).map fr)) hr (Ed.is (ed_tupleOf T.bf (El.ed (el_map [("_law_one", 2)] (fun d => fr (frq d)) rfl sc__law_is_one.nd (ei_seq (ed_var 1 rfl (.inl rfl) rfl) (items_or e)) (blkOk_by rfl) (by rw [hl]; decide) (fun i d hi => ?_))) (.inl rfl)) ?_) (ed_var 0 rfl (.inl rfl) rfl) (eqD.frs _).tup.eqC (eqD.frs _).tup.eqC)) ⟨?_, rfl⟩)
        · have m := List.mem_of_getElem? hi
          obtain ⟨t, b, e3, hb3⟩ := isFr_items (ha d m)
          have i0 : d.at 0 = some (.int t) := by rw [items_at e3]; rfl
          have i1 : d.at 1 = some (.int b) := by rw [items_at e3]; rfl
          exact ⟨_, _, fun c => eg_name 2 sc__law_is_one.nd rfl (.inl rfl), by decide, fun c => Ed.is (ed_cl (ea_cons (ed_ix (ed_var 2 rfl (.inl rfl) rfl) ed_int i0) (ea_cons (ed_ix (ed_var 2 rfl (.inl rfl) rfl) ed_int i1) ea_nil)) (hr.mono (by decide)) (rn_law_lowest T hb3 (hb d m t b e3))) (by unfold frq; rw [e3])⟩
        · rw [List.map_map]; rfl
        · rw [tup_eqb, frs_eqbs]; unfold isAc; rw [e]; simp [hf, hl]
    · exact bk_cons (bs_ifT (Ew.et (ew_orF (et_not (k := true) (et_val (Ed.is (ed_isiT T.bf (ed_var 1 rfl (.inl rfl) rfl) hk (cns_cons (cn_list T.bf) (cns_cons (cn_tuple T.bf) cns_nil))) (by rw [h1]; rfl)))) (ew_or1 (Cp.et (Cp.is (cp_ne hr (ed_len T.bf (ed_var 1 rfl (.inl rfl) rfl) (items_size e)) ed_int (eqC_int _) (eqC_int _)) (y := true) (by rw [eqb_int, decide_eq_false (by omega)]; rfl)))))) (bk_cons (bs_ret ed_bl ⟨by unfold isAc; rw [e]; simp [hl], rfl⟩)))
end Law
set_option Elab.async false
set_option linter.all false
set_option maxRecDepth 100000
set_option maxHeartbeats 4000000
namespace Law
open PySem PySem.Spec PyProof.Rows L2 Gh
variable {E : En} {s : Sx}
/-- a thing's part: data, with a small bottom if it is a fraction -/
def E2 (d : D) : Prop := dat d = true ∧ ∀ t b, items d = some [.int t, .int b] → b.natAbs < 2 ^ 8000
/-- a thing -/
def Tg (z : D) : Prop := dat z = true ∧ ∀ zs, items z = some zs → ∀ d ∈ zs, ∀ t b, items d = some [.int t, .int b] → b.natAbs < 2 ^ 8000
theorem tg_tup {ds : List D} (h : ∀ d ∈ ds, E2 d) : Tg (.tup ds) := ⟨by unfold dat; exact dats_of fun d m => (h d m).1, fun zs e => by cases e; exact fun d m => (h d m).2⟩
theorem tg_lst {ds : List D} (h : ∀ d ∈ ds, E2 d) : Tg (.lst ds) := ⟨by unfold dat; exact dats_of fun d m => (h d m).1, fun zs e => by cases e; exact fun d m => (h d m).2⟩
theorem e2_pair {t b : Int} (h : b.natAbs < 2 ^ 8000) : E2 (.tup [.int t, .int b]) := ⟨rfl, fun t' b' e => by cases e; exact h⟩
theorem e2_fr {q : Rat} (h : Sz 3000 q) : E2 (fr q) := e2_pair (Nat.lt_of_lt_of_le h.d (Nat.pow_le_pow_right (by decide) (by decide)))
theorem ixN_nat {n i : Nat} (h : i < n) : ixN n (i : Int) = some i := by
  unfold ixN
  rw [if_pos (by omega), if_pos (by omega), Int.toNat_natCast]
/-- its items as a list -/
def asL : D → D
  | .tup xs => .lst xs
  | x => x
theorem rn_things (T : Tc E) {n : Nat} {f : Five} (hq : ∀ q ∈ f.qs, Sz 1000 q) (h : St n s) (hn : n + 2 < 2 ^ 40) : ∃ (zs : List D) (s' : Sx), (∀ z ∈ zs, Tg z) ∧ zs.length ≤ 20 ∧ St (n + 2) s' ∧ Rn E 3 "_law_things" [.mut, .tup (f.qs.map fr)] s (.lst zs) s' := by
  obtain ⟨k, s1, hk, h1, R1⟩ := rn_draw T h (by omega) (many := 5) (by decide) (by decide)
  obtain ⟨m, s2, hm, h2, R2⟩ := rn_draw T h1 (by omega) (many := 4) (by decide) (by decide)
  have hl : f.qs.length = 5 := rfl
  have ho : (k + 1 + m) % 5 < 5 := Nat.mod_lt _ (by decide)
  have hk5 : k < f.qs.length := hk
  have ho5 : (k + 1 + m) % 5 < f.qs.length := ho
  let q := f.qs[k]
  let r := f.qs[(k + 1 + m) % 5]
  have zq : Sz 1000 q := hq _ (List.getElem_mem hk5)
  have zr : Sz 1000 r := hq _ (List.getElem_mem ho5)
  have zall : ∀ d ∈ f.qs.map fr, E2 d := fun d md => by
    obtain ⟨x, mx, rfl⟩ := List.mem_map.mp md
    exact e2_fr ((hq x mx).mono (by decide))
  let ds := f.qs.map fr
  let odds : List D := [.non, .int 5, .tup [.int 1, .int 0], .str "1", .tup [.int (q.num + 1), .int q.den], .tup [.bl true, .int 1], .tup [.int (2 * q.num), .int (2 * q.den)]]
  let base : List D := [.tup ds, .lst ds, .lst (ds.map asL), .tup (Gh.cutD ds none (some 4)), .tup (ds ++ [.tup [.int 0, .int 1]]), .tup ds.reverse, .non, .int 5, .str "abcde", .emp, .tup []]
  let put : D → D := fun o => .tup (Gh.cutD ds none (some (k : Int)) ++ [o] ++ Gh.cutD ds (some ((k : Int) + 1)) none)
  let bent : List D := ((ds.set k (fr (q + 1))).set ((k + 1 + m) % 5) (fr (r - 1)))
  let last : List D := [fr f.right] ++ Gh.cutD ds (some 1) (some 4) ++ [fr f.left]
  have hodd : ∀ o ∈ odds, E2 o := by
    intro o mo
    simp only [odds, List.mem_cons, List.not_mem_nil, or_false] at mo
    have b1 : ((q.den : Int)).natAbs < 2 ^ 3000 := (zq.mono (m := 1000) (n := 3000) (by decide)).d
    have b2 : (2 : Nat) ^ 3001 ≤ 2 ^ 8000 := Nat.pow_le_pow_right (by decide) (by decide)
    have b3 : (2 : Nat) ^ 3001 = 2 * 2 ^ 3000 := by rw [Nat.pow_succ, Nat.mul_comm]
    rcases mo with rfl | rfl | rfl | rfl | rfl | rfl | rfl
    · exact ⟨rfl, fun t b e => by cases e⟩
    · exact ⟨rfl, fun t b e => by cases e⟩
    · exact e2_pair (by rw [Int.natAbs_zero]; exact Nat.two_pow_pos _)
    · exact ⟨rfl, fun t b e => by cases e⟩
    · exact e2_pair (Nat.lt_of_lt_of_le b1 (Nat.pow_le_pow_right (by decide) (by decide)))
    · exact ⟨rfl, fun t b e => by cases e⟩
    · refine e2_pair ?_
      rw [Int.natAbs_mul]
      refine Nat.lt_of_lt_of_le ?_ b2
      rw [b3]
      exact Nat.mul_lt_mul_of_pos_left b1 (by decide)
  have hcut : ∀ (i j : Option Int), ∀ d ∈ Gh.cutD ds i j, d ∈ ds := fun i j d md => List.mem_of_mem_drop (List.mem_of_mem_take md)
  have hset : ∀ (xs : List D) (i : Nat) (v d : D), d ∈ xs.set i v → d ∈ xs ∨ d = v := fun xs i v d md => List.mem_or_eq_of_mem_set md
  have z1 : Sz 3000 1 := sz1.mono (by decide)
  refine ⟨base ++ odds.map put ++ [.lst bent, .lst last], s2, ?_, by simp [base, odds], h2, ?_⟩
  · intro z mz
    rcases List.mem_append.mp mz with mz | mz
    · rcases List.mem_append.mp mz with mz | mz
      · simp only [base, List.mem_cons, List.not_mem_nil, or_false] at mz
        rcases mz with rfl | rfl | rfl | rfl | rfl | rfl | rfl | rfl | rfl | rfl | rfl
        · exact tg_tup zall
        · exact tg_lst zall
        · refine tg_lst fun d md => ?_
          obtain ⟨d', md', rfl⟩ := List.mem_map.mp md
          obtain ⟨x, mx, rfl⟩ := List.mem_map.mp md'
          have := e2_fr ((hq x mx).mono (n := 3000) (by decide))
          exact ⟨rfl, fun t b e => this.2 t b (by cases e; rfl)⟩
        · exact tg_tup fun d md => zall d (hcut _ _ d md)
        · refine tg_tup fun d md => ?_
          rcases List.mem_append.mp md with md | md
          · exact zall d md
          · rw [List.mem_singleton.mp md]; exact e2_pair (Nat.one_lt_two_pow (by decide))
        · exact tg_tup fun d md => zall d (List.mem_reverse.mp md)
        · exact ⟨rfl, fun zs e => by cases e⟩
        · exact ⟨rfl, fun zs e => by cases e⟩
        · exact ⟨rfl, fun zs e => by cases e⟩
        · exact ⟨rfl, fun zs e => by cases e⟩
        · exact tg_tup fun d md => by cases md
      · obtain ⟨o, mo, rfl⟩ := List.mem_map.mp mz
        refine tg_tup fun d md => ?_
        rcases List.mem_append.mp md with md | md
        · rcases List.mem_append.mp md with md | md
          · exact zall d (hcut _ _ d md)
          · rw [List.mem_singleton.mp md]; exact hodd o mo
        · exact zall d (hcut _ _ d md)
    · simp only [List.mem_cons, List.not_mem_nil, or_false] at mz
      rcases mz with rfl | rfl
      · refine tg_lst fun d md => ?_
        rcases hset _ _ _ _ md with md | rfl
        · rcases hset _ _ _ _ md with md | rfl
          · exact zall d md
          · exact e2_fr ((zq.add sz1).mono (by decide))
        · exact e2_fr ((zr.sub sz1).mono (by decide))
      · refine tg_lst fun d md => ?_
        rcases List.mem_append.mp md with md | md
        · rcases List.mem_append.mp md with md | md
          · rw [List.mem_singleton.mp md]; exact e2_fr ((hq _ (by simp [Five.qs])).mono (by decide))
          · exact zall d (hcut _ _ d md)
        · rw [List.mem_singleton.mp md]; exact e2_fr ((hq _ (by simp [Five.qs])).mono (by decide))
  · have hat : ∀ (i : Nat) (hi : i < f.qs.length), (D.tup (f.qs.map fr)).at (i : Int) = some (fr f.qs[i]) := fun i hi => by
      show atI (f.qs.map fr) (i : Int) = _
      unfold atI ixN
      simp [hi]
    have atq := hat k hk5
    have atr := hat _ ho5
    have lds : ds.length = 5 := rfl
    have lcut : ∀ i j, (Gh.cutD ds i j).length ≤ 5 := fun i j => by
      unfold Gh.cutD
      have h1 := List.length_take_le (HT.sIx ds.length ds.length j - HT.sIx ds.length 0 i) (ds.drop (HT.sIx ds.length 0 i))
      have h2 : ((ds.drop (HT.sIx ds.length 0 i)).take (HT.sIx ds.length ds.length j - HT.sIx ds.length 0 i)).length ≤ (ds.drop (HT.sIx ds.length 0 i)).length := List.length_take_le' ..
      have h3 : (ds.drop (HT.sIx ds.length 0 i)).length ≤ ds.length := by rw [List.length_drop]; omega
      omega
    have zl : 100 ≤ sizeLine := by decide
    have b2 : ((2 : Int)).natAbs < 2 ^ 3000 := Nat.lt_of_lt_of_le (show 2 < 2 ^ 2 by decide) (Nat.pow_le_pow_right (by decide) (by decide))
    have z3 : Sz 3000 q := zq.mono (by decide)
    have z4 : Sz 3000 r := zr.mono (by decide)
    refine T.d__law_things.rn sc__law_things (by rw [h.some, h2.some]) rfl fun fa cdv A outer sh H0 EX S0 p hr => ?_
    conv => arg 2; whnf
    refine bk_cons (bs_set 2 sc__law_things.nd rfl (.inl rfl) (ed_cl (ea_cons (ed_var 0 rfl (.inl rfl) rfl) (ea_cons ed_int ea_nil)) (hr.mono (by decide)) R1) ?_)
    refine bk_cons (bs_setOwn 3 (ds := base) sc__law_things.nd rfl (.inl rfl) (el_lst (ea_cons (ed_var 1 rfl (.inl rfl) rfl) (ea_cons (El.ed (el_listOf T.bf (ed_var 1 rfl (.inl rfl) rfl) (.inr rfl))) (ea_cons (El.ed (el_map [("_law_one", 4)] asL rfl sc__law_things.nd (ei_seq (ed_var 1 rfl (.inl rfl) rfl) (.inr rfl)) (blkOk_by rfl) (by show 5 ≤ sizeLine; decide) (fun i d hi => ?_))) (ea_cons (ed_sliceT (ed_var 1 rfl (.inl rfl) rfl) .none (.some ed_int)) (ea_cons (ed_catT (by show 6 ≤ sizeLine; decide) (ed_var 1 rfl (.inl rfl) rfl) (ed_tup (ea_cons (ed_tup (ea_cons ed_int (ea_cons ed_int ea_nil))) ea_nil))) (ea_cons (ed_revT (ed_var 1 rfl (.inl rfl) rfl)) (ea_cons ed_non (ea_cons ed_int (ea_cons ed_str (ea_cons ed_emp (ea_cons (ed_tup ea_nil) ea_nil)))))))))))) ?_)
    · obtain ⟨x, mx, rfl⟩ := List.mem_map.mp (List.mem_of_getElem? hi)
      exact ⟨_, _, fun c => eg_name 4 sc__law_things.nd rfl (.inl rfl), by decide, fun c => El.ed (el_listOf T.bf (ed_var 4 rfl (.inl rfl) rfl) (.inr rfl))⟩
    refine bk_cons (bs_for PassesOwn.never rfl (ei_seq (xs := odds) (El.ed (el_lst (ea_cons ed_non (ea_cons ed_int (ea_cons (ed_tup (ea_cons ed_int (ea_cons ed_int ea_nil))) (ea_cons ed_str (ea_cons (ed_tup (ea_cons (ed_bin (ed_ix (ed_ix (ed_var 1 rfl (.inl rfl) rfl) (ed_var 2 rfl (.inl rfl) rfl) atq) ed_int rfl) ed_int rfl trivial) (ea_cons (ed_ix (ed_ix (ed_var 1 rfl (.inl rfl) rfl) (ed_var 2 rfl (.inl rfl) rfl) atq) ed_int rfl) ea_nil))) (ea_cons (ed_tup (ea_cons ed_bl (ea_cons ed_int ea_nil))) (ea_cons (ed_tup (ea_cons (ed_bin ed_int (ed_ix (ed_ix (ed_var 1 rfl (.inl rfl) rfl) (ed_var 2 rfl (.inl rfl) rfl) atq) ed_int rfl) rfl (mulW b2 z3.n)) (ea_cons (ed_bin ed_int (ed_ix (ed_ix (ed_var 1 rfl (.inl rfl) rfl) (ed_var 2 rfl (.inl rfl) rfl) atq) ed_int rfl) rfl (mulW b2 z3.d)) ea_nil))) ea_nil))))))))) (.inl rfl)) (fun i ρ s' => s' = s1 ∧ ∃ g5, ρ = [.val .mut, .val (.tup ds), .val (.int k), .own (base ++ (odds.take i).map put), .no, g5, .no, .no]) ⟨rfl, .no, ?_⟩ ?_ ?_)
    · rw [List.take_zero, List.map_nil, List.append_nil]; rfl
    · rintro i d ρ' s' hi ⟨rfl, g5, rfl⟩
      have hi7 : i < 7 := by
        rcases Nat.lt_or_ge i 7 with z | z
        · exact z
        · rw [List.getElem?_eq_none (by exact z)] at hi; cases hi
      have e2 : base ++ (odds.take (i + 1)).map put = base ++ (odds.take i).map put ++ [put d] := by
        rw [List.take_add_one, hi, List.map_append, List.append_assoc]; rfl
      refine ⟨_, _, eg_name 5 sc__law_things.nd rfl (.inl rfl), bk_cons (bs_append 3 rfl (.inl rfl) rfl (d := put d) (ed_catT ?_ (ed_catT ?_ (ed_sliceT (ed_var 1 rfl (.inl rfl) rfl) .none (.some (ed_var 2 rfl (.inl rfl) rfl))) (ed_tup (ea_cons (ed_var 5 rfl (.inl rfl) rfl) ea_nil))) (ed_sliceT (ed_var 1 rfl (.inl rfl) rfl) (.some (ed_bin (ed_var 2 rfl (.inl rfl) rfl) ed_int rfl trivial)) .none)) ?_ (bk_nil ⟨rfl, .val d, ?_⟩))⟩
      · have h1 := lcut none (some (k : Int))
        have h2 := lcut (some ((k : Int) + 1)) none
        simp only [List.length_append, List.length_cons, List.length_nil]
        omega
      · have h1 := lcut none (some (k : Int))
        simp only [List.length_cons, List.length_nil]
        omega
      · have : (odds.take i).length ≤ i := List.length_take_le ..
        rw [List.length_append, List.length_map]
        show 11 + _ < sizeLine
        omega
      · rw [e2]; rfl
    · rintro ρ' s' ⟨rfl, g5, rfl⟩
      rw [List.take_length]
      refine bk_cons (bs_set 6 (d := .int (((k + 1 + m) % 5 : Nat) : Int)) sc__law_things.nd rfl (.inl rfl) (Ed.is (ed_bin (ed_bin (ed_bin (ed_var 2 rfl (.inl rfl) rfl) ed_int rfl trivial) (ed_cl (ea_cons (ed_var 0 rfl (.inl rfl) rfl) (ea_cons ed_int ea_nil)) (hr.mono (by decide)) R2) rfl trivial) ed_int rfl (by show (0 : Int) < 5; decide)) (congrArg D.int (by omega))) ?_)
      refine bk_cons (bs_setOwn 7 sc__law_things.nd rfl (.inl rfl) (el_listOf T.bf (ed_var 1 rfl (.inl rfl) rfl) (.inr rfl)) ?_)
      refine bk_cons (bs_set2Own 7 (d1 := fr (q + 1)) (d2 := fr (r - 1)) (j := k) (j2 := (k + 1 + m) % 5) rfl rfl (.inl rfl) rfl (ed_tup (ea_cons (ed_cl (ea_cons (ed_ix (ed_var 1 rfl (.inl rfl) rfl) (ed_var 2 rfl (.inl rfl) rfl) atq) (ea_cons (Ed.is (ed_tup (ea_cons ed_int (ea_cons ed_int ea_nil))) fr_one) ea_nil)) (hr.mono (by decide)) (rn_law_plus T z3 z1)) (ea_cons (ed_cl (ea_cons (ed_ix (ed_var 1 rfl (.inl rfl) rfl) (ed_var 6 rfl (.inl rfl) rfl) atr) (ea_cons (Ed.is (ed_tup (ea_cons ed_int (ea_cons ed_int ea_nil))) fr_one) ea_nil)) (hr.mono (by decide)) (rn_law_minus T z4 z1)) ea_nil))) (ed_var 2 rfl (.inl rfl) rfl) ?_ (ed_var 6 rfl (.inl rfl) rfl) ?_ ?_)
      · show ixN 5 (k : Int) = some k
        exact ixN_nat hk
      · show ixN ((f.qs.map fr).set k _).length _ = _
        rw [List.length_set, List.length_map, hl]
        exact ixN_nat ho
      · refine bk_freeze 3 rfl (bk_freeze 7 rfl (bk_cons (bs_ret (El.ed (El.is (el_cat ?_ (ed_var 3 rfl (.inl rfl) rfl) (El.ed (el_lst (ea_cons (ed_var 7 rfl (.inl rfl) rfl) (ea_cons (El.ed (el_cat ?_ (El.ed (el_cat ?_ (El.ed (el_lst (ea_cons (ed_ix (ed_var 1 rfl (.inl rfl) rfl) ed_int (d := fr f.right) rfl) ea_nil))) (El.ed (el_listOf T.bf (ed_sliceT (ed_var 1 rfl (.inl rfl) rfl) (.some ed_int) (.some ed_int)) (.inr rfl))))) (El.ed (el_lst (ea_cons (ed_ix (ed_var 1 rfl (.inl rfl) rfl) ed_int (d := fr f.left) rfl) ea_nil))))) ea_nil))))) rfl)) ⟨rfl, rfl⟩)))
        · show (base ++ odds.map put).length + 2 ≤ sizeLine
          rw [List.length_append, List.length_map]
          show 11 + 7 + 2 ≤ sizeLine
          decide
        · have h1 := lcut (some 1) (some 4)
          simp only [List.length_append, List.length_cons, List.length_nil]
          omega
        · have h1 := lcut (some 1) (some 4)
          simp only [List.length_cons, List.length_nil]
          omega
end Law
set_option Elab.async false
set_option linter.all false
set_option maxRecDepth 100000
set_option maxHeartbeats 4000000
namespace Law
open PySem PySem.Spec PyProof.Rows L2 Gh
variable {E : En} {s : Sx}
theorem five_sz {t : Tl} (sm : t.Sm) {r : Rat} (hr : Sz 40 r) : ∀ q ∈ (t.five r).qs, Sz 1000 q := by
  intro q m
  simp only [Five.qs, Tl.five, List.mem_cons, List.not_mem_nil, or_false] at m
  rcases m with rfl | rfl | rfl | rfl | rfl
  · exact (sm.zleft hr).mono (by decide)
  · exact (Ln.sz hr sm.pl).mono (by decide)
  · exact (sm.zkept hr).mono (by decide)
  · exact (Ln.sz hr sm.pr).mono (by decide)
  · exact (sm.zright hr).mono (by decide)
theorem rm_of {k t b : Nat} (hk : 0 < k) (hk2 : k < 2 ^ 10) (hb : 0 < b) (hb2 : b < 2 ^ 40) (ht : t < 2 ^ 40) : Rm (.lst [.int (k * t), .int (k * b)]) (mkRat t b) := by
  have h1 : (0 : Int) < (k : Int) * (b : Int) := Int.mul_pos (by omega) (by omega)
  have h2 : (0 : Int) ≤ (k : Int) * (t : Int) := Int.mul_nonneg (by omega) (by omega)
  refine ⟨rfl, ?_, fun t' b' e => ?_, ?_⟩
  · show (decide ((0 : Int) < (k : Int) * (b : Int)) && decide ((0 : Int) ≤ (k : Int) * (t : Int))) = true
    rw [decide_eq_true h1, decide_eq_true h2]; rfl
  · cases e
    rw [Int.natAbs_mul]
    refine Nat.lt_of_lt_of_le (two_pow_mul (m := 10) (n := 40) ?_ ?_) (Nat.pow_le_pow_right (by decide) (by decide)) <;> simpa using (by assumption)
  · show mkRat ((k : Int) * (t : Int)) ((k : Int) * (b : Int)).toNat = mkRat t b
    rw [← Int.natCast_mul, ← Int.natCast_mul, Int.toNat_natCast, Int.natCast_mul]
    exact Rat.mkRat_mul_left (by omega)
theorem rm_one {t b : Nat} (hb : 0 < b) (hb2 : b < 2 ^ 40) (ht : t < 2 ^ 40) : Rm (.tup [.int t, .int b]) (mkRat t b) := by
  have h1 : (0 : Int) < (b : Int) := by omega
  have h2 : (0 : Int) ≤ (t : Int) := by omega
  refine ⟨rfl, ?_, fun t' b' e => ?_, rfl⟩
  · show (decide ((0 : Int) < (b : Int)) && decide ((0 : Int) ≤ (t : Int))) = true
    rw [decide_eq_true h1, decide_eq_true h2]; rfl
  · cases e
    exact Nat.lt_of_lt_of_le hb2 (Nat.pow_le_pow_right (by decide) (by decide))
end Law
set_option Elab.async false
set_option linter.all false
set_option maxRecDepth 100000
set_option maxHeartbeats 4000000
namespace Law
open PySem PySem.Spec PyProof.Rows L2 Gh
variable {E : En} {s : Sx}
theorem len_cons {α : Type} {l : List α} {n : Nat} (h : l.length = n + 1) : ∃ x xs, l = x :: xs ∧ xs.length = n := by
  cases l with
  | nil => cases h
  | cons x xs => exact ⟨x, xs, rfl, by simpa using h⟩
def wsum (f : Five) (l : Nat) : Rat := (f.qs.take l).foldl (· + ·) 0
theorem wsum_sz {t : Tl} (sm : t.Sm) {r : Rat} (hr : Sz 40 r) (l : Nat) (hl : l ≤ 5) : Sz 3000 (wsum (t.five r) l) := by
  have a1 := (Sz.zero (n := 1)).add (sm.zleft hr)
  have a2 := a1.add (Ln.sz hr sm.pl)
  have a3 := a2.add (sm.zkept hr)
  have a4 := a3.add (Ln.sz hr sm.pr)
  have a5 := a4.add (sm.zright hr)
  match l, hl with
  | 0, _ => exact .zero
  | 1, _ => exact a1.mono (by decide)
  | 2, _ => exact a2.mono (by decide)
  | 3, _ => exact a3.mono (by decide)
  | 4, _ => exact a4.mono (by decide)
  | 5, _ => exact a5.mono (by decide)
theorem law_body (T : Tc E) {ns : List Int} (hns : ns.length ≤ 63) : LawBody E ["_law_script", "_law_turn", "_law_draws", "_law_told_here", "_law_room", "_law_due", "_law_times_here", "_law_handed", "_law_far", "_law_whole", "_law_one", "_law_thing"] t_law 11 ns := by
  have hl : ns.length < 2 ^ 40 := by omega
  intro fa cdv A outer sh H0 EX S0 p hr
  conv => arg 2; whnf
  refine bk_cons (bs_for PassesOwn.never rfl (ei_range1 (j := 4 + min (ns.length : Int) 3) T.bf (ed_bin ed_int (ed_min2 T.bf rfl (ed_len T.bf (ed_var 0 rfl (.inl rfl) rfl) rfl) ed_int) rfl trivial) (by omega) (by omega)) (fun i ρ s' => s' = none ∧ ∃ gs, gs.length = 11 ∧ ρ = .val (.scr ns) :: gs) ⟨rfl, _, rfl, rfl⟩ ?_ ?_)
  · rintro i d ρ' s' hi ⟨rfl, gs, hgs, rfl⟩
    match gs, hgs with
    | [g1, g2, g3, g4, g5, g6, g7, g8, g9, g10, g11], _ =>
    have hd : d = .int i ∧ i < 100 := by
      unfold rangeD at hi
      rw [List.getElem?_map] at hi
      cases e : (List.range (4 + min (ns.length : Int) 3).toNat)[i]? with
      | none => rw [e] at hi; cases hi
      | some j =>
        rw [e] at hi; cases hi
        obtain ⟨h1, h2⟩ := List.getElem?_eq_some_iff.mp e
        rw [List.getElem_range] at h2
        rw [List.length_range] at h1
        subst h2
        exact ⟨congrArg D.int (by omega), by omega⟩
    obtain ⟨rfl, hi100⟩ := hd
    obtain ⟨c, z, hz, R0⟩ := rn_source T (ns := ns) (k := i) (by omega) hl
    refine ⟨_, _, eg_name 1 sc_law.nd rfl (.inl rfl), ?_⟩
    refine bk_cons (bs_setOwn 2 sc_law.nd rfl (.inl rfl) (el_cl (ea_cons (ed_var 0 rfl (.inl rfl) rfl) (ea_cons (ed_var 1 rfl (.inl rfl) rfl) ea_nil)) (hr.mono (by decide)) R0) ?_)
    refine bk_stream 2 (xs := [(c : Int), z, 0]) rfl rfl fun a O H => ?_
    have h0 : St 0 (some [(c : Int), (z : Int), ((0 : Nat) : Int)]) := ⟨c, z, 0, rfl, hz, by omega⟩
    obtain ⟨t, s1, ok, sm, h1, R1⟩ := rn_told T h0 (by decide)
    obtain ⟨rs, s2, hro, hrl, h2, R2⟩ := rn_rooms T sm h1 (by decide)
    refine bk_cons (bs_set 3 sc_law.nd rfl (.inl rfl) (ed_cl (ea_cons (ed_var 2 rfl (.inl rfl) rfl) ea_nil) (hr.mono (by decide)) R1) ?_)
    refine bk_cons (bs_for PassesOwn.never rfl (ei_seq (ed_cl (ea_cons (ed_var 2 rfl (.inl rfl) rfl) (ea_cons (ed_var 3 rfl (.inl rfl) rfl) ea_nil)) (hr.mono (by decide)) R2) (.inl rfl)) (fun j ρ s' => St (49 + 11 * j) s' ∧ ∃ gs, gs.length = 8 ∧ ρ = [.val (.scr ns), .val (.int i), .val .mut, .val (.tup t.ds)] ++ gs) ⟨h2, _, rfl, rfl⟩ ?_ ?_)
    · rintro j d ρ' s' hj ⟨hst, gs, hgs, rfl⟩
      have hj5 : j < rs.length := by
        rcases Nat.lt_or_ge j rs.length with z | z
        · exact z
        · rw [List.getElem?_eq_none z] at hj; cases hj
      obtain ⟨tt, b, rfl, ht, hb, hb2⟩ := hro d (List.mem_of_getElem? hj)
      have zr : Sz 40 (mkRat tt b) := .mk (by simpa using ht) hb2 (by omega)
      have hb8 : b < 2 ^ 8000 := Nat.lt_of_lt_of_le hb2 (Nat.pow_le_pow_right (by decide) (by decide))
      obtain ⟨m, s3, hm, h3, R3⟩ := rn_draw T hst (by omega) (many := 3) (by decide) (by decide)
      obtain ⟨x, hs, s4, hx, hth, h4, R4⟩ := rn_handed T (t := t) h3 (by omega)
      obtain ⟨zs, s5, hzs, hzl, h5, R5⟩ := rn_things T (five_sz sm zr) h4 (by omega)
      have em : (.int (1 + (m : Int)) : D) = .int ((1 + m : Nat) : Int) := congrArg D.int (by omega)
      have b1 : (((1 + m : Nat) : Int)).natAbs < 2 ^ 100 := by omega
      match gs, hgs with
      | [g4, g5, g6, g7, g8, g9, g10, g11], _ =>
      refine ⟨_, _, eg_name 4 sc_law.nd rfl (.inl rfl), ?_⟩
      refine bk_cons (bs_par 5 6 rfl sc_law.nd rfl rfl (by decide) rfl rfl (ea_cons (ed_cl (ea_cons (ed_var 3 rfl (.inl rfl) rfl) (ea_cons (ed_cl (ea_cons (ed_ix (ed_var 4 rfl (.inl rfl) rfl) ed_int rfl) (ea_cons (ed_ix (ed_var 4 rfl (.inl rfl) rfl) ed_int rfl) ea_nil)) (hr.mono (by decide)) (rn_law_lowestN T (by omega) hb8)) ea_nil)) (hr.mono (by decide)) (rn_law_across T sm zr)) (ea_cons (Ed.is (ed_bin ed_int (ed_cl (ea_cons (ed_var 2 rfl (.inl rfl) rfl) (ea_cons ed_int ea_nil)) (hr.mono (by decide)) R3) rfl trivial) em) ea_nil)) ?_)
      refine bk_cons (bs_parVO 7 8 rfl sc_law.nd rfl rfl (by decide) rfl rfl (ed_cl (ea_cons (ed_var 2 rfl (.inl rfl) rfl) (ea_cons (ed_var 3 rfl (.inl rfl) rfl) ea_nil)) (hr.mono (by decide)) R4) (el_lst (ea_cons (ed_bin (ed_var 6 rfl (.inl rfl) rfl) (ed_ix (ed_var 4 rfl (.inl rfl) rfl) ed_int rfl) rfl (mulS b1 (by omega))) (ea_cons (ed_bin (ed_var 6 rfl (.inl rfl) rfl) (ed_ix (ed_var 4 rfl (.inl rfl) rfl) ed_int rfl) rfl (mulS b1 (by omega))) ea_nil))) ?_)
      refine bk_freeze 8 rfl ?_
      refine bk_cons (bs_ifF (et_not (k := true) (et_val (ed_cl (ea_cons (ed_cl (ea_cons (ed_var 7 rfl (.inl rfl) rfl) (ea_cons (ed_var 8 rfl (.inl rfl) rfl) ea_nil)) (hr.mono (by decide)) (rn_across_of T ok sm hth hx (rm_of (k := 1 + m) (by omega) (by omega) hb hb2 ht) zr)) (ea_cons (ed_var 5 rfl (.inl rfl) rfl) ea_nil)) (hr.mono (by decide)) (rn_same_frs T _ (by show 5 ≤ 1000; decide))))) (bk_nil ?_))
      refine bk_cons (bs_set 9 (d := fr 0) sc_law.nd rfl (.inl rfl) (ed_tup (ea_cons ed_int (ea_cons ed_int ea_nil))) ?_)
      have hw : ∀ l, l ≤ 5 → Sz 3000 (wsum (t.five (mkRat tt b)) l) := fun l hl => wsum_sz sm zr l hl
      refine bk_cons (bs_for PassesOwn.never rfl (ei_seq (ed_var 5 rfl (.inl rfl) rfl) (.inr rfl)) (fun l ρ s' => s' = s4 ∧ ∃ g10, ρ = [.val (.scr ns), .val (.int i), .val .mut, .val (.tup t.ds), .val (.tup [.int tt, .int b]), .val (.tup ((t.five (mkRat tt b)).qs.map fr)), .val (.int ((1 + m : Nat) : Int)), .val x, .val (.lst [.int (((1 + m : Nat) : Int) * tt), .int (((1 + m : Nat) : Int) * b)]), .val (fr (wsum (t.five (mkRat tt b)) l)), g10, g11]) ⟨rfl, _, rfl⟩ ?_ ?_)
      · rintro l d ρ' s' hl ⟨rfl, g10, rfl⟩
        rw [List.getElem?_map] at hl
        cases e : (t.five (mkRat tt b)).qs[l]? with
        | none => rw [e] at hl; cases hl
        | some q =>
          rw [e] at hl; cases hl
          have hl5 : l < 5 := by
            rcases Nat.lt_or_ge l 5 with z | z
            · exact z
            · rw [List.getElem?_eq_none (by exact z)] at e; cases e
          have e2 : wsum (t.five (mkRat tt b)) (l + 1) = wsum (t.five (mkRat tt b)) l + q := by
            unfold wsum
            rw [List.take_add_one, e]
            simp
          refine ⟨_, _, eg_name 10 sc_law.nd rfl (.inl rfl), bk_cons (bs_set 9 sc_law.nd rfl (.inl rfl) (ed_cl (ea_cons (ed_var 9 rfl (.inl rfl) rfl) (ea_cons (ed_var 10 rfl (.inl rfl) rfl) ea_nil)) (hr.mono (by decide)) (rn_law_plus T (hw l (by omega)) ((five_sz sm zr q (List.mem_of_getElem? e)).mono (by decide)))) (bk_nil ⟨rfl, .val (fr q), ?_⟩))⟩
          rw [e2]; rfl
      · rintro ρ' s' ⟨rfl, g10, rfl⟩
        have e5 : wsum (t.five (mkRat tt b)) ((t.five (mkRat tt b)).qs.map fr).length = mkRat tt b := five_sum t _
        rw [e5]
        refine bk_cons (bs_ifF (Cp.et (Cp.is (cp_ne hr (ed_var 9 rfl (.inl rfl) rfl) (ed_cl (ea_cons (ed_ix (ed_var 4 rfl (.inl rfl) rfl) ed_int rfl) (ea_cons (ed_ix (ed_var 4 rfl (.inl rfl) rfl) ed_int rfl) ea_nil)) (hr.mono (by decide)) (rn_law_lowestN T (by omega) hb8)) (fr_eqC _) (fr_eqC _)) (by rw [fr_eqb, decide_eq_true rfl]; rfl))) (bk_nil ?_))
        refine bk_cons (bs_for PassesOwn.never rfl (ei_seq (ed_cl (ea_cons (ed_var 2 rfl (.inl rfl) rfl) (ea_cons (ed_var 5 rfl (.inl rfl) rfl) ea_nil)) (hr.mono (by decide)) R5) (.inl rfl)) (fun l ρ s' => s' = s5 ∧ ∃ g11, ρ = [.val (.scr ns), .val (.int i), .val .mut, .val (.tup t.ds), .val (.tup [.int tt, .int b]), .val (.tup ((t.five (mkRat tt b)).qs.map fr)), .val (.int ((1 + m : Nat) : Int)), .val x, .val (.lst [.int (((1 + m : Nat) : Int) * tt), .int (((1 + m : Nat) : Int) * b)]), .val (fr (mkRat tt b)), g10, g11]) ⟨rfl, _, rfl⟩ ?_ ?_)
        · rintro l d ρ' s' hl ⟨rfl, g11, rfl⟩
          obtain ⟨hd1, hd2⟩ := hzs d (List.mem_of_getElem? hl)
          refine ⟨_, _, eg_name 11 sc_law.nd rfl (.inl rfl), bk_cons (bs_ifF (et_not (k := true) (et_val (ed_cl (ea_cons (ed_cl (ea_cons (ed_var 7 rfl (.inl rfl) rfl) (ea_cons (ed_var 4 rfl (.inl rfl) rfl) (ea_cons (ed_var 11 rfl (.inl rfl) rfl) ea_nil))) (hr.mono (by decide)) (rn_is_across T ok sm hth hx (rm_one hb hb2 ht) zr hd1 hd2)) (ea_cons (ed_cl (ea_cons (ed_var 5 rfl (.inl rfl) rfl) (ea_cons (ed_var 11 rfl (.inl rfl) rfl) ea_nil)) (hr.mono (by decide)) (rn_is_one T hd1 hd2)) ea_nil)) (hr.mono (by decide)) (rn_same_bl T _)))) (bk_nil (bk_nil ⟨rfl, _, rfl⟩)))⟩
        · rintro ρ' s' ⟨rfl, g11, rfl⟩
          exact bk_nil ⟨h5.mono (by omega), _, rfl, rfl⟩
    · rintro ρ' s' ⟨hst, gs, hgs, rfl⟩
      refine bk_nil ⟨rfl, _, ?_, rfl⟩
      simp [hgs]
  · rintro ρ' s' ⟨rfl, gs, hgs, rfl⟩
    exact bk_cons (bs_ret ed_bl ⟨rfl, rfl⟩)
end Law
set_option Elab.async false
set_option linter.all false
set_option maxRecDepth 100000
set_option maxHeartbeats 0
namespace Law
open PySem PySem.Spec PyProof.Rows L2 Gh
def d3 : He.DefD := ⟨("is_list", none), "is_list", "is_list", defArgs (top 3), defBody (top 3), defScope (top 3), [], []⟩
def d4 : He.DefD := ⟨("is_whole", none), "is_whole", "is_whole", defArgs (top 4), defBody (top 4), defScope (top 4), [], []⟩
def d5 : He.DefD := ⟨("is_natural", none), "is_natural", "is_natural", defArgs (top 5), defBody (top 5), defScope (top 5), [], []⟩
def d6 : He.DefD := ⟨("is_word", none), "is_word", "is_word", defArgs (top 6), defBody (top 6), defScope (top 6), [], []⟩
def d7 : He.DefD := ⟨("lowest", none), "lowest", "lowest", defArgs (top 7), defBody (top 7), defScope (top 7), [], []⟩
def d8 : He.DefD := ⟨("is_frac", none), "is_frac", "is_frac", defArgs (top 8), defBody (top 8), defScope (top 8), [], []⟩
def d9 : He.DefD := ⟨("frac_of", none), "frac_of", "frac_of", defArgs (top 9), defBody (top 9), defScope (top 9), [], []⟩
def d10 : He.DefD := ⟨("is_width", none), "is_width", "is_width", defArgs (top 10), defBody (top 10), defScope (top 10), [], []⟩
def d11 : He.DefD := ⟨("plus", none), "plus", "plus", defArgs (top 11), defBody (top 11), defScope (top 11), [], []⟩
def d12 : He.DefD := ⟨("minus", none), "minus", "minus", defArgs (top 12), defBody (top 12), defScope (top 12), [], []⟩
def d13 : He.DefD := ⟨("times", none), "times", "times", defArgs (top 13), defBody (top 13), defScope (top 13), [], []⟩
def d14 : He.DefD := ⟨("is_upto", none), "is_upto", "is_upto", defArgs (top 14), defBody (top 14), defScope (top 14), [], []⟩
def d21 : He.DefD := ⟨("flat_form", none), "flat_form", "flat_form", defArgs (top 21), defBody (top 21), defScope (top 21), [], []⟩
def d22 : He.DefD := ⟨("plus_form", none), "plus_form", "plus_form", defArgs (top 22), defBody (top 22), defScope (top 22), [], []⟩
def d23 : He.DefD := ⟨("minus_form", none), "minus_form", "minus_form", defArgs (top 23), defBody (top 23), defScope (top 23), [], []⟩
def d24 : He.DefD := ⟨("scaled_form", none), "scaled_form", "scaled_form", defArgs (top 24), defBody (top 24), defScope (top 24), [], []⟩
def d25 : He.DefD := ⟨("plain_ask", none), "plain_ask", "plain_ask", defArgs (top 25), defBody (top 25), defScope (top 25), [], []⟩
def d29 : He.DefD := ⟨("is_tagged", none), "is_tagged", "is_tagged", defArgs (top 29), defBody (top 29), defScope (top 29), [], []⟩
def d30 : He.DefD := ⟨("is_length", none), "is_length", "is_length", defArgs (top 30), defBody (top 30), defScope (top 30), [], []⟩
def d31 : He.DefD := ⟨("is_letter_sign", none), "is_letter_sign", "is_letter_sign", defArgs (top 31), defBody (top 31), defScope (top 31), [], []⟩
def d32 : He.DefD := ⟨("is_spot", none), "is_spot", "is_spot", defArgs (top 32), defBody (top 32), defScope (top 32), [], []⟩
def d33 : He.DefD := ⟨("is_told_word", none), "is_told_word", "is_told_word", defArgs (top 33), defBody (top 33), defScope (top 33), [], []⟩
def d34 : He.DefD := ⟨("is_size", none), "is_size", "is_size", defArgs (top 34), defBody (top 34), defScope (top 34), [], []⟩
def d35 : He.DefD := ⟨("is_plain_value", none), "is_plain_value", "is_plain_value", defArgs (top 35), defBody (top 35), defScope (top 35), [], []⟩
def d40 : He.DefD := ⟨("checked_told", none), "checked_told", "checked_told", defArgs (top 40), defBody (top 40), defScope (top 40), [], []⟩
def d41 : He.DefD := ⟨("length_form", none), "length_form", "length_form", defArgs (top 41), defBody (top 41), defScope (top 41), [], []⟩
def d42 : He.DefD := ⟨("told_forms", none), "told_forms", "told_forms", defArgs (top 42), defBody (top 42), defScope (top 42), [], []⟩
def d43 : He.DefD := ⟨("held_form", none), "held_form", "held_form", defArgs (top 43), defBody (top 43), defScope (top 43), [], []⟩
def d44 : He.DefD := ⟨("margin_form", none), "margin_form", "margin_form", defArgs (top 44), defBody (top 44), defScope (top 44), [], []⟩
def d45 : He.DefD := ⟨("across_forms", none), "across_forms", "across_forms", defArgs (top 45), defBody (top 45), defScope (top 45), [], []⟩
def d46 : He.DefD := ⟨("forms_in", none), "forms_in", "forms_in", defArgs (top 46), defBody (top 46), defScope (top 46), [], []⟩
def d47 : He.DefD := ⟨("across_of", none), "across_of", "across_of", defArgs (top 47), defBody (top 47), defScope (top 47), [], []⟩
def d48 : He.DefD := ⟨("is_across", none), "is_across", "is_across", defArgs (top 48), defBody (top 48), defScope (top 48), [], []⟩
def d50 : He.DefD := ⟨("_law_source", none), "_law_source", "_law_source", defArgs (top 50), defBody (top 50), defScope (top 50), [], []⟩
def d51 : He.DefD := ⟨("_law_draw", none), "_law_draw", "_law_draw", defArgs (top 51), defBody (top 51), defScope (top 51), [], []⟩
def d52 : He.DefD := ⟨("_law_pick", none), "_law_pick", "_law_pick", defArgs (top 52), defBody (top 52), defScope (top 52), [], []⟩
def d53 : He.DefD := ⟨("_law_mixed", none), "_law_mixed", "_law_mixed", defArgs (top 53), defBody (top 53), defScope (top 53), [], []⟩
def d54 : He.DefD := ⟨("_law_same", none), "_law_same", "_law_same", defArgs (top 54), defBody (top 54), defScope (top 54), [], []⟩
def d55 : He.DefD := ⟨("_law_lowest", none), "_law_lowest", "_law_lowest", defArgs (top 55), defBody (top 55), defScope (top 55), [], []⟩
def d56 : He.DefD := ⟨("_law_plus", none), "_law_plus", "_law_plus", defArgs (top 56), defBody (top 56), defScope (top 56), [], []⟩
def d57 : He.DefD := ⟨("_law_minus", none), "_law_minus", "_law_minus", defArgs (top 57), defBody (top 57), defScope (top 57), [], []⟩
def d58 : He.DefD := ⟨("_law_times", none), "_law_times", "_law_times", defArgs (top 58), defBody (top 58), defScope (top 58), [], []⟩
def d59 : He.DefD := ⟨("_law_over", none), "_law_over", "_law_over", defArgs (top 59), defBody (top 59), defScope (top 59), [], []⟩
def d60 : He.DefD := ⟨("_law_less", none), "_law_less", "_law_less", defArgs (top 60), defBody (top 60), defScope (top 60), [], []⟩
def d61 : He.DefD := ⟨("_law_sorted", none), "_law_sorted", "_law_sorted", defArgs (top 61), defBody (top 61), defScope (top 61), [], []⟩
def d62 : He.DefD := ⟨("_law_length", none), "_law_length", "_law_length", defArgs (top 62), defBody (top 62), defScope (top 62), [], []⟩
def d63 : He.DefD := ⟨("_law_told", none), "_law_told", "_law_told", defArgs (top 63), defBody (top 63), defScope (top 63), [], []⟩
def d64 : He.DefD := ⟨("_law_handed_told", none), "_law_handed_told", "_law_handed_told", defArgs (top 64), defBody (top 64), defScope (top 64), [], []⟩
def d65 : He.DefD := ⟨("_law_worth", none), "_law_worth", "_law_worth", defArgs (top 65), defBody (top 65), defScope (top 65), [], []⟩
def d66 : He.DefD := ⟨("_law_held", none), "_law_held", "_law_held", defArgs (top 66), defBody (top 66), defScope (top 66), [], []⟩
def d67 : He.DefD := ⟨("_law_across", none), "_law_across", "_law_across", defArgs (top 67), defBody (top 67), defScope (top 67), [], []⟩
def d68 : He.DefD := ⟨("_law_corners", none), "_law_corners", "_law_corners", defArgs (top 68), defBody (top 68), defScope (top 68), [], []⟩
def d69 : He.DefD := ⟨("_law_rooms", none), "_law_rooms", "_law_rooms", defArgs (top 69), defBody (top 69), defScope (top 69), [], []⟩
def d70 : He.DefD := ⟨("_law_things", none), "_law_things", "_law_things", defArgs (top 70), defBody (top 70), defScope (top 70), [], []⟩
def d71 : He.DefD := ⟨("_law_is_one", none), "_law_is_one", "_law_is_one", defArgs (top 71), defBody (top 71), defScope (top 71), [], []⟩
def d72 : He.DefD := ⟨("law", none), "law", "law", defArgs (top 72), defBody (top 72), defScope (top 72), [], []⟩
def fn : List He.DefD := [d3, d4, d5, d6, d7, d8, d9, d10, d11, d12, d13, d14, d21, d22, d23, d24, d25, d29, d30, d31, d32, d33, d34, d35, d40, d41, d42, d43, d44, d45, d46, d47, d48, d50, d51, d52, d53, d54, d55, d56, d57, d58, d59, d60, d61, d62, d63, d64, d65, d66, d67, d68, d69, d70, d71, d72]
def fa0 : List He.Fa := [.glo "is_list", .glo "is_whole", .glo "is_natural", .glo "is_word", .glo "lowest", .glo "is_frac", .glo "frac_of", .glo "is_width", .glo "plus", .glo "minus", .glo "times", .glo "is_upto", .glo "flat_form", .glo "plus_form", .glo "minus_form", .glo "scaled_form", .glo "plain_ask", .glo "is_tagged", .glo "is_length", .glo "is_letter_sign", .glo "is_spot", .glo "is_told_word", .glo "is_size", .glo "is_plain_value", .glo "checked_told", .glo "length_form", .glo "told_forms", .glo "held_form", .glo "margin_form", .glo "across_forms"]
def fa1 : List He.Fa := [.glo "forms_in", .glo "across_of", .glo "is_across", .glo "_law_source", .glo "_law_draw", .glo "_law_pick", .glo "_law_mixed", .glo "_law_same", .glo "_law_lowest", .glo "_law_plus", .glo "_law_minus", .glo "_law_times", .glo "_law_over", .glo "_law_less", .glo "_law_sorted", .glo "_law_length", .glo "_law_told", .glo "_law_handed_told", .glo "_law_worth", .glo "_law_held", .glo "_law_across", .glo "_law_corners", .glo "_law_rooms", .glo "_law_things", .glo "_law_is_one", .glo "law", .free "len", .free "isinstance", .free "abs", .free "min"]
def fa2 : List He.Fa := [.free "max", .free "sum", .free "all", .free "any", .free "range", .free "zip", .free "enumerate", .free "sorted", .free "int", .free "bool", .free "str", .free "list", .free "tuple", .free "dict", .free "set", .free "super", .free "repr", .glo "ZERO", .glo "HALF", .glo "FLAT_ZERO", .glo "ACROSS", .glo "MENUS", .glo "FIRSTS"]
def fa : List He.Fa := fa0 ++ fa1 ++ fa2
def ln0 : List Str := ["LETTERS", "ZERO", "is_list", "is_whole", "is_natural", "is_word", "lowest", "is_frac", "frac_of", "is_width", "plus", "minus", "times", "is_upto", "PageError", "BadAcross", "BadRoom", "flat_form", "plus_form", "minus_form", "scaled_form", "plain_ask", "MENUS", "FIRSTS", "is_tagged", "is_length", "is_letter_sign", "is_spot", "is_told_word", "is_size"]
def ln1 : List Str := ["is_plain_value", "ACROSS", "FLAT_ZERO", "HALF", "checked_told", "length_form", "told_forms", "held_form", "margin_form", "across_forms", "forms_in", "across_of", "is_across", "_law_source", "_law_draw", "_law_pick", "_law_mixed", "_law_same", "_law_lowest", "_law_plus", "_law_minus", "_law_times", "_law_over", "_law_less", "_law_sorted", "_law_length", "_law_told", "_law_handed_told", "_law_worth", "_law_held"]
def ln2 : List Str := ["_law_across", "_law_corners", "_law_rooms", "_law_things", "_law_is_one"]
def loose : List Str := ln0 ++ ln1 ++ ln2
abbrev R : PySem.W.OpenRow := PySem.W.OpenLaw.row PySem.Challenge.rw_pagefall_k38_whole_across
abbrev qv : Program := PySem.W.view R.prog [72]
def ts : List He.Tab := [(fun K => He.ga K "MENUS", ["show", "side", "wrap", "align"]), (fun K => He.ga K "FIRSTS", ["show", "side", "width", "base", "height", "most", "shrink", "span", "wrap", "size", "align", "at", "fill", "ink"])]
def ex : PySem.W.Frag → Bool := fun K => He.tupB K "ZERO" [.int 0, .int 1] && (He.tupB K "HALF" [.int 1, .int 2] && (He.tupB K "FLAT_ZERO" [.glo "ZERO", .glo "ZERO"] && (He.tupB K "ACROSS" [.str "width", .str "least", .str "most", .str "mleft", .str "mright", .str "pleft", .str "pright"] &&
  (He.valsB K (He.ga K "FIRSTS") [("most", .str "none")] && absB K (He.ga K "MENUS") ["width", "least", "most", "mleft", "mright", "pleft", "pright"]))))
abbrev hk : PySem.W.Hook := He.hookX 5 fa fn ts [] ex
def ob (s : PySem.W.SharedT) : He.AlX := He.obsX 5 fa fn ts [] ex (HandSHeadRun.getT s)
theorem ob_eq (s : PySem.W.SharedT) : ob s = hk.obs s.abs := He.obsX_eq (HandSHeadRun.getT_eq s)
theorem run_false (w : World) : HandSHeadRun.RunEq R qv hk ob 6000 loose (w.withFollow "special-get-raises" false) := by
  intro os
  kernel_rfl
theorem run_true (w : World) : HandSHeadRun.RunEq R qv hk ob 6000 loose (w.withFollow "special-get-raises" true) := by
  intro os
  kernel_rfl
theorem run (w : World) : HandSHeadRun.RunEq R qv hk ob 6000 loose w := PySem.W.byRow2 "special-get-raises" (P := fun w => HandSHeadRun.RunEq R qv hk ob 6000 loose w) run_false run_true w
end Law
set_option Elab.async false
set_option linter.all false
set_option maxRecDepth 100000
set_option maxHeartbeats 0
namespace Law
open PySem PySem.Spec PyProof.Rows L2 Gh
theorem bf_of {K : PySem.W.Frag} {h : Heap} {mg : Str → Option Value} {w : World} (X : K.In h) (G : h.Ns mainGlobals mg) (c : He.SaysX fa fn ts [] ex w h K) : Bf mg :=
  ⟨He.free_ok X G (c.t.d.fact 56 (f := .free "len") rfl), He.free_ok X G (c.t.d.fact 57 (f := .free "isinstance") rfl), He.free_ok X G (c.t.d.fact 58 (f := .free "abs") rfl), He.free_ok X G (c.t.d.fact 59 (f := .free "min") rfl), He.free_ok X G (c.t.d.fact 60 (f := .free "max") rfl), He.free_ok X G (c.t.d.fact 61 (f := .free "sum") rfl), He.free_ok X G (c.t.d.fact 62 (f := .free "all") rfl), He.free_ok X G (c.t.d.fact 63 (f := .free "any") rfl), He.free_ok X G (c.t.d.fact 64 (f := .free "range") rfl), He.free_ok X G (c.t.d.fact 65 (f := .free "zip") rfl), He.free_ok X G (c.t.d.fact 66 (f := .free "enumerate") rfl), He.free_ok X G (c.t.d.fact 67 (f := .free "sorted") rfl), He.free_ok X G (c.t.d.fact 68 (f := .free "int") rfl), He.free_ok X G (c.t.d.fact 69 (f := .free "bool") rfl), He.free_ok X G (c.t.d.fact 70 (f := .free "str") rfl), He.free_ok X G (c.t.d.fact 71 (f := .free "list") rfl), He.free_ok X G (c.t.d.fact 72 (f := .free "tuple") rfl), He.free_ok X G (c.t.d.fact 73 (f := .free "dict") rfl), He.free_ok X G (c.t.d.fact 74 (f := .free "set") rfl)⟩
theorem tx_of {E : En} {h : Heap} (X : E.K.In h) (G : h.Ns mainGlobals E.mg) (c : He.SaysX fa fn ts [] ex E.w h E.K) : Tx E where
  bf := bf_of X G c
  d_is_list := df_of X G (c.t.d.def_ 0 (d := d3) rfl) (c.t.d.fact 0 (f := .glo "is_list") rfl) fun _ _ _ _ _ _ us hl => match us, hl with | [_], _ => rfl
  d_is_whole := df_of X G (c.t.d.def_ 1 (d := d4) rfl) (c.t.d.fact 1 (f := .glo "is_whole") rfl) fun _ _ _ _ _ _ us hl => match us, hl with | [_], _ => rfl
  d_is_natural := df_of X G (c.t.d.def_ 2 (d := d5) rfl) (c.t.d.fact 2 (f := .glo "is_natural") rfl) fun _ _ _ _ _ _ us hl => match us, hl with | [_], _ => rfl
  d_is_word := df_of X G (c.t.d.def_ 3 (d := d6) rfl) (c.t.d.fact 3 (f := .glo "is_word") rfl) fun _ _ _ _ _ _ us hl => match us, hl with | [_], _ => rfl
  d_lowest := df_of X G (c.t.d.def_ 4 (d := d7) rfl) (c.t.d.fact 4 (f := .glo "lowest") rfl) fun _ _ _ _ _ _ us hl => match us, hl with | [_, _], _ => rfl
  d_is_frac := df_of X G (c.t.d.def_ 5 (d := d8) rfl) (c.t.d.fact 5 (f := .glo "is_frac") rfl) fun _ _ _ _ _ _ us hl => match us, hl with | [_], _ => rfl
  d_frac_of := df_of X G (c.t.d.def_ 6 (d := d9) rfl) (c.t.d.fact 6 (f := .glo "frac_of") rfl) fun _ _ _ _ _ _ us hl => match us, hl with | [_], _ => rfl
  d_is_width := df_of X G (c.t.d.def_ 7 (d := d10) rfl) (c.t.d.fact 7 (f := .glo "is_width") rfl) fun _ _ _ _ _ _ us hl => match us, hl with | [_], _ => rfl
  d_plus := df_of X G (c.t.d.def_ 8 (d := d11) rfl) (c.t.d.fact 8 (f := .glo "plus") rfl) fun _ _ _ _ _ _ us hl => match us, hl with | [_, _], _ => rfl
  d_minus := df_of X G (c.t.d.def_ 9 (d := d12) rfl) (c.t.d.fact 9 (f := .glo "minus") rfl) fun _ _ _ _ _ _ us hl => match us, hl with | [_, _], _ => rfl
  d_times := df_of X G (c.t.d.def_ 10 (d := d13) rfl) (c.t.d.fact 10 (f := .glo "times") rfl) fun _ _ _ _ _ _ us hl => match us, hl with | [_, _], _ => rfl
  d_is_upto := df_of X G (c.t.d.def_ 11 (d := d14) rfl) (c.t.d.fact 11 (f := .glo "is_upto") rfl) fun _ _ _ _ _ _ us hl => match us, hl with | [_, _], _ => rfl
  d_flat_form := df_of X G (c.t.d.def_ 12 (d := d21) rfl) (c.t.d.fact 12 (f := .glo "flat_form") rfl) fun _ _ _ _ _ _ us hl => match us, hl with | [_], _ => rfl
  d_plus_form := df_of X G (c.t.d.def_ 13 (d := d22) rfl) (c.t.d.fact 13 (f := .glo "plus_form") rfl) fun _ _ _ _ _ _ us hl => match us, hl with | [_, _], _ => rfl
  d_minus_form := df_of X G (c.t.d.def_ 14 (d := d23) rfl) (c.t.d.fact 14 (f := .glo "minus_form") rfl) fun _ _ _ _ _ _ us hl => match us, hl with | [_, _], _ => rfl
  d_scaled_form := df_of X G (c.t.d.def_ 15 (d := d24) rfl) (c.t.d.fact 15 (f := .glo "scaled_form") rfl) fun _ _ _ _ _ _ us hl => match us, hl with | [_, _], _ => rfl
  d_plain_ask := df_of X G (c.t.d.def_ 16 (d := d25) rfl) (c.t.d.fact 16 (f := .glo "plain_ask") rfl) fun _ _ _ _ _ _ us hl => match us, hl with | [_, _], _ => rfl
  d_is_tagged := df_of X G (c.t.d.def_ 17 (d := d29) rfl) (c.t.d.fact 17 (f := .glo "is_tagged") rfl) fun _ _ _ _ _ _ us hl => match us, hl with | [_, _], _ => rfl
  d_is_length := df_of X G (c.t.d.def_ 18 (d := d30) rfl) (c.t.d.fact 18 (f := .glo "is_length") rfl) fun _ _ _ _ _ _ us hl => match us, hl with | [_], _ => rfl
  d_is_letter_sign := df_of X G (c.t.d.def_ 19 (d := d31) rfl) (c.t.d.fact 19 (f := .glo "is_letter_sign") rfl) fun _ _ _ _ _ _ us hl => match us, hl with | [_], _ => rfl
  d_is_spot := df_of X G (c.t.d.def_ 20 (d := d32) rfl) (c.t.d.fact 20 (f := .glo "is_spot") rfl) fun _ _ _ _ _ _ us hl => match us, hl with | [_], _ => rfl
  d_is_told_word := df_of X G (c.t.d.def_ 21 (d := d33) rfl) (c.t.d.fact 21 (f := .glo "is_told_word") rfl) fun _ _ _ _ _ _ us hl => match us, hl with | [_, _], _ => rfl
  d_is_size := df_of X G (c.t.d.def_ 22 (d := d34) rfl) (c.t.d.fact 22 (f := .glo "is_size") rfl) fun _ _ _ _ _ _ us hl => match us, hl with | [_], _ => rfl
  d_is_plain_value := df_of X G (c.t.d.def_ 23 (d := d35) rfl) (c.t.d.fact 23 (f := .glo "is_plain_value") rfl) fun _ _ _ _ _ _ us hl => match us, hl with | [_, _], _ => rfl
  d_checked_told := df_of X G (c.t.d.def_ 24 (d := d40) rfl) (c.t.d.fact 24 (f := .glo "checked_told") rfl) fun _ _ _ _ _ _ us hl => match us, hl with | [_], _ => rfl
  d_length_form := df_of X G (c.t.d.def_ 25 (d := d41) rfl) (c.t.d.fact 25 (f := .glo "length_form") rfl) fun _ _ _ _ _ _ us hl => match us, hl with | [_, _], _ => rfl
  d_told_forms := df_of X G (c.t.d.def_ 26 (d := d42) rfl) (c.t.d.fact 26 (f := .glo "told_forms") rfl) fun _ _ _ _ _ _ us hl => match us, hl with | [_, _], _ => rfl
  d_held_form := df_of X G (c.t.d.def_ 27 (d := d43) rfl) (c.t.d.fact 27 (f := .glo "held_form") rfl) fun _ _ _ _ _ _ us hl => match us, hl with | [_, _, _, _], _ => rfl
  d_margin_form := df_of X G (c.t.d.def_ 28 (d := d44) rfl) (c.t.d.fact 28 (f := .glo "margin_form") rfl) fun _ _ _ _ _ _ us hl => match us, hl with | [_], _ => rfl
  d_across_forms := df_of X G (c.t.d.def_ 29 (d := d45) rfl) (c.t.d.fact 29 (f := .glo "across_forms") rfl) fun _ _ _ _ _ _ us hl => match us, hl with | [_, _, _], _ => rfl
  d_forms_in := df_of X G (c.t.d.def_ 30 (d := d46) rfl) (c.t.d.fact 30 (f := .glo "forms_in") rfl) fun _ _ _ _ _ _ us hl => match us, hl with | [_, _, _], _ => rfl
  d_across_of := df_of X G (c.t.d.def_ 31 (d := d47) rfl) (c.t.d.fact 31 (f := .glo "across_of") rfl) fun _ _ _ _ _ _ us hl => match us, hl with | [_, _], _ => rfl
  d_is_across := df_of X G (c.t.d.def_ 32 (d := d48) rfl) (c.t.d.fact 32 (f := .glo "is_across") rfl) fun _ _ _ _ _ _ us hl => match us, hl with | [_, _, _], _ => rfl
  d__law_source := df_of X G (c.t.d.def_ 33 (d := d50) rfl) (c.t.d.fact 33 (f := .glo "_law_source") rfl) fun _ _ _ _ _ _ us hl => match us, hl with | [_, _], _ => rfl
  d__law_draw := df_of X G (c.t.d.def_ 34 (d := d51) rfl) (c.t.d.fact 34 (f := .glo "_law_draw") rfl) fun _ _ _ _ _ _ us hl => match us, hl with | [_, _], _ => rfl
  d__law_pick := df_of X G (c.t.d.def_ 35 (d := d52) rfl) (c.t.d.fact 35 (f := .glo "_law_pick") rfl) fun _ _ _ _ _ _ us hl => match us, hl with | [_, _], _ => rfl
  d__law_mixed := df_of X G (c.t.d.def_ 36 (d := d53) rfl) (c.t.d.fact 36 (f := .glo "_law_mixed") rfl) fun _ _ _ _ _ _ us hl => match us, hl with | [_, _], _ => rfl
  d__law_same := df_of X G (c.t.d.def_ 37 (d := d54) rfl) (c.t.d.fact 37 (f := .glo "_law_same") rfl) fun _ _ _ _ _ _ us hl => match us, hl with | [_, _], _ => rfl
  d__law_lowest := df_of X G (c.t.d.def_ 38 (d := d55) rfl) (c.t.d.fact 38 (f := .glo "_law_lowest") rfl) fun _ _ _ _ _ _ us hl => match us, hl with | [_, _], _ => rfl
  d__law_plus := df_of X G (c.t.d.def_ 39 (d := d56) rfl) (c.t.d.fact 39 (f := .glo "_law_plus") rfl) fun _ _ _ _ _ _ us hl => match us, hl with | [_, _], _ => rfl
  d__law_minus := df_of X G (c.t.d.def_ 40 (d := d57) rfl) (c.t.d.fact 40 (f := .glo "_law_minus") rfl) fun _ _ _ _ _ _ us hl => match us, hl with | [_, _], _ => rfl
  d__law_times := df_of X G (c.t.d.def_ 41 (d := d58) rfl) (c.t.d.fact 41 (f := .glo "_law_times") rfl) fun _ _ _ _ _ _ us hl => match us, hl with | [_, _], _ => rfl
  d__law_over := df_of X G (c.t.d.def_ 42 (d := d59) rfl) (c.t.d.fact 42 (f := .glo "_law_over") rfl) fun _ _ _ _ _ _ us hl => match us, hl with | [_, _], _ => rfl
  d__law_less := df_of X G (c.t.d.def_ 43 (d := d60) rfl) (c.t.d.fact 43 (f := .glo "_law_less") rfl) fun _ _ _ _ _ _ us hl => match us, hl with | [_, _], _ => rfl
  d__law_sorted := df_of X G (c.t.d.def_ 44 (d := d61) rfl) (c.t.d.fact 44 (f := .glo "_law_sorted") rfl) fun _ _ _ _ _ _ us hl => match us, hl with | [_], _ => rfl
  d__law_length := df_of X G (c.t.d.def_ 45 (d := d62) rfl) (c.t.d.fact 45 (f := .glo "_law_length") rfl) fun _ _ _ _ _ _ us hl => match us, hl with | [_, _], _ => rfl
  d__law_told := df_of X G (c.t.d.def_ 46 (d := d63) rfl) (c.t.d.fact 46 (f := .glo "_law_told") rfl) fun _ _ _ _ _ _ us hl => match us, hl with | [_], _ => rfl
  d__law_handed_told := df_of X G (c.t.d.def_ 47 (d := d64) rfl) (c.t.d.fact 47 (f := .glo "_law_handed_told") rfl) fun _ _ _ _ _ _ us hl => match us, hl with | [_, _], _ => rfl
  d__law_worth := df_of X G (c.t.d.def_ 48 (d := d65) rfl) (c.t.d.fact 48 (f := .glo "_law_worth") rfl) fun _ _ _ _ _ _ us hl => match us, hl with | [_, _], _ => rfl
  d__law_held := df_of X G (c.t.d.def_ 49 (d := d66) rfl) (c.t.d.fact 49 (f := .glo "_law_held") rfl) fun _ _ _ _ _ _ us hl => match us, hl with | [_, _, _], _ => rfl
  d__law_across := df_of X G (c.t.d.def_ 50 (d := d67) rfl) (c.t.d.fact 50 (f := .glo "_law_across") rfl) fun _ _ _ _ _ _ us hl => match us, hl with | [_, _], _ => rfl
  d__law_corners := df_of X G (c.t.d.def_ 51 (d := d68) rfl) (c.t.d.fact 51 (f := .glo "_law_corners") rfl) fun _ _ _ _ _ _ us hl => match us, hl with | [_], _ => rfl
  d__law_rooms := df_of X G (c.t.d.def_ 52 (d := d69) rfl) (c.t.d.fact 52 (f := .glo "_law_rooms") rfl) fun _ _ _ _ _ _ us hl => match us, hl with | [_, _], _ => rfl
  d__law_things := df_of X G (c.t.d.def_ 53 (d := d70) rfl) (c.t.d.fact 53 (f := .glo "_law_things") rfl) fun _ _ _ _ _ _ us hl => match us, hl with | [_, _], _ => rfl
  d__law_is_one := df_of X G (c.t.d.def_ 54 (d := d71) rfl) (c.t.d.fact 54 (f := .glo "_law_is_one") rfl) fun _ _ _ _ _ _ us hl => match us, hl with | [_, _], _ => rfl
  d_law := df_of X G (c.t.d.def_ 55 (d := d72) rfl) (c.t.d.fact 55 (f := .glo "law") rfl) fun _ _ _ _ _ _ us hl => match us, hl with | [_], _ => rfl

theorem half_num : ((1 / 2 : Rat)).num = 1 := by decide +kernel
theorem half_den : ((1 / 2 : Rat)).den = 2 := by decide +kernel
theorem tc_of {E : En} {h : Heap} (X : E.K.In h) (G : h.Ns mainGlobals E.mg) (c : He.SaysX fa fn ts [] ex E.w h E.K) : Tc E := by
  obtain ⟨z1, m1⟩ := He.ba c.more
  obtain ⟨z2, m2⟩ := He.ba m1
  obtain ⟨z3, m3⟩ := He.ba m2
  obtain ⟨z4, m4⟩ := He.ba m3
  obtain ⟨z5, z6⟩ := He.ba m4
  have zero : ∀ p S H, Rp E.K p S H (.ref (He.ga E.K "ZERO")) (fr 0) := fun p S H => .tup (.inr (He.tupB_ok z1 _)) (.cons (.int 0) (.cons (.int 1) .nil))
  refine { tx_of X G c with c_ZERO := ?_, c_HALF := ?_, c_FLAT := ?_, c_ACROSS := ?_, k_MENUS := ?_, k_FIRSTS := ?_ }
  · exact cst_tup X G (c.t.d.facts (f := .glo "ZERO") (by simp [fa, fa0, fa1, fa2])) z1 fun p S H => .cons (.int 0) (.cons (.int 1) .nil)
  · unfold fr
    rw [half_num, half_den]
    exact cst_tup X G (c.t.d.facts (f := .glo "HALF") (by simp [fa, fa0, fa1, fa2])) z2 fun p S H => .cons (.int 1) (.cons (.int 2) .nil)
  · exact cst_tup X G (c.t.d.facts (f := .glo "FLAT_ZERO") (by simp [fa, fa0, fa1, fa2])) z3 fun p S H => .cons (zero p S H) (.cons (zero p S H) .nil)
  · exact cst_tup X G (c.t.d.facts (f := .glo "ACROSS") (by simp [fa, fa0, fa1, fa2])) z4 fun p S H => .cons (.str _) (.cons (.str _) (.cons (.str _) (.cons (.str _) (.cons (.str _) (.cons (.str _) (.cons (.str _) .nil))))))
  · obtain ⟨es, n, kd⟩ := c.t.tab 0 rfl
    refine ⟨_, es, n, He.glo_ok X G (c.t.d.facts (f := .glo "MENUS") (by simp [fa, fa0, fa1, fa2])), kd, fun z o ho => ?_⟩
    unfold menusAt at ho
    split at ho
    · rename_i m
      cases ho
      exact ⟨none, absB_ok z6 m, rfl⟩
    · cases ho
  · obtain ⟨es, n, kd⟩ := c.t.tab 1 rfl
    refine ⟨_, es, n, He.glo_ok X G (c.t.d.facts (f := .glo "FIRSTS") (by simp [fa, fa0, fa1, fa2])), kd, fun z o ho => ?_⟩
    unfold firstsAt at ho
    split at ho
    · rename_i m
      subst m
      cases ho
      obtain ⟨u, h1, h2⟩ := He.valsB_ok z5 (q := ("most", .str "none")) (by simp)
      exact ⟨some u, h1, u, .str "none", rfl, h2, fun _ _ _ => .str _⟩
    · cases ho
end Law
open PySem PySem.W PySem.Calls PyProof.Rows
theorem PySem.Challenge.cw_pagefall_k38_whole_across_holds : PySem.Challenge.rw_pagefall_k38_whole_across.Holds := by
  w_on; o_law
  refine HandSHeadRun.head_any (r := OpenLaw.row PySem.Challenge.rw_pagefall_k38_whole_across) (q := Law.qv) (H := Law.hk) (ob := Law.ob) (M := 6000) (loose := Law.loose) (d := HandSHeadRun.topDef (OpenLaw.row PySem.Challenge.rw_pagefall_k38_whole_across).prog 72) (kwd := []) Law.ob_eq
    (by kernel_rfl) (fun s => by kernel_rfl) Law.run (by kernel_rfl) (by kernel_rfl) (by kernel_rfl) (by rfl) (by first | assumption | decide +kernel) (by decide +kernel) ⟨rfl, rfl, rfl, rfl, rfl, by decide +kernel⟩ ?hw ?hc
  case hw => w_witness2
  case hc =>
    refine L2.walk_ofE (l := PySem.Challenge.rw_pagefall_k38_whole_across) (n := 63) (k := 12) (x := "_law_script") (CX := L2.CX0) rfl (by decide) (by kernel_rfl) ⟨rfl, by decide, by decide⟩ ?F (fun _ _ _ _ z => z)
    intro w mg fa h Y G hmg0
    obtain ⟨K, KX, c⟩ := Y
    have hmg : mg ("law" : PySem.Str) = some (.ref fa) := by
      have e : (HandSHeadRun.topDef (OpenLaw.row PySem.Challenge.rw_pagefall_k38_whole_across).prog 72).name = ("law" : PySem.Str) := by kernel_rfl
      rw [← e]
      exact hmg0
    obtain ⟨fd, F⟩ := c.t.d.def_ 55 (d := Law.d72) rfl
    have e := hmg.symm.trans (He.glo_ok KX G (c.t.d.fact 55 (f := .glo "law") rfl))
    cases e
    have b := L2.FunD.bindsA (ps := ["_law_script"]) F fun _ _ _ _ _ _ us hl => match us, hl with | [_], _ => rfl
    refine ⟨K, fd, Gh.spLaw K, KX, fun s v => b s [v] rfl, fun H a ns hl _ hS => Gh.law_in hl hS, fun base KB GB => ?_⟩
    exact Gh.law_ok (E := ⟨(PySem.Challenge.rw_pagefall_k38_whole_across).prog, w, K, mg, base⟩) (st := Law.t_law) (Gh.fun_of F) Law.sc_law fun ns hl => Law.law_body (Law.tc_of (E := ⟨(PySem.Challenge.rw_pagefall_k38_whole_across).prog, w, K, mg, base⟩) KX G c) hl
