import PyProof.Rows.All
import Wide.All
import OpenK.AllK
import Wide.FinOn
import HandS.ForMost
import HandS.Wide
import HandS.WideMore
import HandS.IsInst
import HandS.Zip
import HandS.Flow
import HandS.Walk
import HandS.Zip0
import HandS.More
import HandS.CallLocal
import HandS.TupAny
import HandS.Style
import KE.KStateDown
import HandS.Words
import HandS.Head0
import HandS.Head1
import HandS.Head2
import HandS.HeadEnd
import HandS.HeadHook1
import HandS.HeadHook2
import HandS.HeadHook3
import HandS.HeadHook4
import KE.GoesEnum
import HandS.Conv
import KE.KDictZip
import KE.KItemsList
import HandS.Keys
import HandS.TupLe
import HandS.Text
import HandS.SortInts
import HandS.NoneIn
import Lean
import PySem.Challenge.RW_pagefall_k44_whole_lines
set_option Elab.async false
set_option linter.all false
set_option maxRecDepth 100000
/-! The ghost layer: what a def's names hold told as plain data; lists that a body owns; one stream of draws. -/
namespace Gh
open PySem PySem.Spec PyProof.Rows L2

/-- plain data -/
inductive D where
  | non | bl (b : Bool) | int (i : Int) | str (s : Str) | lst (xs : List D) | tup (xs : List D)
  | emp            -- an empty dict
  | scr (ns : List Int) -- the script: a list of ints that is only read
  | mut            -- the stream of draws
  | ty (n : String) -- a built-in class
  | ref (a : Addr) -- some object of which nothing is told

def SL (K : PySem.W.Frag) (S : List Addr) (H : Hp) (a : Addr) (xs : List V) : Prop := (a ∉ S ∧ Rd H a (.lst xs)) ∨ SqL K (fun _ => none) a xs
def SU (K : PySem.W.Frag) (S : List Addr) (H : Hp) (a : Addr) (xs : List V) : Prop := (a ∉ S ∧ Rd H a (.tup xs)) ∨ SqT K (fun _ => none) a xs
theorem rd_none {a : Addr} {o : HO} : ¬ Rd (fun _ => none) a o := by
  rintro (h | ⟨_, h⟩) <;> cases h
theorem SL.sq {K : PySem.W.Frag} {S : List Addr} {H : Hp} {a : Addr} {xs : List V} (h : SL K S H a xs) : SqL K H a xs := by
  rcases h with ⟨_, h⟩ | h
  · exact .inl h
  · rcases h with h | h
    · exact (rd_none h).elim
    · exact .inr h
theorem SU.sq {K : PySem.W.Frag} {S : List Addr} {H : Hp} {a : Addr} {xs : List V} (h : SU K S H a xs) : SqT K H a xs := by
  rcases h with ⟨_, h⟩ | h
  · exact .inl h
  · rcases h with h | h
    · exact (rd_none h).elim
    · exact .inr h

mutual
inductive Rp (K : PySem.W.Frag) (p : Addr) (S : List Addr) (H : Hp) : V → D → Prop
  | non : Rp K p S H .non .non
  | bl (b : Bool) : Rp K p S H (.bl b) (.bl b)
  | int (i : Int) : Rp K p S H (.int i) (.int i)
  | str (x : Str) : Rp K p S H (.str x) (.str x)
  | lst {a : Addr} {xs : List V} {ds : List D} : a ∉ S → H a = some (.lst xs) → Rps K p S H xs ds → Rp K p S H (.ref a) (.lst ds)
  | scr {a : Addr} {ns : List Int} : SL K S H a (ns.map V.int) → Rp K p S H (.ref a) (.scr ns)
  | tup {a : Addr} {xs : List V} {ds : List D} : SU K S H a xs → Rps K p S H xs ds → Rp K p S H (.ref a) (.tup ds)
  | emp {a : Addr} : a ∉ S → H a = some (.dK []) → Rp K p S H (.ref a) .emp
  | mut : Rp K p S H (.ref p) .mut
  | ty (n : String) : Rp K p S H (.ty n) (.ty n)
  | ref (a : Addr) : Rp K p S H (.ref a) (.ref a)
inductive Rps (K : PySem.W.Frag) (p : Addr) (S : List Addr) (H : Hp) : List V → List D → Prop
  | nil : Rps K p S H [] []
  | cons {v : V} {vs : List V} {d : D} {ds : List D} : Rp K p S H v d → Rps K p S H vs ds → Rps K p S H (v :: vs) (d :: ds)
end

/-- all that stands is kept, but for S; what stands goes on to stand -/
def XT (S : List Addr) (H H' : Hp) : Prop := (∀ a o, a ∉ S → H a = some o → H' a = some o) ∧ ∀ a, H' a = none → H a = none
theorem XT.refl {S : List Addr} {H : Hp} : XT S H H := ⟨fun _ _ _ h => h, fun _ h => h⟩
theorem XT.trans {S : List Addr} {H H1 H2 : Hp} (a : XT S H H1) (b : XT S H1 H2) : XT S H H2 := ⟨fun x o n h => b.1 x o n (a.1 x o n h), fun x h => a.2 x (b.2 x h)⟩
theorem XT.mono {S S' : List Addr} {H H' : Hp} (x : XT S H H') (h : ∀ a ∈ S, a ∈ S') : XT S' H H' := ⟨fun a o n e => x.1 a o (fun m => n (h a m)) e, x.2⟩
theorem upd_none {H : Hp} {p a : Addr} {o : HO} (h : upd H p o a = none) : H a = none := by
  unfold upd at h
  split at h
  · cases h
  · exact h
theorem XT.new {S : List Addr} {H : Hp} {p : Addr} {o : HO} (h : H p = none) : XT S H (upd H p o) := ⟨fun a u _ e => by
  rw [upd_ne (ne_of_none e h)]; exact e, fun a h => upd_none h⟩
theorem rd_ext {S : List Addr} {H H' : Hp} {a : Addr} {u : HO} (x : XT S H H') (n : a ∉ S) (h : Rd H a u) : Rd H' a u := by
  rcases h with h | ⟨o, h⟩
  · exact .inl (x.1 a _ n h)
  · exact .inr ⟨o, x.1 a _ n h⟩

section
variable {K : PySem.W.Frag} {p : Addr} {S S' : List Addr} {H H' : Hp}
mutual
theorem Rp.imp (hL : ∀ a xs, SL K S H a xs → SL K S' H' a xs) (hU : ∀ a xs, SU K S H a xs → SU K S' H' a xs) (hE : ∀ a o, a ∉ S → H a = some o → a ∉ S' ∧ H' a = some o) :
    ∀ (d : D) (v : V), Rp K p S H v d → Rp K p S' H' v d
  | .non, _, h => by cases h; exact .non
  | .bl _, _, h => by cases h; exact .bl _
  | .int _, _, h => by cases h; exact .int _
  | .str _, _, h => by cases h; exact .str _
  | .lst ds, _, h => by
    cases h with
    | lst h1 h2 h3 => exact .lst (hE _ _ h1 h2).1 (hE _ _ h1 h2).2 (Rps.imp hL hU hE ds _ h3)
  | .scr ns, _, h => by
    cases h with
    | scr h1 => exact .scr (hL _ _ h1)
  | .tup ds, _, h => by
    cases h with
    | tup h1 h2 => exact .tup (hU _ _ h1) (Rps.imp hL hU hE ds _ h2)
  | .emp, _, h => by
    cases h with
    | emp h1 h2 => exact .emp (hE _ _ h1 h2).1 (hE _ _ h1 h2).2
  | .mut, _, h => by cases h; exact .mut
  | .ty _, _, h => by cases h; exact .ty _
  | .ref _, _, h => by cases h; exact .ref _
theorem Rps.imp (hL : ∀ a xs, SL K S H a xs → SL K S' H' a xs) (hU : ∀ a xs, SU K S H a xs → SU K S' H' a xs) (hE : ∀ a o, a ∉ S → H a = some o → a ∉ S' ∧ H' a = some o) :
    ∀ (ds : List D) (vs : List V), Rps K p S H vs ds → Rps K p S' H' vs ds
  | [], _, h => by cases h; exact .nil
  | d :: ds, _, h => by
    cases h with
    | cons h1 h2 => exact .cons (Rp.imp hL hU hE d _ h1) (Rps.imp hL hU hE ds _ h2)
end
theorem Rp.ext {v : V} {d : D} (h : Rp K p S H v d) (x : XT S H H') : Rp K p S H' v d :=
  Rp.imp (fun a xs q => q.elim (fun ⟨n, r⟩ => .inl ⟨n, rd_ext x n r⟩) .inr) (fun a xs q => q.elim (fun ⟨n, r⟩ => .inl ⟨n, rd_ext x n r⟩) .inr) (fun a o n e => ⟨n, x.1 a _ n e⟩) d v h
theorem Rps.ext {vs : List V} {ds : List D} (h : Rps K p S H vs ds) (x : XT S H H') : Rps K p S H' vs ds :=
  Rps.imp (fun a xs q => q.elim (fun ⟨n, r⟩ => .inl ⟨n, rd_ext x n r⟩) .inr) (fun a xs q => q.elim (fun ⟨n, r⟩ => .inl ⟨n, rd_ext x n r⟩) .inr) (fun a o n e => ⟨n, x.1 a _ n e⟩) ds vs h
theorem Rp.weak {v : V} {d : D} (h : Rp K p S H v d) (s : ∀ a ∈ S', a ∈ S) : Rp K p S' H v d :=
  Rp.imp (fun a xs q => q.elim (fun ⟨n, r⟩ => .inl ⟨fun m => n (s a m), r⟩) .inr) (fun a xs q => q.elim (fun ⟨n, r⟩ => .inl ⟨fun m => n (s a m), r⟩) .inr) (fun a o n e => ⟨fun m => n (s a m), e⟩) d v h
theorem Rps.weak {vs : List V} {ds : List D} (h : Rps K p S H vs ds) (s : ∀ a ∈ S', a ∈ S) : Rps K p S' H vs ds :=
  Rps.imp (fun a xs q => q.elim (fun ⟨n, r⟩ => .inl ⟨fun m => n (s a m), r⟩) .inr) (fun a xs q => q.elim (fun ⟨n, r⟩ => .inl ⟨fun m => n (s a m), r⟩) .inr) (fun a o n e => ⟨fun m => n (s a m), e⟩) ds vs h
theorem rd_ne {a b : Addr} {u : HO} (h : Rd H a u) (e : H b = none) : a ≠ b := by
  rcases h with h | ⟨o, h⟩
  · exact ne_of_none h e
  · exact ne_of_none h e
/-- a new address is in no data -/
theorem Rp.fresh {v : V} {d : D} {b : Addr} (h : Rp K p S H v d) (e : H b = none) : Rp K p (b :: S) H v d :=
  Rp.imp (fun a xs q => q.elim (fun ⟨n, r⟩ => .inl ⟨fun m => (List.mem_cons.mp m).elim (rd_ne r e) n, r⟩) .inr) (fun a xs q => q.elim (fun ⟨n, r⟩ => .inl ⟨fun m => (List.mem_cons.mp m).elim (rd_ne r e) n, r⟩) .inr)
    (fun a o n q => ⟨fun m => (List.mem_cons.mp m).elim (ne_of_none q e) n, q⟩) d v h
theorem Rps.fresh {vs : List V} {ds : List D} {b : Addr} (h : Rps K p S H vs ds) (e : H b = none) : Rps K p (b :: S) H vs ds :=
  Rps.imp (fun a xs q => q.elim (fun ⟨n, r⟩ => .inl ⟨fun m => (List.mem_cons.mp m).elim (rd_ne r e) n, r⟩) .inr) (fun a xs q => q.elim (fun ⟨n, r⟩ => .inl ⟨fun m => (List.mem_cons.mp m).elim (rd_ne r e) n, r⟩) .inr)
    (fun a o n q => ⟨fun m => (List.mem_cons.mp m).elim (ne_of_none q e) n, q⟩) ds vs h
/-- other forbidden addresses: each is forbidden already, or new -/
theorem Rp.to {v : V} {d : D} (h : Rp K p S H v d) (e : ∀ b ∈ S', b ∈ S ∨ H b = none) : Rp K p S' H v d :=
  Rp.imp (fun a xs q => q.elim (fun ⟨n, r⟩ => .inl ⟨fun m => (e a m).elim n fun z => rd_ne r z rfl, r⟩) .inr) (fun a xs q => q.elim (fun ⟨n, r⟩ => .inl ⟨fun m => (e a m).elim n fun z => rd_ne r z rfl, r⟩) .inr)
    (fun a o n q => ⟨fun m => (e a m).elim n fun z => ne_of_none q z rfl, q⟩) d v h
theorem Rps.to {vs : List V} {ds : List D} (h : Rps K p S H vs ds) (e : ∀ b ∈ S', b ∈ S ∨ H b = none) : Rps K p S' H vs ds :=
  Rps.imp (fun a xs q => q.elim (fun ⟨n, r⟩ => .inl ⟨fun m => (e a m).elim n fun z => rd_ne r z rfl, r⟩) .inr) (fun a xs q => q.elim (fun ⟨n, r⟩ => .inl ⟨fun m => (e a m).elim n fun z => rd_ne r z rfl, r⟩) .inr)
    (fun a o n q => ⟨fun m => (e a m).elim n fun z => ne_of_none q z rfl, q⟩) ds vs h
theorem Rps.length : ∀ {vs : List V} {ds : List D}, Rps K p S H vs ds → vs.length = ds.length
  | _, [], h => by cases h; rfl
  | _, d :: ds, h => by
    cases h with
    | cons h1 h2 => simp [Rps.length h2]
theorem Rps.append : ∀ {vs ws : List V} {ds es : List D}, Rps K p S H vs ds → Rps K p S H ws es → Rps K p S H (vs ++ ws) (ds ++ es)
  | _, _, [], _, h, k => by cases h; exact k
  | _, _, d :: ds, _, h, k => by
    cases h with
    | cons h1 h2 => exact .cons h1 (Rps.append h2 k)
theorem Rps.one {v : V} {d : D} (h : Rp K p S H v d) : Rps K p S H [v] [d] := .cons h .nil
theorem Rps.get : ∀ {vs : List V} {ds : List D} {i : Nat} {d : D}, Rps K p S H vs ds → ds[i]? = some d → ∃ v, vs[i]? = some v ∧ Rp K p S H v d
  | _, [], _, _, h, e => by simp at e
  | _, c :: ds, 0, d, h, e => by
    cases h with
    | cons h1 h2 => simp at e; subst e; exact ⟨_, rfl, h1⟩
  | _, c :: ds, i + 1, d, h, e => by
    cases h with
    | cons h1 h2 => simpa using Rps.get (i := i) h2 (by simpa using e)
theorem Rps.getV : ∀ {vs : List V} {ds : List D} {i : Nat} {v : V}, Rps K p S H vs ds → vs[i]? = some v → ∃ d, ds[i]? = some d ∧ Rp K p S H v d
  | _, [], _, _, h, e => by cases h; simp at e
  | _, c :: ds, 0, v, h, e => by
    cases h with
    | cons h1 h2 => simp at e; subst e; exact ⟨_, rfl, h1⟩
  | _, c :: ds, i + 1, v, h, e => by
    cases h with
    | cons h1 h2 => simpa using Rps.getV (i := i) h2 (by simpa using e)
theorem Rps.take : ∀ {vs : List V} {ds : List D} (n : Nat), Rps K p S H vs ds → Rps K p S H (vs.take n) (ds.take n)
  | _, _, 0, _ => by simp; exact .nil
  | _, [], n + 1, h => by cases h; exact .nil
  | _, d :: ds, n + 1, h => by
    cases h with
    | cons h1 h2 => exact .cons h1 (Rps.take n h2)
theorem Rps.drop : ∀ {vs : List V} {ds : List D} (n : Nat), Rps K p S H vs ds → Rps K p S H (vs.drop n) (ds.drop n)
  | _, _, 0, h => by simpa using h
  | _, [], n + 1, h => by cases h; exact .nil
  | _, d :: ds, n + 1, h => by
    cases h with
    | cons h1 h2 => simpa using Rps.drop n h2
theorem Rps.reverse : ∀ {vs : List V} {ds : List D}, Rps K p S H vs ds → Rps K p S H vs.reverse ds.reverse
  | _, [], h => by cases h; exact .nil
  | _, d :: ds, h => by
    cases h with
    | cons h1 h2 => simpa using (Rps.reverse h2).append (.one h1)
theorem Rps.set : ∀ {vs : List V} {ds : List D} {v : V} {d : D} (i : Nat), Rps K p S H vs ds → Rp K p S H v d → Rps K p S H (vs.set i v) (ds.set i d)
  | _, [], _, _, _, h, _ => by cases h; exact .nil
  | _, c :: ds, _, _, 0, h, k => by
    cases h with
    | cons h1 h2 => exact .cons k h2
  | _, c :: ds, _, _, i + 1, h, k => by
    cases h with
    | cons h1 h2 => exact .cons h1 (Rps.set i h2 k)
theorem Rps.eraseIdx : ∀ {vs : List V} {ds : List D} (i : Nat), Rps K p S H vs ds → Rps K p S H (vs.eraseIdx i) (ds.eraseIdx i)
  | _, [], _, h => by cases h; exact .nil
  | _, c :: ds, 0, h => by
    cases h with
    | cons h1 h2 => exact h2
  | _, c :: ds, i + 1, h => by
    cases h with
    | cons h1 h2 => exact .cons h1 (Rps.eraseIdx i h2)
theorem Rps.dropLast {vs : List V} {ds : List D} (h : Rps K p S H vs ds) : Rps K p S H vs.dropLast ds.dropLast := by
  rw [List.dropLast_eq_take, List.dropLast_eq_take, h.length]; exact h.take _
theorem Rps.ints : ∀ {vs : List V} {ns : List Int}, Rps K p S H vs (ns.map D.int) → vs = ns.map V.int
  | _, [], h => by cases h; rfl
  | _, n :: ns, h => by
    cases h with
    | cons h1 h2 => cases h1; simp [Rps.ints h2]
theorem Rps.ofInts : ∀ (ns : List Int), Rps K p S H (ns.map V.int) (ns.map D.int)
  | [] => .nil
  | n :: ns => .cons (.int n) (Rps.ofInts ns)
theorem Rps.bls : ∀ {vs : List V} {bs : List Bool}, Rps K p S H vs (bs.map D.bl) → vs = bs.map V.bl
  | _, [], h => by cases h; rfl
  | _, n :: ns, h => by
    cases h with
    | cons h1 h2 => cases h1; simp [Rps.bls h2]
end

/-! ### slots and frames -/
inductive G where
  | no
  | val (d : D)
  | own (ds : List D)
abbrev Sx := Option (List Int)
def StA (p : Addr) (S : List Addr) (H : Hp) : Sx → Prop
  | none => True
  | some xs => p ∈ S ∧ H p = some (.lst (xs.map V.int))
def XP (p : Addr) (s : Sx) (H H' : Hp) : Prop := (∀ a o, H a = some o → (s = none ∨ a ≠ p) → H' a = some o) ∧ ∀ a, H' a = none → H a = none
theorem XP.refl {p : Addr} {s : Sx} {H : Hp} : XP p s H H := ⟨fun _ _ h _ => h, fun _ h => h⟩
theorem XP.trans {p : Addr} {s : Sx} {H H1 H2 : Hp} (a : XP p s H H1) (b : XP p s H1 H2) : XP p s H H2 := ⟨fun x o h n => b.1 x o (a.1 x o h n) n, fun x h => a.2 x (b.2 x h)⟩
theorem XP.kind {p : Addr} {s s' : Sx} {H H' : Hp} (x : XP p s H H') (k : s.isSome = s'.isSome) : XP p s' H H' := ⟨fun a o h n => x.1 a o h (n.elim (fun e => .inl (by
  subst e
  cases s with
  | none => rfl
  | some _ => cases k)) .inr), x.2⟩
theorem XP.xt {p : Addr} {s : Sx} {S : List Addr} {H H' : Hp} (x : XP p s H H') (h : StA p S H s) : XT S H H' := ⟨fun a o n e => x.1 a o e (by
  cases s with
  | none => exact .inl rfl
  | some xs => exact .inr fun z => n (z ▸ h.1)), x.2⟩
theorem XP.new {p b : Addr} {s : Sx} {H : Hp} {o : HO} (h : H b = none) : XP p s H (upd H b o) := ⟨fun a u e _ => by
  rw [upd_ne (ne_of_none e h)]; exact e, fun a h => upd_none h⟩

/-- a body: its context, the heap at its entry, the addresses that no data of it may hold, the stream's address -/
structure Fx where
  X : Cx
  H0 : Hp
  S0 : List Addr
  p : Addr
  act : Bool
abbrev Fx.K (F : Fx) : PySem.W.Frag := F.X.K
/-- an expression's step: all is kept but the stream -/
def XE (F : Fx) (H H' : Hp) : Prop := (∀ a o, ¬ (F.act = true ∧ a = F.p ∧ a ∈ F.S0) → H a = some o → H' a = some o) ∧ ∀ a, H' a = none → H a = none
theorem XE.refl {F : Fx} {H : Hp} : XE F H H := ⟨fun _ _ _ h => h, fun _ h => h⟩
theorem XE.trans {F : Fx} {H H1 H2 : Hp} (a : XE F H H1) (b : XE F H1 H2) : XE F H H2 := ⟨fun x o n h => b.1 x o n (a.1 x o n h), fun x h => a.2 x (b.2 x h)⟩
theorem XE.new {F : Fx} {H : Hp} {p : Addr} {o : HO} (h : H p = none) : XE F H (upd H p o) := ⟨fun a u _ e => by
  rw [upd_ne (ne_of_none e h)]; exact e, fun a h => upd_none h⟩
theorem XE.xt {F : Fx} {O : List Addr} {H H' : Hp} (x : XE F H H') : XT (O ++ F.S0) H H' := ⟨fun a o n h => x.1 a o (fun z => n (List.mem_append_right _ z.2.2)) h, x.2⟩
theorem XP.xe {F : Fx} {s : Sx} {H H' : Hp} (x : XP F.p s H H') (h : StA F.p F.S0 H s) (kd : s.isSome = F.act) : XE F H H' := ⟨fun a o n e => x.1 a o e (by
  cases s with
  | none => exact .inl rfl
  | some xs => exact .inr fun z => n ⟨kd.symm, z, z ▸ h.1⟩), x.2⟩
def Slot (K : PySem.W.Frag) (p : Addr) (S : List Addr) (H : Hp) (o : Option V) : G → Prop
  | .no => True
  | .val d => ∃ v, o = some v ∧ Rp K p S H v d
  | .own ds => ∃ a vs, o = some (.ref a) ∧ a ∈ S ∧ H a = some (.lst vs) ∧ Rps K p S H vs ds
structure Fm (F : Fx) (O : List Addr) (σ : L2.St) (H : Hp) (ρ : List G) (s : Sx) : Prop where
  ext : XP F.p s F.H0 H
  slot : ∀ (i : Nat) (g : G), ρ[i]? = some g → ∃ o, σ[i]? = some o ∧ Slot F.X.K F.p (O ++ F.S0) H o g
  own : ∀ (i : Nat) (ds : List D) (a : Addr), ρ[i]? = some (.own ds) → σ[i]? = some (some (.ref a)) → a ∈ O
  dis : ∀ (i j : Nat) (ds es : List D) (a : Addr), i ≠ j → ρ[i]? = some (.own ds) → ρ[j]? = some (.own es) → σ[i]? = some (some (.ref a)) → σ[j]? ≠ some (some (.ref a))
  fre : ∀ a ∈ O, F.H0 a = none ∧ a ∉ F.S0
  trk : ∀ a ∈ O ++ F.S0, ∃ o, H a = some o
  st : StA F.p F.S0 H s
  kd : s.isSome = F.act
section
variable {F : Fx} {O : List Addr} {σ : L2.St} {H H' : Hp} {ρ : List G} {s s' : Sx}
/-- the heap grows, the stream turns -/
theorem Fm.grow (f : Fm F O σ H ρ s) (x : XP F.p s H H') (k : s.isSome = s'.isSome) (h : StA F.p F.S0 H' s') : Fm F O σ H' ρ s' := by
  have xt : XT (O ++ F.S0) H H' := (x.xt f.st).mono fun a m => List.mem_append_right _ m
  have np : ∀ a ∈ O, s = none ∨ a ≠ F.p := fun a ha => by
    have q := f.st
    cases s with
    | none => exact .inl rfl
    | some xs => exact .inr fun z => (f.fre a ha).2 (z ▸ q.1)
  refine ⟨(f.ext.trans x).kind k, fun i g hg => ?_, f.own, f.dis, f.fre, fun a ha => ?_, h, k.symm.trans f.kd⟩
  · obtain ⟨o, ho, q⟩ := f.slot i g hg
    refine ⟨o, ho, ?_⟩
    cases g with
    | no => trivial
    | val d =>
      obtain ⟨v, e, r⟩ := q
      exact ⟨v, e, r.ext xt⟩
    | own ds =>
      obtain ⟨a, vs, e, m, ha, r⟩ := q
      subst e
      exact ⟨a, vs, rfl, m, x.1 a _ ha (np a (f.own i ds a hg ho)), r.ext xt⟩
  · obtain ⟨o, e⟩ := f.trk a ha
    cases e' : H' a with
    | none => rw [x.2 a e'] at e; cases e
    | some o' => exact ⟨o', rfl⟩
theorem Fm.fresh (f : Fm F O σ H ρ s) {b : Addr} (h : H b = none) : b ∉ O ++ F.S0 := fun m => by
  obtain ⟨o, e⟩ := f.trk b m
  rw [h] at e; cases e
theorem Fm.new (f : Fm F O σ H ρ s) {b : Addr} {o : HO} (h : H b = none) : Fm F O σ (upd H b o) ρ s := by
  refine f.grow (XP.new h) rfl ?_
  have q := f.st
  cases s with
  | none => trivial
  | some xs => exact ⟨q.1, by rw [upd_ne (ne_of_none q.2 h)]; exact q.2⟩
/-- a new list that is owned -/
theorem Fm.newO (f : Fm F O σ H ρ s) {b : Addr} {vs : List V} (h : H b = none) : Fm F (b :: O) σ (upd H b (.lst vs)) ρ s := by
  have g := f.new (o := .lst vs) h
  have nb := f.fresh h
  refine ⟨g.ext, fun i q hq => ?_, fun i ds a h1 h2 => List.mem_cons_of_mem _ (f.own i ds a h1 h2), f.dis, fun a m => ?_, fun a m => ?_, g.st, g.kd⟩
  · obtain ⟨o, ho, k⟩ := f.slot i q hq
    refine ⟨o, ho, ?_⟩
    cases q with
    | no => trivial
    | val d =>
      obtain ⟨v, e, r⟩ := k
      exact ⟨v, e, (r.fresh h).ext (.new h)⟩
    | own ds =>
      obtain ⟨a, ws, e, m, ha, r⟩ := k
      exact ⟨a, ws, e, List.mem_cons_of_mem _ m, by rw [upd_ne (ne_of_none ha h)]; exact ha, (r.fresh h).ext (.new h)⟩
  · rcases List.mem_cons.mp m with rfl | m
    · exact ⟨f.ext.2 _ h, fun z => nb (List.mem_append_right _ z)⟩
    · exact f.fre a m
  · rcases List.mem_cons.mp m with rfl | m
    · exact ⟨_, upd_same⟩
    · exact g.trk a m
theorem Fm.drop {a : Addr} (f : Fm F O σ H ρ s) (g : Fm F (a :: O) σ H' ρ s') : Fm F O σ H' ρ s' := by
  refine ⟨g.ext, fun i q hq => ?_, f.own, f.dis, f.fre, fun b m => g.trk b (List.mem_cons_of_mem _ m), g.st, g.kd⟩
  obtain ⟨o, ho, k⟩ := g.slot i q hq
  refine ⟨o, ho, ?_⟩
  cases q with
  | no => trivial
  | val d =>
    obtain ⟨v, e, r⟩ := k
    exact ⟨v, e, r.weak fun b m => List.mem_cons_of_mem _ m⟩
  | own ds =>
    obtain ⟨b, ws, e, m, hb, r⟩ := k
    subst e
    exact ⟨b, ws, rfl, List.mem_append_left _ (f.own i ds b hq ho), hb, r.weak fun b m => List.mem_cons_of_mem _ m⟩
end

/-! ### the weakest wishes -/
def WE (X : Cx) (e : Expr) : TE := fun σ H Q => ∀ pins s, Inv X pins σ H s → wpAny (model X.prog X.w) X.A (eval e X.env) (EP X pins σ Q) X.xe s
def WT (X : Cx) (e : Expr) : TT := fun σ H Q => ∀ pins s, Inv X pins σ H s → wpAny (model X.prog X.w) X.A (isTrue e X.env (eval e X.env)) (TP X pins σ Q) X.xe s
def WW (X : Cx) (e : Expr) : TT := fun σ H Q => ∀ whole pins s, Inv X pins σ H s → wpAny (model X.prog X.w) X.A (isTrue e X.env whole) (TP X pins σ Q) X.xe s
def WA (X : Cx) (es : List Expr) : TA := fun σ H Q => ∀ pos pins s, Inv X pins σ H s → wpAny (model X.prog X.w) X.A (spliced (backTo pos (starEach es X.env))) (AP X pins σ Q) X.xe s
def WS (X : Cx) (st : Stmt) : TS := fun D σ H => ∀ pins s, Inv X pins σ H s → wpAny (model X.prog X.w) X.A (exec st X.env) (SP X pins D) X.xe s
def WB (X : Cx) (st : List Stmt) : TS := fun D σ H => ∀ pins s, Inv X pins σ H s → wpAny (model X.prog X.w) X.A (execs st X.env) (SP X pins D) X.xe s
theorem pe_we {X : Cx} {e : Expr} : PE X e (WE X e) := ⟨fun pins s _ _ _ I h => h pins s I⟩
theorem pt_wt {X : Cx} {e : Expr} : PT X e (WT X e) := ⟨fun pins s _ _ _ I h => h pins s I⟩
theorem pw_ww {X : Cx} {e : Expr} : PW X e (WW X e) := ⟨fun whole pins s _ _ _ I h => h whole pins s I⟩
theorem pa_wa {X : Cx} {es : List Expr} : PA X es (WA X es) := ⟨fun pos pins s _ _ _ I h => h pos pins s I⟩
theorem ps_ws {X : Cx} {st : Stmt} : PS X st (WS X st) := ⟨fun pins s _ _ _ I h => h pins s I⟩
theorem pss_wb {X : Cx} {st : List Stmt} : PSs X st (WB X st) := ⟨fun pins s _ _ _ I h => h pins s I⟩
section
variable {X : Cx} {σ : L2.St} {H : Hp}
theorem we {e : Expr} {t : TE} {Q : VK} (p : PE X e t) (h : t σ H Q) : WE X e σ H Q := fun pins s I => p.run pins s σ H Q I h
theorem wt {e : Expr} {t : TT} {Q : Bool → Hp → Prop} (p : PT X e t) (h : t σ H Q) : WT X e σ H Q := fun pins s I => p.run pins s σ H Q I h
theorem ww {e : Expr} {t : TT} {Q : Bool → Hp → Prop} (p : PW X e t) (h : t σ H Q) : WW X e σ H Q := fun whole pins s I => p.run whole pins s σ H Q I h
theorem wa {es : List Expr} {t : TA} {Q : List V → Hp → Prop} (p : PA X es t) (h : t σ H Q) : WA X es σ H Q := fun pos pins s I => p.run pos pins s σ H Q I h
theorem ws {st : Stmt} {t : TS} {D : Ends} (p : PS X st t) (h : t D σ H) : WS X st D σ H := fun pins s I => p.run pins s σ H D I h
theorem wb {st : List Stmt} {t : TS} {D : Ends} (p : PSs X st t) (h : t D σ H) : WB X st D σ H := fun pins s I => p.run pins s σ H D I h
theorem WE.mono {e : Expr} {Q Q' : VK} (h : WE X e σ H Q) (k : ∀ v H', Q v H' → Q' v H') : WE X e σ H Q' := fun pins s I => thn (h pins s I) fun _ _ ⟨v, H', J, r, q⟩ => ⟨v, H', J, r, k v H' q⟩
end
end Gh
set_option Elab.async false
set_option linter.all false
set_option maxRecDepth 100000
namespace Gh
open PySem PySem.Spec PyProof.Rows L2

/-! ### the judgements: what an expression is worth -/
def Ed (F : Fx) (ρ : List G) (s : Sx) (e : Expr) (d : D) (s' : Sx) : Prop :=
  s.isSome = s'.isSome ∧ ∀ O σ H, Fm F O σ H ρ s → ∀ Q : VK, (∀ v H', Fm F O σ H' ρ s' → XE F H H' → Rp F.X.K F.p (O ++ F.S0) H' v d → Q v H') → WE F.X e σ H Q
def Ea (F : Fx) (ρ : List G) (s : Sx) (es : List Expr) (ds : List D) (s' : Sx) : Prop :=
  s.isSome = s'.isSome ∧ ∀ O σ H, Fm F O σ H ρ s → ∀ Q : List V → Hp → Prop, (∀ vs H', Fm F O σ H' ρ s' → XE F H H' → Rps F.X.K F.p (O ++ F.S0) H' vs ds → Q vs H') → WA F.X es σ H Q
/-- a new list -/
def El (F : Fx) (ρ : List G) (s : Sx) (e : Expr) (ds : List D) (s' : Sx) : Prop :=
  s.isSome = s'.isSome ∧ ∀ O σ H, Fm F O σ H ρ s → ∀ Q : VK, (∀ a vs H', Fm F (a :: O) σ H' ρ s' → XE F H H' → H a = none → H' a = some (.lst vs) → Rps F.X.K F.p (a :: (O ++ F.S0)) H' vs ds → Q (.ref a) H') → WE F.X e σ H Q
def Et (F : Fx) (ρ : List G) (s : Sx) (e : Expr) (b : Bool) (s' : Sx) : Prop :=
  s.isSome = s'.isSome ∧ ∀ O σ H, Fm F O σ H ρ s → ∀ Q : Bool → Hp → Prop, (∀ H', Fm F O σ H' ρ s' → XE F H H' → Q b H') → WT F.X e σ H Q
def Ew (F : Fx) (ρ : List G) (s : Sx) (e : Expr) (b : Bool) (s' : Sx) : Prop :=
  s.isSome = s'.isSome ∧ ∀ O σ H, Fm F O σ H ρ s → ∀ Q : Bool → Hp → Prop, (∀ H', Fm F O σ H' ρ s' → XE F H H' → Q b H') → WW F.X e σ H Q
/-- a two-place operation; a call, by data -/
def R2d (F : Fx) (ρ : List G) (s : Sx) (r : R2) (x y z : D) : Prop :=
  ∀ O σ H, Fm F O σ H ρ s → ∀ v w, Rp F.X.K F.p (O ++ F.S0) H v x → Rp F.X.K F.p (O ++ F.S0) H w y → ∀ Q : VK, (∀ u H', Fm F O σ H' ρ s → XE F H H' → Rp F.X.K F.p (O ++ F.S0) H' u z → Q u H') → r v w H Q
def R2l (F : Fx) (ρ : List G) (s : Sx) (r : R2) (x y : D) (zs : List D) : Prop :=
  ∀ O σ H, Fm F O σ H ρ s → ∀ v w, Rp F.X.K F.p (O ++ F.S0) H v x → Rp F.X.K F.p (O ++ F.S0) H w y → ∀ Q : VK, (∀ a vs H', Fm F (a :: O) σ H' ρ s → XE F H H' → H a = none → H' a = some (.lst vs) → Rps F.X.K F.p (a :: (O ++ F.S0)) H' vs zs → Q (.ref a) H') → r v w H Q
def CRd (F : Fx) (ρ : List G) (s : Sx) (r : List V → Hp → VK → Prop) (xs : List D) (z : D) : Prop :=
  ∀ O σ H, Fm F O σ H ρ s → ∀ vs, Rps F.X.K F.p (O ++ F.S0) H vs xs → ∀ Q : VK, (∀ u H', Fm F O σ H' ρ s → XE F H H' → Rp F.X.K F.p (O ++ F.S0) H' u z → Q u H') → r vs H Q
def CRl (F : Fx) (ρ : List G) (s : Sx) (r : List V → Hp → VK → Prop) (xs zs : List D) : Prop :=
  ∀ O σ H, Fm F O σ H ρ s → ∀ vs, Rps F.X.K F.p (O ++ F.S0) H vs xs → ∀ Q : VK, (∀ a ws H', Fm F (a :: O) σ H' ρ s → XE F H H' → H a = none → H' a = some (.lst ws) → Rps F.X.K F.p (a :: (O ++ F.S0)) H' ws zs → Q (.ref a) H') → r vs H Q

section
variable {F : Fx} {ρ : List G} {s s1 s2 s3 : Sx} {a b c e : Expr} {es : List Expr} {x y z d : D} {xs zs ds : List D} {pos p : Pos}

theorem El.ed (h : El F ρ s e ds s1) : Ed F ρ s e (.lst ds) s1 := ⟨h.1, fun O σ H f Q q => h.2 O σ H f Q fun a vs H' f' x' n h' r =>
  q _ _ (f.drop f') x' (.lst (f.fresh n) h' (r.weak fun a m => List.mem_cons_of_mem _ m))⟩

/-! names, constants -/
theorem ed_var (i : Nat) {x : Str} (hN : F.X.N[i]? = some x) (hv : Vis F.X.env.scope x) (hρ : ρ[i]? = some (.val d)) (hd : (x == ("__debug__" : Str)) = false := by decide) (hcd : (x == ("__classdict__" : Str)) = false := by decide) : Ed F ρ s (.Name x pos) d s :=
  ⟨rfl, fun O σ H f Q q => by
    obtain ⟨o, ho, v, e, r⟩ := f.slot i _ hρ
    subst e
    exact we (pe_var hN hv hd hcd) ⟨v, ho, q v H f .refl r⟩⟩
theorem ed_int {i : Int} {j} : Ed F ρ s (.Constant (.int i) j pos) (.int i) s := ⟨rfl, fun O σ H f Q q => we pe_int (q _ _ f .refl (.int i))⟩
theorem ed_bl {i : Bool} {j} : Ed F ρ s (.Constant (.bool i) j pos) (.bl i) s := ⟨rfl, fun O σ H f Q q => we pe_bl (q _ _ f .refl (.bl i))⟩
theorem ed_str {i : Str} {j} : Ed F ρ s (.Constant (.str i) j pos) (.str i) s := ⟨rfl, fun O σ H f Q q => we pe_str (q _ _ f .refl (.str i))⟩
theorem ed_non {j} : Ed F ρ s (.Constant .none j pos) .non s := ⟨rfl, fun O σ H f Q q => we pe_non (q _ _ f .refl .non)⟩
theorem ed_ty {x : Str} {n : String} (hg : Gl F.X x) (hm : F.X.mg x = none) (hv : bootBuiltins x = some (.type n)) (hn : x ≠ "__name__" := by decide) (hd : (x == ("__debug__" : Str)) = false := by decide) : Ed F ρ s (.Name x pos) (.ty n) s :=
  ⟨rfl, fun O σ H f Q q => we (pe_bltn (v := .ty n) hg hm hv rfl hn hd) (q _ _ f .refl (.ty n))⟩
theorem ed_glob {x : Str} {v : V} {u : Value} (hg : Gl F.X x) (hm : F.X.mg x = some u) (r : RelV v u) (hr : ∀ p S H, Rp F.X.K p S H v d) (hd : (x == ("__debug__" : Str)) = false := by decide) : Ed F ρ s (.Name x pos) d s :=
  ⟨rfl, fun O σ H f Q q => we (pe_glob hg hm r hd) (q _ _ f .refl (hr _ _ _))⟩

/-! lists of expressions, displays -/
theorem ea_nil : Ea F ρ s [] [] s := ⟨rfl, fun O σ H f Q q => wa pa_nil (q _ _ f .refl .nil)⟩
theorem ea_cons (ha : Ed F ρ s e d s1) (hr : Ea F ρ s1 es ds s2) (hs : starEach (e :: es) F.X.env = (false, eval e F.X.env) :: starEach es F.X.env := by rfl) : Ea F ρ s (e :: es) (d :: ds) s2 :=
  ⟨ha.1.trans hr.1, fun O σ H f Q q => wa (pa_cons pe_we pa_wa hs) (ha.2 O σ H f _ fun v H1 f1 x1 r1 => hr.2 O σ H1 f1 _ fun vs H2 f2 x2 r2 => q _ _ f2 (x1.trans x2) (.cons (r1.ext x2.xt) r2))⟩
theorem ed_tup {k} (h : Ea F ρ s es ds s1) (hl : ds.length ≤ sizeLine := by exact Nat.le_of_ble_eq_true rfl) : Ed F ρ s (.Tuple es k pos) (.tup ds) s1 :=
  ⟨h.1, fun O σ H f Q q => we (pe_tup pa_wa) (h.2 O σ H f _ fun vs H1 f1 x1 r1 => ⟨by rw [r1.length]; exact hl, fun a n => q _ _ (f1.new n) (x1.trans (.new n)) (.tup (.inl ⟨f1.fresh n, .inl upd_same⟩) (r1.ext (.new n)))⟩)⟩
theorem el_lst (h : Ea F ρ s es ds s1) (hl : ds.length ≤ sizeLine := by exact Nat.le_of_ble_eq_true rfl) : El F ρ s (.List es pos) ds s1 :=
  ⟨h.1, fun O σ H f Q q => we (pe_lst pa_wa) (h.2 O σ H f _ fun vs H1 f1 x1 r1 => ⟨by rw [r1.length]; exact hl, fun a n => q a vs _ (f1.newO n) (x1.trans (.new n)) (x1.2 a n) upd_same ((r1.fresh n).ext (.new n))⟩)⟩

/-! operators -/
theorem ed_op {op : Operator} {r : R2} (ho : OpR F.X (binaryOp op) r) (ha : Ed F ρ s a x s1) (hb : Ed F ρ s1 b y s2) (hr : R2d F ρ s2 r x y z) : Ed F ρ s (.BinOp a op b pos) z s2 :=
  ⟨ha.1.trans hb.1, fun O σ H f Q q => we (pe_op ho pe_we pe_we) (ha.2 O σ H f _ fun v H1 f1 x1 r1 => hb.2 O σ H1 f1 _ fun w H2 f2 x2 r2 => hr O σ H2 f2 v w (r1.ext x2.xt) r2 Q fun u H3 f3 x3 r3 => q u H3 f3 ((x1.trans x2).trans x3) r3)⟩
theorem el_op {op : Operator} {r : R2} (ho : OpR F.X (binaryOp op) r) (ha : Ed F ρ s a x s1) (hb : Ed F ρ s1 b y s2) (hr : R2l F ρ s2 r x y zs) : El F ρ s (.BinOp a op b pos) zs s2 :=
  ⟨ha.1.trans hb.1, fun O σ H f Q q => we (pe_op ho pe_we pe_we) (ha.2 O σ H f _ fun v H1 f1 x1 r1 => hb.2 O σ H1 f1 _ fun w H2 f2 x2 r2 => hr O σ H2 f2 v w (r1.ext x2.xt) r2 Q fun u vs H3 f3 x3 n3 h3 r3 => q u vs H3 f3 ((x1.trans x2).trans x3) (x1.2 u (x2.2 u n3)) h3 r3)⟩
/-- a comparison: as a value, as a test -/
def Cp (F : Fx) (ρ : List G) (s : Sx) (op : CmpOp) (a b : Expr) (k : Bool) (s' : Sx) : Prop := s.isSome = s'.isSome ∧ behindInMarks op b = false ∧ ∃ r, OpR F.X (compareOp op) r ∧
  ∀ O σ H, Fm F O σ H ρ s → ∀ Q : VK, (∀ H', Fm F O σ H' ρ s' → XE F H H' → Q (.bl k) H') → tOp r (WE F.X a) (WE F.X b) σ H Q
theorem Cp.ed {op : CmpOp} {k : Bool} (h : Cp F ρ s op a b k s1) : Ed F ρ s (.Compare a [op] [b] pos) (.bl k) s1 := by
  obtain ⟨kd, hm, r, ho, h⟩ := h
  exact ⟨kd, fun O σ H f Q q => we (pe_cmpR ho pe_we pe_we hm) (h O σ H f Q fun H' f' x' => q _ H' f' x' (.bl k))⟩
theorem Cp.et {op : CmpOp} {k : Bool} (h : Cp F ρ s op a b k s1) : Et F ρ s (.Compare a [op] [b] pos) k s1 := by
  obtain ⟨kd, hm, r, ho, h⟩ := h
  exact ⟨kd, fun O σ H f Q q => wt (pt_cmpR ho pe_we pe_we hm) (h O σ H f _ fun H' f' x' => ⟨k, rfl, q H' f' x'⟩)⟩
theorem cp_of {op : CmpOp} {r : R2} {k : Bool} (ho : OpR F.X (compareOp op) r) (ha : Ed F ρ s a x s1) (hb : Ed F ρ s1 b y s2) (hr : R2d F ρ s2 r x y (.bl k)) (hm : behindInMarks op b = false) : Cp F ρ s op a b k s2 :=
  ⟨ha.1.trans hb.1, hm, r, ho, fun O σ H f Q q => ha.2 O σ H f _ fun v H1 f1 x1 r1 => hb.2 O σ H1 f1 _ fun w H2 f2 x2 r2 => hr O σ H2 f2 v w (r1.ext x2.xt) r2 Q fun u H3 f3 x3 r3 => by cases r3; exact q H3 f3 ((x1.trans x2).trans x3)⟩
theorem r2_I0 {g : Int → Int → V} {i j : Int} (h : ∀ p S H, Rp F.X.K p S H (g i j) z) : R2d F ρ s (rI0 g) (.int i) (.int j) z := fun O σ H f v w r1 r2 Q q => by
  cases r1; cases r2; exact ⟨i, j, rfl, rfl, q _ _ f .refl (h _ _ _)⟩
theorem r2_I {C : Int → Int → Prop} {g : Int → Int → V} {i j : Int} (hc : C i j) (h : ∀ p S H, Rp F.X.K p S H (g i j) z) : R2d F ρ s (rI C g) (.int i) (.int j) z := fun O σ H f v w r1 r2 Q q => by
  cases r1; cases r2; exact ⟨i, j, rfl, rfl, hc, q _ _ f .refl (h _ _ _)⟩
section
variable {i j : Int}
theorem ed_add (ha : Ed F ρ s a (.int i) s1) (hb : Ed F ρ s1 b (.int j) s2) : Ed F ρ s (.BinOp a .Add b pos) (.int (i + j)) s2 := ed_op op_add ha hb (r2_I0 fun _ _ _ => .int _)
theorem ed_sub (ha : Ed F ρ s a (.int i) s1) (hb : Ed F ρ s1 b (.int j) s2) : Ed F ρ s (.BinOp a .Sub b pos) (.int (i - j)) s2 := ed_op op_sub ha hb (r2_I0 fun _ _ _ => .int _)
theorem ed_mul (hc : CMul i j) (ha : Ed F ρ s a (.int i) s1) (hb : Ed F ρ s1 b (.int j) s2) : Ed F ρ s (.BinOp a .Mult b pos) (.int (i * j)) s2 := ed_op op_mul ha hb (r2_I hc fun _ _ _ => .int _)
theorem ed_mulW (hc : CMulW i j) (ha : Ed F ρ s a (.int i) s1) (hb : Ed F ρ s1 b (.int j) s2) : Ed F ρ s (.BinOp a .Mult b pos) (.int (i * j)) s2 := ed_op op_mulW ha hb (r2_I hc fun _ _ _ => .int _)
theorem ed_fdiv (hc : CDivW i j) (ha : Ed F ρ s a (.int i) s1) (hb : Ed F ρ s1 b (.int j) s2) : Ed F ρ s (.BinOp a .FloorDiv b pos) (.int (i / j)) s2 := ed_op op_fdivW ha hb (r2_I hc fun _ _ _ => .int _)
theorem ed_mod (hc : 0 < j) (ha : Ed F ρ s a (.int i) s1) (hb : Ed F ρ s1 b (.int j) s2) : Ed F ρ s (.BinOp a .Mod b pos) (.int (i % j)) s2 := ed_op op_mod ha hb (r2_I hc fun _ _ _ => .int _)
theorem ed_pow (hc : CPow i j) (ha : Ed F ρ s a (.int i) s1) (hb : Ed F ρ s1 b (.int j) s2) : Ed F ρ s (.BinOp a .Pow b pos) (.int (i ^ j.toNat)) s2 := ed_op op_pow ha hb (r2_I hc fun _ _ _ => .int _)
theorem cp_lt (ha : Ed F ρ s a (.int i) s1) (hb : Ed F ρ s1 b (.int j) s2) : Cp F ρ s .Lt a b (decide (i < j)) s2 := cp_of op_lt ha hb (r2_I0 fun _ _ _ => .bl _) (nomark _)
theorem cp_le (ha : Ed F ρ s a (.int i) s1) (hb : Ed F ρ s1 b (.int j) s2) : Cp F ρ s .LtE a b (decide (i ≤ j)) s2 := cp_of op_le ha hb (r2_I0 fun _ _ _ => .bl _) (nomark _)
theorem cp_gt (ha : Ed F ρ s a (.int i) s1) (hb : Ed F ρ s1 b (.int j) s2) : Cp F ρ s .Gt a b (decide (j < i)) s2 := cp_of op_gt ha hb (r2_I0 fun _ _ _ => .bl _) (nomark _)
theorem cp_ge (ha : Ed F ρ s a (.int i) s1) (hb : Ed F ρ s1 b (.int j) s2) : Cp F ρ s .GtE a b (decide (j ≤ i)) s2 := cp_of op_ge ha hb (r2_I0 fun _ _ _ => .bl _) (nomark _)
end

/-! tests, and, or, not, if -/
theorem et_val {k : Bool} (h : Ed F ρ s e (.bl k) s1) (hs : ∀ (whole : Sem Value), PySem.isTrue e F.X.env whole = (do let v ← whole; standAt e.pos; holding [v] (truthy v)) := by intro _; rfl) : Et F ρ s e k s1 :=
  ⟨h.1, fun O σ H f Q q => wt (pt_val pe_we hs) (h.2 O σ H f _ fun v H1 f1 x1 r1 => by cases r1; exact ⟨k, rfl, q H1 f1 x1⟩)⟩
theorem Ew.et {k : Bool} (h : Ew F ρ s e k s1) : Et F ρ s e k s1 := ⟨h.1, fun O σ H f Q q => wt (PW.pt pw_ww) (h.2 O σ H f Q q)⟩
end
end Gh
set_option Elab.async false
set_option linter.all false
set_option maxRecDepth 100000
namespace Gh
open PySem PySem.Spec PyProof.Rows L2
section
variable {F : Fx} {ρ : List G} {s s1 s2 s3 : Sx} {a b c e : Expr} {es rest : List Expr} {x y z d : D} {xs zs ds : List D} {pos p : Pos} {k l : Bool}

/-! and, or, not as values -/
theorem ed_one {op} (h : Ed F ρ s e d s1) : Ed F ρ s (.BoolOp op [e] pos) d s1 := ⟨h.1, fun O σ H f Q q => we (pe_one pe_we) (h.2 O σ H f Q q)⟩
theorem ed_andT (ha : Ed F ρ s a (.bl true) s1) (hb : Ed F ρ s1 (.BoolOp .And (b :: rest) pos) d s2) : Ed F ρ s (.BoolOp .And (a :: b :: rest) pos) d s2 :=
  ⟨ha.1.trans hb.1, fun O σ H f Q q => we (pe_and pe_we pe_we) (ha.2 O σ H f _ fun v H1 f1 x1 r1 => by cases r1; exact ⟨true, rfl, iteT (hb.2 O σ H1 f1 Q fun v H2 f2 x2 r2 => q v H2 f2 (x1.trans x2) r2)⟩)⟩
theorem ed_andF (ha : Ed F ρ s a (.bl false) s1) : Ed F ρ s (.BoolOp .And (a :: b :: rest) pos) (.bl false) s1 :=
  ⟨ha.1, fun O σ H f Q q => we (pe_and pe_we pe_we) (ha.2 O σ H f _ fun v H1 f1 x1 r1 => by cases r1; exact ⟨false, rfl, iteF (q _ H1 f1 x1 (.bl false))⟩)⟩
theorem ed_orT (ha : Ed F ρ s a (.bl true) s1) : Ed F ρ s (.BoolOp .Or (a :: b :: rest) pos) (.bl true) s1 :=
  ⟨ha.1, fun O σ H f Q q => we (pe_or pe_we pe_we) (ha.2 O σ H f _ fun v H1 f1 x1 r1 => by cases r1; exact ⟨true, rfl, iteT (q _ H1 f1 x1 (.bl true))⟩)⟩
theorem ed_orF (ha : Ed F ρ s a (.bl false) s1) (hb : Ed F ρ s1 (.BoolOp .Or (b :: rest) pos) d s2) : Ed F ρ s (.BoolOp .Or (a :: b :: rest) pos) d s2 :=
  ⟨ha.1.trans hb.1, fun O σ H f Q q => we (pe_or pe_we pe_we) (ha.2 O σ H f _ fun v H1 f1 x1 r1 => by cases r1; exact ⟨false, rfl, iteF (hb.2 O σ H1 f1 Q fun v H2 f2 x2 r2 => q v H2 f2 (x1.trans x2) r2)⟩)⟩
/-- what is asked is not known, and nothing is drawn -/
theorem ed_and (ha : Ed F ρ s a (.bl k) s) (hb : k = true → Ed F ρ s (.BoolOp .And (b :: rest) pos) (.bl l) s) : Ed F ρ s (.BoolOp .And (a :: b :: rest) pos) (.bl (k && l)) s := by
  cases k with
  | true => exact ed_andT ha (hb rfl)
  | false => exact ed_andF ha
theorem ed_or (ha : Ed F ρ s a (.bl k) s) (hb : k = false → Ed F ρ s (.BoolOp .Or (b :: rest) pos) (.bl l) s) : Ed F ρ s (.BoolOp .Or (a :: b :: rest) pos) (.bl (k || l)) s := by
  cases k with
  | true => exact ed_orT ha
  | false => exact ed_orF ha (hb rfl)
theorem ed_not (ha : Ed F ρ s a (.bl k) s1) : Ed F ρ s (.UnaryOp .Not a pos) (.bl (!k)) s1 :=
  ⟨ha.1, fun O σ H f Q q => we (pe_not pe_we) (ha.2 O σ H f _ fun v H1 f1 x1 r1 => by cases r1; exact ⟨k, rfl, q _ H1 f1 x1 (.bl _)⟩)⟩
theorem ed_neg {i : Int} (ha : Ed F ρ s a (.int i) s1) : Ed F ρ s (.UnaryOp .USub a pos) (.int (-i)) s1 :=
  ⟨ha.1, fun O σ H f Q q => we (pe_un un_neg pe_we) (ha.2 O σ H f _ fun v H1 f1 x1 r1 => by cases r1; exact ⟨i, rfl, q _ H1 f1 x1 (.int _)⟩)⟩
/-! as tests -/
theorem et_not (ha : Et F ρ s a k s1) : Et F ρ s (.UnaryOp .Not a pos) (!k) s1 := ⟨ha.1, fun O σ H f Q q => wt (pt_not pt_wt) (ha.2 O σ H f _ fun H1 f1 x1 => q H1 f1 x1)⟩
theorem ew_and1 (ha : Et F ρ s a k s1) : Ew F ρ s (.BoolOp .And [a] pos) k s1 := ⟨ha.1, fun O σ H f Q q => ww (pw_and1 pt_wt) (ha.2 O σ H f Q q)⟩
theorem ew_or1 (ha : Et F ρ s a k s1) : Ew F ρ s (.BoolOp .Or [a] pos) k s1 := ⟨ha.1, fun O σ H f Q q => ww (pw_or1 pt_wt) (ha.2 O σ H f Q q)⟩
theorem ew_andT (ha : Et F ρ s a true s1) (hb : Ew F ρ s1 (.BoolOp .And (b :: rest) pos) k s2) : Ew F ρ s (.BoolOp .And (a :: b :: rest) pos) k s2 :=
  ⟨ha.1.trans hb.1, fun O σ H f Q q => ww (pw_and pt_wt pw_ww) (ha.2 O σ H f _ fun H1 f1 x1 => iteT (hb.2 O σ H1 f1 Q fun H2 f2 x2 => q H2 f2 (x1.trans x2)))⟩
theorem ew_andF (ha : Et F ρ s a false s1) : Ew F ρ s (.BoolOp .And (a :: b :: rest) pos) false s1 :=
  ⟨ha.1, fun O σ H f Q q => ww (pw_and pt_wt pw_ww) (ha.2 O σ H f _ fun H1 f1 x1 => iteF (q H1 f1 x1))⟩
theorem ew_orT (ha : Et F ρ s a true s1) : Ew F ρ s (.BoolOp .Or (a :: b :: rest) pos) true s1 :=
  ⟨ha.1, fun O σ H f Q q => ww (pw_or pt_wt pw_ww) (ha.2 O σ H f _ fun H1 f1 x1 => iteT (q H1 f1 x1))⟩
theorem ew_orF (ha : Et F ρ s a false s1) (hb : Ew F ρ s1 (.BoolOp .Or (b :: rest) pos) k s2) : Ew F ρ s (.BoolOp .Or (a :: b :: rest) pos) k s2 :=
  ⟨ha.1.trans hb.1, fun O σ H f Q q => ww (pw_or pt_wt pw_ww) (ha.2 O σ H f _ fun H1 f1 x1 => iteF (hb.2 O σ H1 f1 Q fun H2 f2 x2 => q H2 f2 (x1.trans x2)))⟩
theorem ew_and (ha : Et F ρ s a k s) (hb : k = true → Ew F ρ s (.BoolOp .And (b :: rest) pos) l s) : Ew F ρ s (.BoolOp .And (a :: b :: rest) pos) (k && l) s := by
  cases k with
  | true => exact ew_andT ha (hb rfl)
  | false => exact ew_andF ha
theorem ew_or (ha : Et F ρ s a k s) (hb : k = false → Ew F ρ s (.BoolOp .Or (b :: rest) pos) l s) : Ew F ρ s (.BoolOp .Or (a :: b :: rest) pos) (k || l) s := by
  cases k with
  | true => exact ew_orT ha
  | false => exact ew_orF ha (hb rfl)
/-- a if c else b -/
theorem ed_ifT (hc : Et F ρ s c true s1) (ha : Ed F ρ s1 a d s2) : Ed F ρ s (.IfExp c a b pos) d s2 :=
  ⟨hc.1.trans ha.1, fun O σ H f Q q => we (pe_ifExp pt_wt pe_we pe_we) (hc.2 O σ H f _ fun H1 f1 x1 => iteT (ha.2 O σ H1 f1 Q fun v H2 f2 x2 r2 => q v H2 f2 (x1.trans x2) r2))⟩
theorem ed_ifF (hc : Et F ρ s c false s1) (hb : Ed F ρ s1 b d s2) : Ed F ρ s (.IfExp c a b pos) d s2 :=
  ⟨hc.1.trans hb.1, fun O σ H f Q q => we (pe_ifExp pt_wt pe_we pe_we) (hc.2 O σ H f _ fun H1 f1 x1 => iteF (hb.2 O σ H1 f1 Q fun v H2 f2 x2 r2 => q v H2 f2 (x1.trans x2) r2))⟩
theorem ed_if (hc : Et F ρ s c k s1) (ha : k = true → Ed F ρ s1 a x s1) (hb : k = false → Ed F ρ s1 b y s1) : Ed F ρ s (.IfExp c a b pos) (if k then x else y) s1 := by
  cases k with
  | true => exact ed_ifT hc (ha rfl)
  | false => exact ed_ifF hc (hb rfl)

/-! items -/
theorem atI_rps {K : PySem.W.Frag} {q : Addr} {S : List Addr} {H : Hp} {vs : List V} {i : Int} (r : Rps K q S H vs xs) (h : atI xs i = some d) : ∃ v, atI vs i = some v ∧ Rp K q S H v d := by
  unfold atI at h ⊢
  rw [r.length]
  cases e : ixN xs.length i with
  | none => rw [e] at h; cases h
  | some j =>
    rw [e] at h
    exact r.get h
theorem ed_ixL {i : Int} (ha : Ed F ρ s a (.lst xs) s1) (hb : Ed F ρ s1 b (.int i) s2) (h : atI xs i = some d) (hs : PlainIx b := by exact fun _ _ => rfl) : Ed F ρ s (.Subscript a b pos) d s2 :=
  ⟨ha.1.trans hb.1, fun O σ H f Q q => we (pe_ix ix_list pe_we pe_we hs) (ha.2 O σ H f _ fun v H1 f1 x1 r1 => hb.2 O σ H1 f1 _ fun w H2 f2 x2 r2 => by
    cases r2
    cases r1.ext x2.xt with
    | lst n h1 h2 =>
      obtain ⟨v, e, r⟩ := atI_rps h2 h
      exact ⟨_, _, i, v, rfl, rfl, .inl (.inl h1), e, q v H2 f2 (x1.trans x2) r⟩)⟩
theorem ed_ixT {i : Int} (ha : Ed F ρ s a (.tup xs) s1) (hb : Ed F ρ s1 b (.int i) s2) (h : atI xs i = some d) (hs : PlainIx b := by exact fun _ _ => rfl) : Ed F ρ s (.Subscript a b pos) d s2 :=
  ⟨ha.1.trans hb.1, fun O σ H f Q q => we (pe_ix ix_tup pe_we pe_we hs) (ha.2 O σ H f _ fun v H1 f1 x1 r1 => hb.2 O σ H1 f1 _ fun w H2 f2 x2 r2 => by
    cases r2
    cases r1.ext x2.xt with
    | tup h1 h2 =>
      obtain ⟨v, e, r⟩ := atI_rps h2 h
      exact ⟨_, _, i, v, rfl, rfl, h1.sq, e, q v H2 f2 (x1.trans x2) r⟩)⟩
theorem ed_ixS {i n : Int} {ns : List Int} (ha : Ed F ρ s a (.scr ns) s1) (hb : Ed F ρ s1 b (.int i) s2) (h : atI ns i = some n) (hs : PlainIx b := by exact fun _ _ => rfl) : Ed F ρ s (.Subscript a b pos) (.int n) s2 :=
  ⟨ha.1.trans hb.1, fun O σ H f Q q => we (pe_ix ix_list pe_we pe_we hs) (ha.2 O σ H f _ fun v H1 f1 x1 r1 => hb.2 O σ H1 f1 _ fun w H2 f2 x2 r2 => by
    cases r2
    cases r1.ext x2.xt with
    | scr h1 =>
      have e : atI (ns.map V.int) i = some (.int n) := by
        unfold atI at h ⊢
        rw [List.length_map]
        cases e : ixN ns.length i with
        | none => rw [e] at h; cases h
        | some j => rw [e] at h; simp only [Option.bind_some] at h ⊢; rw [List.getElem?_map, h]; rfl
      exact ⟨_, _, i, _, rfl, rfl, h1.sq, e, q _ H2 f2 (x1.trans x2) (.int n)⟩)⟩

/-! calls of built-ins -/
theorem ed_callB {x : Str} {id : String} {r : List V → Hp → VK → Prop} (hc : CallR F.X (.builtin id) r) (hm : F.X.mg x = none) (hv : bootBuiltins x = some (.builtin id)) (ha : Ea F ρ s (e :: es) xs s1) (hr : CRd F ρ s1 r xs z) (hg : Gl F.X x := by rfl) (hn : x ≠ "__name__" := by decide) (hdb : (x == ("__debug__" : Str)) = false := by decide)
    (he : starEach (e :: es) F.X.env = (false, eval e F.X.env) :: starEach es F.X.env := by rfl) (hpl : (backTo pos (starEach es F.X.env)).any (·.1) = false := by rfl) : Ed F ρ s (.Call (.Name x p) (e :: es) [] pos) z s1 :=
  ⟨ha.1, fun O σ H f Q q => we (pe_callB hc hg hm hv pa_wa hn hdb he hpl) (ha.2 O σ H f _ fun vs H1 f1 x1 r1 => hr O σ H1 f1 vs r1 Q fun u H2 f2 x2 r2 => q u H2 f2 (x1.trans x2) r2)⟩
theorem ed_callTy {x : Str} {T : String} {r : List V → Hp → VK → Prop} (hc : CallR F.X (.type T) r) (hm : F.X.mg x = none) (hv : bootBuiltins x = some (.type T)) (ha : Ea F ρ s (e :: es) xs s1) (hr : CRd F ρ s1 r xs z) (hg : Gl F.X x := by rfl) (hn : x ≠ "__name__" := by decide) (hdb : (x == ("__debug__" : Str)) = false := by decide)
    (he : starEach (e :: es) F.X.env = (false, eval e F.X.env) :: starEach es F.X.env := by rfl) (hpl : (backTo pos (starEach es F.X.env)).any (·.1) = false := by rfl) : Ed F ρ s (.Call (.Name x p) (e :: es) [] pos) z s1 :=
  ⟨ha.1, fun O σ H f Q q => we (pe_callTy hc hg hm hv pa_wa hn hdb he hpl) (ha.2 O σ H f _ fun vs H1 f1 x1 r1 => hr O σ H1 f1 vs r1 Q fun u H2 f2 x2 r2 => q u H2 f2 (x1.trans x2) r2)⟩
theorem el_callTy {x : Str} {T : String} {r : List V → Hp → VK → Prop} (hc : CallR F.X (.type T) r) (hm : F.X.mg x = none) (hv : bootBuiltins x = some (.type T)) (ha : Ea F ρ s (e :: es) xs s1) (hr : CRl F ρ s1 r xs zs) (hg : Gl F.X x := by rfl) (hn : x ≠ "__name__" := by decide) (hdb : (x == ("__debug__" : Str)) = false := by decide)
    (he : starEach (e :: es) F.X.env = (false, eval e F.X.env) :: starEach es F.X.env := by rfl) (hpl : (backTo pos (starEach es F.X.env)).any (·.1) = false := by rfl) : El F ρ s (.Call (.Name x p) (e :: es) [] pos) zs s1 :=
  ⟨ha.1, fun O σ H f Q q => we (pe_callTy hc hg hm hv pa_wa hn hdb he hpl) (ha.2 O σ H f _ fun vs H1 f1 x1 r1 => hr O σ H1 f1 vs r1 Q fun u ws H2 f2 x2 n2 h2 r2 => q u ws H2 f2 (x1.trans x2) (x1.2 u n2) h2 r2)⟩
/-- the built-in names that the module leaves as they are -/
structure Bf (mg : Str → Option Value) : Prop where
  len : mg "len" = none
  isi : mg "isinstance" = none
  abs : mg "abs" = none
  min : mg "min" = none
  max : mg "max" = none
  sum : mg "sum" = none
  all : mg "all" = none
  any : mg "any" = none
  range : mg "range" = none
  zip : mg "zip" = none
  enum : mg "enumerate" = none
  sorted : mg "sorted" = none
  int : mg "int" = none
  bool : mg "bool" = none
  str : mg "str" = none
  list : mg "list" = none
  tuple : mg "tuple" = none
  dict : mg "dict" = none
  set : mg "set" = none
theorem boot_isi : bootBuiltins "isinstance" = some (.builtin "isinstance") := by decide +kernel
theorem boot_abs' : bootBuiltins "abs" = some (.builtin "abs") := by decide +kernel
theorem boot_min' : bootBuiltins "min" = some (.builtin "min") := by decide +kernel
theorem boot_max' : bootBuiltins "max" = some (.builtin "max") := by decide +kernel
theorem boot_sum' : bootBuiltins "sum" = some (.builtin "sum") := by decide +kernel
theorem boot_all' : bootBuiltins "all" = some (.builtin "all") := by decide +kernel
theorem boot_any' : bootBuiltins "any" = some (.builtin "any") := by decide +kernel
theorem boot_sorted' : bootBuiltins "sorted" = some (.builtin "sorted") := by decide +kernel
theorem boot_int' : bootBuiltins "int" = some (.type "int") := by decide +kernel
theorem boot_bool' : bootBuiltins "bool" = some (.type "bool") := by decide +kernel
theorem boot_str' : bootBuiltins "str" = some (.type "str") := by decide +kernel
theorem boot_list' : bootBuiltins "list" = some (.type "list") := by decide +kernel
theorem boot_tuple' : bootBuiltins "tuple" = some (.type "tuple") := by decide +kernel
theorem boot_dict' : bootBuiltins "dict" = some (.type "dict") := by decide +kernel

/-! len -/
def D.size : D → Option Nat
  | .lst xs => some xs.length
  | .tup xs => some xs.length
  | .scr ns => some ns.length
  | _ => none
theorem ed_len {n : Nat} (B : Bf F.X.mg) (ha : Ed F ρ s a x s1) (h : x.size = some n) (hg : Gl F.X "len" := by rfl) (he : starEach [a] F.X.env = (false, eval a F.X.env) :: starEach [] F.X.env := by rfl) : Ed F ρ s (.Call (.Name "len" p) [a] [] pos) (.int n) s1 :=
  ed_callB call_len_seq B.len boot_len (ea_cons ha ea_nil he) (fun O σ H f vs r Q q => by
    cases r with
    | cons r1 r2 =>
      cases r2
      cases x with
      | lst xs =>
        cases r1 with
        | lst m h1 h2 =>
          obtain rfl : xs.length = n := Option.some.inj h
          refine ⟨_, _, rfl, .inl (.inl (.inl h1)), ?_⟩
          rw [h2.length]
          exact q _ _ f .refl (.int _)
      | tup xs =>
        cases r1 with
        | tup h1 h2 =>
          obtain rfl : xs.length = n := Option.some.inj h
          refine ⟨_, _, rfl, .inr h1.sq, ?_⟩
          rw [h2.length]
          exact q _ _ f .refl (.int _)
      | scr ns =>
        cases r1 with
        | scr h1 =>
          obtain rfl : ns.length = n := Option.some.inj h
          refine ⟨_, _, rfl, .inl h1.sq, ?_⟩
          rw [List.length_map]
          exact q _ _ f .refl (.int _)
      | _ => cases h) hg (by decide) (by decide) he rfl
theorem ed_abs {i : Int} (B : Bf F.X.mg) (ha : Ed F ρ s a (.int i) s1) (hg : Gl F.X "abs" := by rfl) (he : starEach [a] F.X.env = (false, eval a F.X.env) :: starEach [] F.X.env := by rfl) : Ed F ρ s (.Call (.Name "abs" p) [a] [] pos) (.int i.natAbs) s1 :=
  ed_callB call_abs B.abs boot_abs' (ea_cons ha ea_nil he) (fun O σ H f vs r Q q => by
    cases r with
    | cons r1 r2 =>
      cases r2; cases r1
      refine ⟨i, rfl, ?_⟩
      have e : (if i < 0 then -i else i) = (i.natAbs : Int) := by split <;> omega
      rw [e]
      exact q _ _ f .refl (.int _)) hg (by decide) (by decide) he rfl
theorem ed_intI {i : Int} (B : Bf F.X.mg) (ha : Ed F ρ s a (.int i) s1) (hg : Gl F.X "int" := by rfl) (he : starEach [a] F.X.env = (false, eval a F.X.env) :: starEach [] F.X.env := by rfl) : Ed F ρ s (.Call (.Name "int" p) [a] [] pos) (.int i) s1 :=
  ed_callTy call_int1 B.int boot_int' (ea_cons ha ea_nil he) (fun O σ H f vs r Q q => by
    cases r with
    | cons r1 r2 => cases r2; cases r1; exact .inl ⟨i, rfl, q _ _ f .refl (.int _)⟩) hg (by decide) (by decide) he rfl
theorem ed_max2 {i j : Int} (B : Bf F.X.mg) (hc : F.X.calm = true) (ha : Ed F ρ s a (.int i) s1) (hb : Ed F ρ s1 b (.int j) s2) (hg : Gl F.X "max" := by rfl) (he : starEach [a, b] F.X.env = (false, eval a F.X.env) :: starEach [b] F.X.env := by rfl) (hf : starEach [b] F.X.env = (false, eval b F.X.env) :: starEach [] F.X.env := by rfl) (hpl : (backTo pos (starEach [b] F.X.env)).any (·.1) = false := by rfl) :
    Ed F ρ s (.Call (.Name "max" p) [a, b] [] pos) (.int (max i j)) s2 :=
  ed_callB (call_max2 hc) B.max boot_max' (ea_cons ha (ea_cons hb ea_nil hf) he) (fun O σ H f vs r Q q => by
    cases r with
    | cons r1 r2 =>
      cases r2 with
      | cons r2 r3 =>
        cases r3; cases r1; cases r2
        refine ⟨i, j, rfl, ?_⟩
        have e : (if j > i then j else i) = max i j := by split <;> omega
        rw [e]
        exact q _ _ f .refl (.int _)) hg (by decide) (by decide) he hpl
theorem ed_min2 {i j : Int} (B : Bf F.X.mg) (hc : F.X.calm = true) (ha : Ed F ρ s a (.int i) s1) (hb : Ed F ρ s1 b (.int j) s2) (hg : Gl F.X "min" := by rfl) (he : starEach [a, b] F.X.env = (false, eval a F.X.env) :: starEach [b] F.X.env := by rfl) (hf : starEach [b] F.X.env = (false, eval b F.X.env) :: starEach [] F.X.env := by rfl) (hpl : (backTo pos (starEach [b] F.X.env)).any (·.1) = false := by rfl) :
    Ed F ρ s (.Call (.Name "min" p) [a, b] [] pos) (.int (min i j)) s2 :=
  ed_callB (call_min2 hc) B.min boot_min' (ea_cons ha (ea_cons hb ea_nil hf) he) (fun O σ H f vs r Q q => by
    cases r with
    | cons r1 r2 =>
      cases r2 with
      | cons r2 r3 =>
        cases r3; cases r1; cases r2
        refine ⟨i, j, rfl, ?_⟩
        have e : (if j < i then j else i) = min i j := by split <;> omega
        rw [e]
        exact q _ _ f .refl (.int _)) hg (by decide) (by decide) he hpl
theorem ed_sum {ns : List Int} (B : Bf F.X.mg) (hc : F.X.calm = true) (ha : Ed F ρ s a (.lst (ns.map D.int)) s1) (hg : Gl F.X "sum" := by rfl) (he : starEach [a] F.X.env = (false, eval a F.X.env) :: starEach [] F.X.env := by rfl) : Ed F ρ s (.Call (.Name "sum" p) [a] [] pos) (.int ns.sum) s1 :=
  ed_callB (cr_sum hc) B.sum boot_sum' (ea_cons ha ea_nil he) (fun O σ H f vs r Q q => by
    cases r with
    | cons r1 r2 =>
      cases r2
      cases r1 with
      | lst m h1 h2 =>
        have e := h2.ints
        subst e
        exact ⟨_, ns, rfl, .inl (.inl h1), q _ _ f .refl (.int _)⟩) hg (by decide) (by decide) he rfl
theorem ed_all {bs : List Bool} (B : Bf F.X.mg) (hc : F.X.calm = true) (ha : Ed F ρ s a (.lst (bs.map D.bl)) s1) (hg : Gl F.X "all" := by rfl) (he : starEach [a] F.X.env = (false, eval a F.X.env) :: starEach [] F.X.env := by rfl) : Ed F ρ s (.Call (.Name "all" p) [a] [] pos) (.bl (bs.all id)) s1 :=
  ed_callB (cr_all hc) B.all boot_all' (ea_cons ha ea_nil he) (fun O σ H f vs r Q q => by
    cases r with
    | cons r1 r2 =>
      cases r2
      cases r1 with
      | lst m h1 h2 =>
        have e := h2.bls
        subst e
        exact ⟨_, bs, rfl, .inl (.inl h1), q _ _ f .refl (.bl _)⟩) hg (by decide) (by decide) he rfl
theorem ed_any {bs : List Bool} (B : Bf F.X.mg) (hc : F.X.calm = true) (ha : Ed F ρ s a (.lst (bs.map D.bl)) s1) (hg : Gl F.X "any" := by rfl) (he : starEach [a] F.X.env = (false, eval a F.X.env) :: starEach [] F.X.env := by rfl) : Ed F ρ s (.Call (.Name "any" p) [a] [] pos) (.bl (bs.any id)) s1 :=
  ed_callB (cr_any hc) B.any boot_any' (ea_cons ha ea_nil he) (fun O σ H f vs r Q q => by
    cases r with
    | cons r1 r2 =>
      cases r2
      cases r1 with
      | lst m h1 h2 =>
        have e := h2.bls
        subst e
        exact ⟨_, bs, rfl, .inl (.inl h1), q _ _ f .refl (.bl _)⟩) hg (by decide) (by decide) he rfl
/-! list(x), tuple(x) -/
theorem el_listOf (B : Bf F.X.mg) (ha : Ed F ρ s a x s1) (h : x = .lst xs ∨ x = .tup xs) (hg : Gl F.X "list" := by rfl) (he : starEach [a] F.X.env = (false, eval a F.X.env) :: starEach [] F.X.env := by rfl) : El F ρ s (.Call (.Name "list" p) [a] [] pos) xs s1 :=
  el_callTy call_list_of B.list boot_list' (ea_cons ha ea_nil he) (fun O σ H f vs r Q q => by
    cases r with
    | cons r1 r2 =>
      cases r2
      rcases h with rfl | rfl
      · cases r1 with
        | lst m h1 h2 => exact ⟨_, _, rfl, .inl (.inl (.inl h1)), fun l n => q l _ _ (f.newO n) (.new n) n upd_same ((h2.fresh n).ext (.new n))⟩
      · cases r1 with
        | tup h1 h2 => exact ⟨_, _, rfl, .inr h1.sq, fun l n => q l _ _ (f.newO n) (.new n) n upd_same ((h2.fresh n).ext (.new n))⟩) hg (by decide) (by decide) he rfl
theorem ed_tupleOf (B : Bf F.X.mg) (ha : Ed F ρ s a x s1) (h : x = .lst xs ∨ x = .tup xs) (hg : Gl F.X "tuple" := by rfl) (he : starEach [a] F.X.env = (false, eval a F.X.env) :: starEach [] F.X.env := by rfl) : Ed F ρ s (.Call (.Name "tuple" p) [a] [] pos) (.tup xs) s1 :=
  ed_callTy call_tuple_of B.tuple boot_tuple' (ea_cons ha ea_nil he) (fun O σ H f vs r Q q => by
    cases r with
    | cons r1 r2 =>
      cases r2
      rcases h with rfl | rfl
      · cases r1 with
        | lst m h1 h2 => exact ⟨_, _, rfl, .inl ⟨.inl (.inl h1), fun l n => q _ _ (f.new n) (.new n) (.tup (.inl ⟨f.fresh n, .inl upd_same⟩) (h2.ext (.new n)))⟩⟩
      · cases r1 with
        | tup h1 h2 => exact ⟨_, _, rfl, .inr ⟨h1.sq, q _ _ f .refl (.tup h1 h2)⟩⟩) hg (by decide) (by decide) he rfl
end
end Gh
set_option Elab.async false
set_option linter.all false
set_option maxRecDepth 100000
namespace Gh
open PySem PySem.Spec PyProof.Rows L2
/-! isinstance -/
inductive Kn where
  | none | bool | int | str | list | tuple | dict
  deriving DecidableEq
def Kn.name : Kn → String
  | .none => "NoneType" | .bool => "bool" | .int => "int" | .str => "str" | .list => "list" | .tuple => "tuple" | .dict => "dict"
def D.kind : D → Option Kn
  | .non => some .none | .bl _ => some .bool | .int _ => some .int | .str _ => some .str | .lst _ => some .list | .scr _ => some .list | .tup _ => some .tuple | .emp => some .dict
  | .mut => Option.none | .ref _ => Option.none | .ty _ => Option.none
/-- is what is of the first kind of the second class -/
def isK : Kn → Kn → Bool
  | .none, .none => true | .bool, .bool => true | .bool, .int => true | .int, .int => true | .str, .str => true | .list, .list => true | .tuple, .tuple => true | .dict, .dict => true
  | _, _ => false
theorem kit_isK {K : PySem.W.Frag} (k c : Kn) (hc : c ≠ .none) : PySem.W.kitOne K (.type k.name) (.type c.name) = some (isK k c) := by
  refine kit_ty ?_
  cases k <;> cases c <;> first | exact absurd rfl hc | decide +kernel
theorem kitAny_isK {K : PySem.W.Frag} (k : Kn) : ∀ (cs : List Kn), (∀ c ∈ cs, c ≠ .none) → PySem.W.kitAny K (.type k.name) (cs.map fun c => Value.type c.name) = some (cs.any (isK k))
  | [], _ => rfl
  | c :: cs, h => by
    have h1 := kit_isK (K := K) k c (h c List.mem_cons_self)
    have h2 := kitAny_isK (K := K) k cs fun d m => h d (List.mem_cons_of_mem _ m)
    refine kitAny_cons h1 (fun e => ?_) fun e => ?_
    · rw [h2, List.any_cons, e, Bool.false_or]
    · rw [List.any_cons, e, Bool.true_or]
theorem sqK_list {K : PySem.W.Frag} {a : Addr} {xs : List V} (h : SqL K (fun _ => none) a xs) : ∃ o, K.lookup a = some o ∧ o.cls = .type "list" := by
  rcases h with h | ⟨o, _, _, h1, h2, _⟩
  · exact (rd_none h).elim
  · exact ⟨o, h1, h2⟩
theorem sqK_tup {K : PySem.W.Frag} {a : Addr} {xs : List V} (h : SqT K (fun _ => none) a xs) : ∃ o, K.lookup a = some o ∧ o.cls = .type "tuple" := by
  rcases h with h | ⟨o, _, _, h1, h2, _⟩
  · exact (rd_none h).elim
  · exact ⟨o, h1, h2⟩
theorem tyx_of {K : PySem.W.Frag} {p : Addr} {S : List Addr} {H : Hp} {v : V} {d : D} {k : Kn} (r : Rp K p S H v d) (h : d.kind = some k) : TyX K H v (.type k.name) := by
  cases r with
  | non => cases h; exact .base .non
  | bl b => cases h; exact .base (.bl b)
  | int i => cases h; exact .base (.int i)
  | str x => cases h; exact .base (.str x)
  | lst m h1 h2 => cases h; exact .base (.lst h1)
  | scr h1 =>
    cases h
    rcases h1 with ⟨_, h1 | ⟨o, h1⟩⟩ | h1
    · exact .base (.lst h1)
    · exact .base (.frz h1)
    · obtain ⟨o, e, c⟩ := sqK_list h1
      exact .kList e c
  | tup h1 h2 =>
    cases h
    rcases h1 with ⟨_, h1 | ⟨o, h1⟩⟩ | h1
    · exact .base (.tup h1)
    · exact .fTuple h1
    · obtain ⟨o, e, c⟩ := sqK_tup h1
      exact .kTuple e c
  | emp m h1 => cases h; exact .base (.dK h1)
  | _ => cases h
section
variable {F : Fx} {ρ : List G} {s s1 s2 s3 : Sx} {a b c e : Expr} {es rest : List Expr} {x y z d : D} {xs zs ds : List D} {pos p : Pos} {k l : Bool}
/-- a class's name -/
def Cn (F : Fx) (e : Expr) (c : Kn) : Prop := ∀ ρ s, Ed F ρ s e (.ty c.name) s
theorem cn_list (B : Bf F.X.mg) (hg : Gl F.X "list" := by rfl) : Cn F (.Name "list" p) .list := fun ρ s => ed_ty hg B.list boot_list'
theorem cn_tuple (B : Bf F.X.mg) (hg : Gl F.X "tuple" := by rfl) : Cn F (.Name "tuple" p) .tuple := fun ρ s => ed_ty hg B.tuple boot_tuple'
theorem cn_int (B : Bf F.X.mg) (hg : Gl F.X "int" := by rfl) : Cn F (.Name "int" p) .int := fun ρ s => ed_ty hg B.int boot_int'
theorem cn_bool (B : Bf F.X.mg) (hg : Gl F.X "bool" := by rfl) : Cn F (.Name "bool" p) .bool := fun ρ s => ed_ty hg B.bool boot_bool'
theorem cn_str (B : Bf F.X.mg) (hg : Gl F.X "str" := by rfl) : Cn F (.Name "str" p) .str := fun ρ s => ed_ty hg B.str boot_str'
theorem cn_dict (B : Bf F.X.mg) (hg : Gl F.X "dict" := by rfl) : Cn F (.Name "dict" p) .dict := fun ρ s => ed_ty hg B.dict boot_dict'
/-- isinstance(a, T) -/
theorem ed_isi {t : Expr} {c k : Kn} (B : Bf F.X.mg) (ha : Ed F ρ s a x s1) (hk : x.kind = some k) (ht : Cn F t c) (hc : c ≠ .none := by decide) (hg : Gl F.X "isinstance" := by rfl) (he : starEach [a, t] F.X.env = (false, eval a F.X.env) :: starEach [t] F.X.env := by rfl)
    (hf : starEach [t] F.X.env = (false, eval t F.X.env) :: starEach [] F.X.env := by rfl) (hpl : (backTo pos (starEach [t] F.X.env)).any (·.1) = false := by rfl) : Ed F ρ s (.Call (.Name "isinstance" p) [a, t] [] pos) (.bl (isK k c)) s1 :=
  ed_callB call_isi B.isi boot_isi (ea_cons ha (ea_cons (ht ρ s1) ea_nil hf) he) (fun O σ H f vs r Q q => by
    cases r with
    | cons r1 r2 =>
      cases r2 with
      | cons r2 r3 =>
        cases r3; cases r2
        exact ⟨_, _, _, _, isK k c, rfl, .ty _, tyx_of r1 hk, kit_isK k c hc, q _ _ f .refl (.bl _)⟩) hg (by decide) (by decide) he hpl
/-- (T1, T2, ..): the names of classes -/
inductive Cns (F : Fx) : List Expr → List Kn → Prop
  | nil : Cns F [] []
  | cons {t : Expr} {ts : List Expr} {c : Kn} {cs : List Kn} : Cn F t c → starEach (t :: ts) F.X.env = (false, eval t F.X.env) :: starEach ts F.X.env → Cns F ts cs → Cns F (t :: ts) (c :: cs)
theorem Cns.ea {ts : List Expr} {cs : List Kn} (h : Cns F ts cs) : ∀ ρ s, Ea F ρ s ts (cs.map fun c => D.ty c.name) s := by
  induction h with
  | nil => intro ρ s; exact ea_nil
  | cons h1 h2 h3 ih => intro ρ s; exact ea_cons (h1 ρ s) (ih ρ s) h2
theorem rps_tys {K : PySem.W.Frag} {q : Addr} {S : List Addr} {H : Hp} : ∀ {cs : List Kn} {vs : List V}, Rps K q S H vs (cs.map fun c => D.ty c.name) → Paired ClsV vs (cs.map fun c => Value.type c.name)
  | [], _, h => by cases h; exact .nil
  | c :: cs, _, h => by
    cases h with
    | cons h1 h2 => cases h1; exact .cons (.ty _) (rps_tys h2)
theorem rps_len {K : PySem.W.Frag} {q : Addr} {S : List Addr} {H : Hp} {cs : List Kn} {vs : List V} (h : Rps K q S H vs (cs.map fun c => D.ty c.name)) : vs.length = cs.length := by rw [h.length, List.length_map]
theorem ed_isiT {ts : List Expr} {cs : List Kn} {k : Kn} {kk} {tpos : Pos} (B : Bf F.X.mg) (ha : Ed F ρ s a x s1) (hk : x.kind = some k) (ht : Cns F ts cs) (hc : ∀ c ∈ cs, c ≠ .none := by decide) (hl : cs.length ≤ sizeLine := by decide) (hg : Gl F.X "isinstance" := by rfl)
    (he : starEach [a, .Tuple ts kk tpos] F.X.env = (false, eval a F.X.env) :: starEach [.Tuple ts kk tpos] F.X.env := by rfl)
    (hf : starEach [.Tuple ts kk tpos] F.X.env = (false, eval (.Tuple ts kk tpos) F.X.env) :: starEach [] F.X.env := by rfl) (hpl : (backTo pos (starEach [.Tuple ts kk tpos] F.X.env)).any (·.1) = false := by rfl) :
    Ed F ρ s (.Call (.Name "isinstance" p) [a, .Tuple ts kk tpos] [] pos) (.bl (cs.any (isK k))) s1 :=
  ⟨ha.1, fun O σ H f Q q => we (pe_callB call_isiT hg B.isi boot_isi (pa_cons pe_we (pa_cons (pe_tup pa_wa) pa_nil hf) he) (by decide) (by decide) he hpl) (ha.2 O σ H f _ fun v H1 f1 x1 r1 =>
    (ht.ea ρ s1).2 O σ H1 f1 _ fun vs H2 f2 x2 r2 => ⟨by rw [rps_len r2]; exact hl, fun t n => ⟨v, t, vs, _, _, cs.any (isK k), rfl, upd_same, rps_tys r2, tyx_of ((r1.ext x2.xt).ext (.new n)) hk, kitAny_isK k cs hc, q _ _ (f2.new n) ((x1.trans x2).trans (.new n)) (.bl _)⟩⟩)⟩
theorem cns_nil : Cns F [] [] := .nil
theorem cns_cons {t : Expr} {ts : List Expr} {c : Kn} {cs : List Kn} (h1 : Cn F t c) (h2 : Cns F ts cs) (h : starEach (t :: ts) F.X.env = (false, eval t F.X.env) :: starEach ts F.X.env := by rfl) : Cns F (t :: ts) (c :: cs) := .cons h1 h h2
end

/-! ### calls of defs -/
/-- a def's promise: for these data, this state of the stream: that, and that state behind -/
def spOf (K : PySem.W.Frag) (ds : List D) (s : Sx) (d : D) (s' : Sx) : Sp := fun vs H Q _ => ∃ (p : Addr) (S : List Addr), Rps K p S H vs ds ∧ (∀ a ∈ S, ∃ o, H a = some o) ∧ StA p S H s ∧
  ∀ v H', Rp K p S H' v d → XP p s H H' → StA p S H' s' → Q v H'
structure En where
  P : Program
  w : World
  K : PySem.W.Frag
  mg : Str → Option Value
  base : Heap
/-- the def f, called with these data, hands back that -/
structure Rn (E : En) (k : Nat) (f : Str) (ds : List D) (s : Sx) (d : D) (s' : Sx) : Prop where
  kd : s.isSome = s'.isSome
  ok : ∃ fa fd ps, E.mg f = some (.ref fa) ∧ PySem.W.keepIn E.K (.ref fa) = true ∧ Binds E.K fd ps [] ∧ FnOk E.P E.w E.K E.mg E.base CX0 k fa fd ps (spOf E.K ds s d s')
abbrev Fx.en (F : Fx) : En := ⟨F.X.prog, F.X.w, F.X.K, F.X.mg, F.X.base⟩
theorem Rn.is {E : En} {k : Nat} {f : Str} {ds : List D} {s s' : Sx} {d d' : D} (r : Rn E k f ds s d s') (h : d = d') : Rn E k f ds s d' s' := h ▸ r
theorem Rn.mono {E : En} {j k : Nat} {f : Str} {ds : List D} {s s' : Sx} {d : D} (r : Rn E j f ds s d s') (h : j ≤ k) : Rn E k f ds s d s' := by
  obtain ⟨kd, fa, fd, ps, h1, h2, h3, h4⟩ := r
  exact ⟨kd, fa, fd, ps, h1, h2, h3, h4.mono h⟩
section
variable {F : Fx} {ρ : List G} {s s1 s2 s3 : Sx} {e : Expr} {es : List Expr} {d : D} {ds : List D} {pos p : Pos}
theorem ed_call {f : Str} {k : Nat} (R : Rn F.en k f ds s1 d s2) (hr : Room k F.X.A) (ha : Ea F ρ s (e :: es) ds s1) (hg : Gl F.X f := by rfl) (hdb : (f == ("__debug__" : Str)) = false := by decide)
    (he : starEach (e :: es) F.X.env = (false, eval e F.X.env) :: starEach es F.X.env := by rfl) (hpl : (backTo pos (starEach es F.X.env)).any (·.1) = false := by rfl) : Ed F ρ s (.Call (.Name f p) (e :: es) [] pos) d s2 := by
  obtain ⟨kd, fa, fd, ps, h1, h2, h3, h4⟩ := R
  refine ⟨ha.1.trans kd, fun O σ H fm Q q => we (pe_call h4 hr hg h1 h2 h3 .nil pass0 pa_wa hdb he hpl) (ha.2 O σ H fm _ fun vs H1 f1 x1 r1 => ?_)⟩
  rw [List.append_nil]
  refine ⟨F.p, O ++ F.S0, r1, f1.trk, ?_, fun v H2 r2 x2 t2 => ?_⟩
  · have q := f1.st
    cases s1 with
    | none => trivial
    | some ys => exact ⟨List.mem_append_right _ q.1, q.2⟩
  · have t3 : StA F.p F.S0 H2 s2 := by
      have q := f1.st
      cases s2 with
      | none => trivial
      | some ys =>
        cases s1 with
        | none => cases kd
        | some zs => exact ⟨q.1, t2.2⟩
    exact q v H2 (f1.grow x2 kd t3) (x1.trans (x2.xe f1.st f1.kd)) r2
theorem ed_call0 {f : Str} {k : Nat} (R : Rn F.en k f [] s d s2) (hr : Room k F.X.A) (hg : Gl F.X f := by rfl) (hdb : (f == ("__debug__" : Str)) = false := by decide) : Ed F ρ s (.Call (.Name f p) [] [] pos) d s2 := by
  obtain ⟨kd, fa, fd, ps, h1, h2, h3, h4⟩ := R
  refine ⟨kd, fun O σ H fm Q q => we (pe_call0 h4 hr hg h1 h2 h3 .nil pass0 hdb) ?_⟩
  refine ⟨F.p, O ++ F.S0, .nil, fm.trk, ?_, fun v H2 r2 x2 t2 => ?_⟩
  · have q := fm.st
    cases s with
    | none => trivial
    | some ys => exact ⟨List.mem_append_right _ q.1, q.2⟩
  · have t3 : StA F.p F.S0 H2 s2 := by
      have q := fm.st
      cases s2 with
      | none => trivial
      | some ys =>
        cases s with
        | none => cases kd
        | some zs => exact ⟨q.1, t2.2⟩
    exact q v H2 (fm.grow x2 kd t3) (x2.xe fm.st fm.kd) r2
end

/-! ### statements -/
structure GE where
  nx : List G → Sx → Prop
  rt : D → Sx → Prop
  bk : List G → Sx → Prop := fun _ _ => False
  ct : List G → Sx → Prop := fun _ _ => False
/-- from a block's start to its end: data are kept, owned ones that came are new -/
structure Step (F : Fx) (O : List Addr) (H : Hp) (O' : List Addr) (H' : Hp) : Prop where
  xt : XT (O ++ F.S0) H H'
  gr : ∀ a ∈ O', a ∈ O ∨ H a = none
theorem Step.refl {F : Fx} {O : List Addr} {H : Hp} : Step F O H O H := ⟨.refl, fun _ m => .inl m⟩
theorem Step.of {F : Fx} {O : List Addr} {H H' : Hp} (x : XT (O ++ F.S0) H H') : Step F O H O H' := ⟨x, fun _ m => .inl m⟩
theorem Step.trans {F : Fx} {O O1 O2 : List Addr} {H H1 H2 : Hp} (a : Step F O H O1 H1) (b : Step F O1 H1 O2 H2) : Step F O H O2 H2 := by
  refine ⟨⟨fun x o n h => b.xt.1 x o (fun m => ?_) (a.xt.1 x o n h), fun x h => a.xt.2 x (b.xt.2 x h)⟩, fun x m => ?_⟩
  · rcases List.mem_append.mp m with m | m
    · rcases a.gr x m with m | z
      · exact n (List.mem_append_left _ m)
      · rw [z] at h; cases h
    · exact n (List.mem_append_right _ m)
  · rcases b.gr x m with m | z
    · exact a.gr x m
    · exact .inr (a.xt.2 x z)
structure GE.ok (k : GE) (F : Fx) (O : List Addr) (H : Hp) (E : Ends) : Prop where
  nx : ∀ O' σ' H' ρ' s', Fm F O' σ' H' ρ' s' → Step F O H O' H' → k.nx ρ' s' → E.nx σ' H'
  rt : ∀ v H d s, Rp F.X.K F.p F.S0 H v d → XP F.p s F.H0 H → StA F.p F.S0 H s → k.rt d s → E.rt v H
  bk : ∀ O' σ' H' ρ' s', Fm F O' σ' H' ρ' s' → Step F O H O' H' → k.bk ρ' s' → E.bk σ' H'
  ct : ∀ O' σ' H' ρ' s', Fm F O' σ' H' ρ' s' → Step F O H O' H' → k.ct ρ' s' → E.ct σ' H'
theorem GE.ok.to {k : GE} {F : Fx} {O O1 : List Addr} {H H1 : Hp} {E : Ends} (h : k.ok F O H E) (t : Step F O H O1 H1) : k.ok F O1 H1 E :=
  ⟨fun O' σ' H' ρ' s' f st q => h.nx O' σ' H' ρ' s' f (t.trans st) q, h.rt, fun O' σ' H' ρ' s' f st q => h.bk O' σ' H' ρ' s' f (t.trans st) q, fun O' σ' H' ρ' s' f st q => h.ct O' σ' H' ρ' s' f (t.trans st) q⟩
/-- the block, from these names' data, ends as k says -/
def Bk (F : Fx) (sts : List Stmt) (ρ : List G) (s : Sx) (k : GE) : Prop := ∀ O σ H, Fm F O σ H ρ s → ∀ E : Ends, k.ok F O H E → WB F.X sts E σ H
def Bs (F : Fx) (st : Stmt) (ρ : List G) (s : Sx) (k : GE) : Prop := ∀ O σ H, Fm F O σ H ρ s → ∀ E : Ends, k.ok F O H E → WS F.X st E σ H
section
variable {F : Fx} {ρ : List G} {s s1 s2 s3 : Sx} {c e : Expr} {es : List Expr} {d : D} {ds : List D} {pos p : Pos} {k : GE} {st : Stmt} {sts : List Stmt}
theorem bk_nil (h : k.nx ρ s) : Bk F [] ρ s k := fun O σ H f E q => wb pss_nil (q.nx O σ H ρ s f .refl h)
theorem bk_cons (h1 : Bs F st ρ s { k with nx := fun ρ' s' => Bk F sts ρ' s' k }) : Bk F (st :: sts) ρ s k := fun O σ H f E q => wb (pss_cons ps_ws pss_wb) (h1 O σ H f _
  ⟨fun O' σ' H' ρ' s' f' st h' => h' O' σ' H' f' E (q.to st), q.rt, q.bk, q.ct⟩)
theorem bs_pass (h : k.nx ρ s) : Bs F (.Pass pos) ρ s k := fun O σ H f E q => ws ps_pass (q.nx O σ H ρ s f .refl h)
theorem bs_break (h : k.bk ρ s) : Bs F (.Break pos) ρ s k := fun O σ H f E q => ws ps_break (q.bk O σ H ρ s f .refl h)
theorem bs_continue (h : k.ct ρ s) : Bs F (.Continue pos) ρ s k := fun O σ H f E q => ws ps_continue (q.ct O σ H ρ s f .refl h)
theorem bs_ret (h : Ed F ρ s e d s1) (hk : k.rt d s1) : Bs F (.Return (some e) pos) ρ s k := fun O σ H f E q => ws (ps_ret pe_we) (h.2 O σ H f _ fun v H1 f1 x1 r1 =>
  q.rt v H1 d s1 (r1.weak fun a m => List.mem_append_right _ m) f1.ext f1.st hk)
theorem bs_retN (hk : k.rt .non s) : Bs F (.Return none pos) ρ s k := fun O σ H f E q => ws ps_retN (q.rt .non H .non s .non f.ext f.st hk)
theorem bs_expr (h : Ed F ρ s e d s1) (hk : k.nx ρ s1) (hs : swapsWith e none pos.line F.X.env = pure false := by rfl) : Bs F (.Expr e pos) ρ s k := fun O σ H f E q => ws (ps_expr pe_we hs) (h.2 O σ H f _ fun v H1 f1 x1 r1 => q.nx O σ H1 ρ s1 f1 (.of x1.xt) hk)
theorem bs_ifT {a b : List Stmt} (hc : Et F ρ s c true s1) (h : Bk F a ρ s1 k) : Bs F (.If c a b pos) ρ s k := fun O σ H f E q => ws (ps_if pt_wt pss_wb pss_wb) (hc.2 O σ H f _ fun H1 f1 x1 => iteT (h O σ H1 f1 E (q.to (.of x1.xt))))
theorem bs_ifF {a b : List Stmt} (hc : Et F ρ s c false s1) (h : Bk F b ρ s1 k) : Bs F (.If c a b pos) ρ s k := fun O σ H f E q => ws (ps_if pt_wt pss_wb pss_wb) (hc.2 O σ H f _ fun H1 f1 x1 => iteF (h O σ H1 f1 E (q.to (.of x1.xt))))
theorem bs_if {a b : List Stmt} {t : Bool} (hc : Et F ρ s c t s1) (h1 : t = true → Bk F a ρ s1 k) (h2 : t = false → Bk F b ρ s1 k) : Bs F (.If c a b pos) ρ s k := by
  cases t with
  | true => exact bs_ifT hc (h1 rfl)
  | false => exact bs_ifF hc (h2 rfl)
/-- a name gets data -/
theorem Fm.set {O : List Addr} {σ : L2.St} {H : Hp} {v : V} {i : Nat} (f : Fm F O σ H ρ s) (r : Rp F.X.K F.p (O ++ F.S0) H v d) : Fm F O (σ.set i (some v)) H (ρ.set i (.val d)) s := by
  have key : ∀ (j : Nat) (g : G), (ρ.set i (.val d))[j]? = some g → (j = i ∧ g = .val d ∧ j < ρ.length) ∨ (j ≠ i ∧ ρ[j]? = some g) := fun j g h => by
    by_cases e : i = j
    · subst e
      by_cases hl : i < ρ.length
      · rw [List.getElem?_set_self hl] at h; exact .inl ⟨rfl, (Option.some.inj h).symm, hl⟩
      · rw [List.getElem?_eq_none (by simpa using hl)] at h; cases h
    · rw [List.getElem?_set_ne e] at h; exact .inr ⟨fun z => e z.symm, h⟩
  have own : ∀ (j : Nat) (es : List D), (ρ.set i (.val d))[j]? = some (.own es) → j ≠ i ∧ ρ[j]? = some (.own es) := fun j es h => by
    rcases key j _ h with ⟨_, z, _⟩ | q
    · cases z
    · exact q
  refine ⟨f.ext, fun j g hg => ?_, fun j es a hg ha => ?_, fun j l es fs a hne h1 h2 h3 => ?_, f.fre, f.trk, f.st, f.kd⟩
  · rcases key j g hg with ⟨rfl, rfl, hl⟩ | ⟨hne, hg⟩
    · have : j < σ.length := by
        have hx : ρ[j]? = some ρ[j] := List.getElem?_eq_getElem hl
        obtain ⟨o, ho, _⟩ := f.slot j _ hx
        exact (List.getElem?_eq_some_iff.mp ho).1
      exact ⟨some v, List.getElem?_set_self this, v, rfl, r⟩
    · obtain ⟨o, ho, q⟩ := f.slot j g hg
      exact ⟨o, by rw [List.getElem?_set_ne (Ne.symm hne)]; exact ho, q⟩
  · obtain ⟨hne, hg⟩ := own j es hg
    rw [List.getElem?_set_ne (Ne.symm hne)] at ha
    exact f.own j es a hg ha
  · obtain ⟨n1, h1⟩ := own j es h1
    obtain ⟨n2, h2⟩ := own l fs h2
    rw [List.getElem?_set_ne (Ne.symm n1)] at h3
    rw [List.getElem?_set_ne (Ne.symm n2)]
    exact f.dis j l es fs a hne h1 h2 h3
theorem bs_set (i : Nat) {x : Str} {pos' : Pos} (hN : F.X.N.Nodup) (hi : F.X.N[i]? = some x) (hx : Loc F.X.env.scope x) (h : Ed F ρ s e d s1) (hk : k.nx (ρ.set i (.val d)) s1) (hs : swapsWith e (some (.Name x pos')) pos.line F.X.env = pure false := by rfl)
    (hf : F.X.fn x = true ∨ F.X.env.scope.names.lookup x = some .local := by first | exact .inl rfl | exact .inr rfl | assumption) : Bs F (.Assign [.Name x pos'] e pos) ρ s k :=
  fun O σ H f E q => ws (ps_set hN hi hx pe_we hs hf) (h.2 O σ H f _ fun v H1 f1 x1 r1 => q.nx O _ H1 _ s1 (f1.set r1) (.of x1.xt) hk)
end

/-! ### a def's body -/
/-- the data at the entry -/
def gStart (N : List Str) (ds : List D) : List G := ds.map G.val ++ List.replicate (N.length - ds.length) .no
theorem fm_start {F : Fx} {N : List Str} {vs : List V} {ds : List D} {s : Sx} (r : Rps F.X.K F.p F.S0 F.H0 vs ds) (tr : ∀ a ∈ F.S0, ∃ o, F.H0 a = some o) (t : StA F.p F.S0 F.H0 s) (kd : s.isSome = F.act) : Fm F [] (L2.start N vs) F.H0 (gStart N ds) s := by
  have hl := r.length
  have no : ∀ (i : Nat) (es : List D), (gStart N ds)[i]? ≠ some (.own es) := fun i es h => by
    unfold gStart at h
    by_cases hi : i < ds.length
    · rw [List.getElem?_append_left (by simpa using hi), List.getElem?_map] at h
      cases e : ds[i]? with
      | none => rw [e] at h; cases h
      | some z => rw [e] at h; cases h
    · rw [List.getElem?_append_right (by simpa using hi), List.getElem?_replicate] at h
      split at h <;> cases h
  refine ⟨.refl, fun i g hg => ?_, fun i es a h => absurd h (no i es), fun i j es fs a _ h => absurd h (no i es), fun a m => absurd m (by simp), fun a m => tr a (by simpa using m), t, kd⟩
  unfold gStart at hg
  unfold L2.start
  by_cases hi : i < ds.length
  · rw [List.getElem?_append_left (by simpa using hi), List.getElem?_map] at hg
    rw [List.getElem?_append_left (by simpa [hl] using hi), List.getElem?_map]
    cases e : ds[i]? with
    | none => rw [e] at hg; cases hg
    | some z =>
      rw [e] at hg
      cases hg
      obtain ⟨v, e1, e2⟩ := r.get e
      exact ⟨some v, by rw [e1]; rfl, v, rfl, by simpa using e2⟩
  · rw [List.getElem?_append_right (by simpa using hi), List.getElem?_replicate] at hg
    rw [List.getElem?_append_right (by simpa [hl] using hi), List.getElem?_replicate]
    simp only [List.length_map] at hg ⊢
    rw [hl]
    split at hg
    · cases hg
      exact ⟨none, by simp_all, trivial⟩
    · cases hg
section
variable {E : En}
/-- THE RULE for a def: the body's context is cxOf ..; the entry's data and state; what is handed back -/
theorem rn_of {x : Str} {st : Stmt} {fa : Addr} {fd : FuncData} {N ps : List Str} {k : Nat} {ds : List D} {s s' : Sx} {d : D} (T : Fun E.K x x st fa fd) (S : FnScope N ps (defScope st)) (hm : E.mg x = some (.ref fa)) (hb : Binds E.K fd ps []) (kd : s.isSome = s'.isSome) (hl : ds.length = ps.length)
    (body : ∀ (cdv : Value) (A : Around) (outer : List Env) (sh : Shared) (H0 : Hp) (EX : XK) (S0 : List Addr) (p : Addr), Room k (A.deeper (envOfC x (defScope st) sh.heap.objs.size fa cdv)) →
      Bk ⟨(cxOf CX0 E.P E.w E.K E.mg E.base N x (defScope st) fa cdv A outer sh H0 EX).nox, H0, S0, p, s.isSome⟩ (defBody st) (gStart N ds) s ⟨fun _ t => d = .non ∧ t = s', fun r t => r = d ∧ t = s', fun _ _ => False, fun _ _ => False⟩) : Rn E (k + 1) x ds s d s' := by
  refine ⟨kd, fa, fd, ps, hm, T.kp, hb, T.ok S (fun vs H Q EX h => ?_) fun cdv A outer sh H vs Q EX hr h => ?_⟩
  · obtain ⟨p, S, r, _⟩ := h
    rw [r.length, hl]
  · obtain ⟨p, S0, r, tr, t, q⟩ := h
    refine ⟨_, pss_wb, body cdv A outer sh H EX S0 p hr [] (L2.start N vs) H (fm_start (F := ⟨(cxOf CX0 E.P E.w E.K E.mg E.base N x (defScope st) fa cdv A outer sh H EX).nox, H, S0, p, s.isSome⟩) r tr t rfl) _ ⟨fun O σ H' ρ t' f st h => ?_, fun v H' r' t' rv xp ta h => ?_, fun O σ H' ρ t' f st h => h.elim, fun O σ H' ρ t' f st h => h.elim⟩⟩
    · obtain ⟨rfl, rfl⟩ := h
      exact q .non H' .non (f.ext.kind kd.symm) f.st
    · obtain ⟨rfl, rfl⟩ := h
      exact q v H' rv (xp.kind kd.symm) ta
end
end Gh
set_option Elab.async false
set_option linter.all false
set_option maxRecDepth 100000
namespace Gh
open PySem PySem.Spec PyProof.Rows L2
/-! ### operators by data -/
/-- what a op b is worth -/
def D.bin : Operator → D → D → Option D
  | .Add, .int i, .int j => some (.int (i + j))
  | .Sub, .int i, .int j => some (.int (i - j))
  | .Mult, .int i, .int j => some (.int (i * j))
  | .FloorDiv, .int i, .int j => some (.int (i / j))
  | .Mod, .int i, .int j => some (.int (i % j))
  | .Pow, .int i, .int j => some (.int (i ^ j.toNat))
  | .Add, .tup xs, .tup ys => some (.tup (xs ++ ys))
  | .Add, .str x, .str y => some (.str (x ++ y))
  | _, _, _ => none
/-- what it asks -/
def D.binC : Operator → D → D → Prop
  | .Mult, .int i, .int j => CMulW i j
  | .FloorDiv, .int i, .int j => CDivW i j
  | .Mod, .int _, .int j => 0 < j
  | .Pow, .int i, .int j => CPow i j
  | .Add, .tup xs, .tup ys => xs ≠ [] ∧ xs.length + ys.length ≤ sizeLine
  | .Add, .str x, .str y => x.length + y.length ≤ sizeLine
  | _, _, _ => True
section
variable {F : Fx} {ρ : List G} {s s1 s2 s3 : Sx} {a b c e : Expr} {es rest : List Expr} {x y z d : D} {xs ys zs ds : List D} {pos p : Pos} {k l : Bool}
theorem ed_addT (hx : xs ≠ []) (hl : xs.length + ys.length ≤ sizeLine) (ha : Ed F ρ s a (.tup xs) s1) (hb : Ed F ρ s1 b (.tup ys) s2) : Ed F ρ s (.BinOp a .Add b pos) (.tup (xs ++ ys)) s2 :=
  ed_op op_catT ha hb fun O σ H f v w r1 r2 Q q => by
    cases r1 with
    | tup h1 h2 =>
      cases r2 with
      | tup h3 h4 =>
        refine ⟨_, _, _, _, rfl, rfl, h1.sq, h3.sq, fun z => hx ?_, by rw [h2.length, h4.length]; exact hl, fun z => ?_, fun z t n => ?_⟩
        · subst z; cases h2; rfl
        · subst z; cases h4; rw [List.append_nil] at q; exact q _ _ f .refl (.tup h1 h2)
        · exact q _ _ (f.new n) (.new n) (.tup (.inl ⟨f.fresh n, .inl upd_same⟩) ((h2.append h4).ext (.new n)))
theorem ed_addS {i j : Str} (hl : i.length + j.length ≤ sizeLine) (ha : Ed F ρ s a (.str i) s1) (hb : Ed F ρ s1 b (.str j) s2) : Ed F ρ s (.BinOp a .Add b pos) (.str (i ++ j)) s2 :=
  ed_op op_add_str ha hb fun O σ H f v w r1 r2 Q q => by cases r1; cases r2; exact ⟨i, j, rfl, rfl, hl, q _ _ f .refl (.str _)⟩
theorem ed_bin {op : Operator} (ha : Ed F ρ s a x s1) (hb : Ed F ρ s1 b y s2) (h : D.bin op x y = some z) (hc : D.binC op x y) : Ed F ρ s (.BinOp a op b pos) z s2 := by
  unfold D.bin at h
  split at h
  all_goals first | cases h | skip
  · exact ed_add ha hb
  · exact ed_sub ha hb
  · exact ed_mulW hc ha hb
  · exact ed_fdiv hc ha hb
  · exact ed_mod hc ha hb
  · exact ed_pow hc ha hb
  · exact ed_addT hc.1 hc.2 ha hb
  · exact ed_addS hc ha hb
/-- a new list by + and * -/
theorem el_cat (hl : xs.length + ys.length ≤ sizeLine) (ha : Ed F ρ s a (.lst xs) s1) (hb : Ed F ρ s1 b (.lst ys) s2) : El F ρ s (.BinOp a .Add b pos) (xs ++ ys) s2 :=
  el_op op_cat ha hb fun O σ H f v w r1 r2 Q q => by
    cases r1 with
    | lst m1 h1 h2 =>
      cases r2 with
      | lst m3 h3 h4 => exact ⟨_, _, _, _, rfl, rfl, h1, h3, by rw [h2.length, h4.length]; exact hl, fun t n => q t _ _ (f.newO n) (.new n) n upd_same (((h2.append h4).fresh n).ext (.new n))⟩
theorem rps_rep {K : PySem.W.Frag} {q : Addr} {S : List Addr} {H : Hp} {vs : List V} (r : Rps K q S H vs xs) : ∀ n : Nat, Rps K q S H (List.replicate n vs).flatten (List.replicate n xs).flatten
  | 0 => .nil
  | n + 1 => by rw [List.replicate_succ, List.replicate_succ, List.flatten_cons, List.flatten_cons]; exact r.append (rps_rep r n)

/-! ### comparisons by data -/
mutual
def D.py : D → PyData
  | .non => .none
  | .bl b => .bool b
  | .int i => .int i
  | .str x => .str x
  | .lst xs => .list (D.pys xs)
  | .tup xs => .tuple (D.pys xs)
  | .scr ns => .list (ns.map PyData.int)
  | _ => .dict []
def D.pys : List D → List PyData
  | [] => []
  | x :: xs => x.py :: D.pys xs
end
mutual
/-- None, truths, ints, texts, and lists and tuples of these -/
def D.pure : D → Bool
  | .non => true
  | .bl _ => true
  | .int _ => true
  | .str _ => true
  | .lst xs => D.pures xs
  | .tup xs => D.pures xs
  | .scr _ => true
  | _ => false
def D.pures : List D → Bool
  | [] => true
  | x :: xs => x.pure && D.pures xs
end
section
variable {K : PySem.W.Frag} {q : Addr} {S : List Addr} {H : Hp}
theorem dpAll_ints : ∀ ns : List Int, DpAll K H (ns.map V.int) (ns.map PyData.int)
  | [] => .nil
  | n :: ns => .cons (.int n) (dpAll_ints ns)
mutual
theorem Rp.dp : ∀ (d : D) (v : V), Rp K q S H v d → d.pure = true → Dp K H v d.py
  | .non, _, h, _ => by cases h; unfold D.py; exact .non
  | .bl _, _, h, _ => by cases h; unfold D.py; exact .bl _
  | .int _, _, h, _ => by cases h; unfold D.py; exact .int _
  | .str _, _, h, _ => by cases h; unfold D.py; exact .str _
  | .lst xs, _, h, p => by
    cases h with
    | lst m h1 h2 => unfold D.py; exact .lst (.inl (.inl h1)) (Rps.dp xs _ h2 (by unfold D.pure at p; exact p))
  | .tup xs, _, h, p => by
    cases h with
    | tup h1 h2 => unfold D.py; exact .tup h1.sq (Rps.dp xs _ h2 (by unfold D.pure at p; exact p))
  | .scr ns, _, h, p => by
    cases h with
    | scr h1 => unfold D.py; exact .lst h1.sq (dpAll_ints ns)
  | .emp, _, _, p => by unfold D.pure at p; cases p
  | .mut, _, _, p => by unfold D.pure at p; cases p
  | .ref _, _, _, p => by unfold D.pure at p; cases p
  | .ty _, _, _, p => by unfold D.pure at p; cases p
theorem Rps.dp : ∀ (ds : List D) (vs : List V), Rps K q S H vs ds → D.pures ds = true → DpAll K H vs (D.pys ds)
  | [], _, h, _ => by cases h; unfold D.pys; exact .nil
  | d :: ds, _, h, p => by
    cases h with
    | cons h1 h2 =>
      unfold D.pures at p
      obtain ⟨p1, p2⟩ := Bool.and_eq_true_iff.mp p
      unfold D.pys
      exact .cons (Rp.dp d _ h1 p1) (Rps.dp ds _ h2 p2)
end
end
/-- what == asks of both sides -/
def D.eqC (x : D) : Prop := x.pure = true ∧ SeqAt.shaped x.py = true
def D.eqb (x y : D) : Bool := PyData.eqv x.py y.py
theorem cp_eq {n : Nat} (hr : Room n F.X.A) (ha : Ed F ρ s a x s1) (hb : Ed F ρ s1 b y s2) (hx : x.eqC) (hy : y.eqC) : Cp F ρ s .Eq a b (x.eqb y) s2 :=
  cp_of (op_eqD hr.units) ha hb (fun O σ H f v w r1 r2 Q q => ⟨_, _, Rp.dp x v r1 hx.1, Rp.dp y w r2 hy.1, hx.2, hy.2, q _ _ f .refl (.bl _)⟩) (nomark _)
theorem cp_ne {n : Nat} (hr : Room n F.X.A) (ha : Ed F ρ s a x s1) (hb : Ed F ρ s1 b y s2) (hx : x.eqC) (hy : y.eqC) : Cp F ρ s .NotEq a b (!x.eqb y) s2 :=
  cp_of (op_neD hr.units) ha hb (fun O σ H f v w r1 r2 Q q => ⟨_, _, Rp.dp x v r1 hx.1, Rp.dp y w r2 hy.1, hx.2, hy.2, q _ _ f .refl (.bl _)⟩) (nomark _)
def D.isNon : D → Bool
  | .non => true
  | _ => false
theorem rp_non {K : PySem.W.Frag} {q : Addr} {S : List Addr} {H : Hp} {v : V} (r : Rp K q S H v x) : decide (v = .non) = x.isNon := by cases r <;> rfl
theorem cp_isN {j} {p2 : Pos} (ha : Ed F ρ s a x s1) : Cp F ρ s .Is a (.Constant .none j p2) x.isNon s1 :=
  cp_of op_isN ha ed_non (fun O σ H f v w r1 r2 Q q => by cases r2; exact ⟨rfl, by rw [rp_non r1]; exact q _ _ f .refl (.bl _)⟩) (nomark _)
theorem cp_notN {j} {p2 : Pos} (ha : Ed F ρ s a x s1) : Cp F ρ s .IsNot a (.Constant .none j p2) (!x.isNon) s1 :=
  cp_of op_notN ha ed_non (fun O σ H f v w r1 r2 Q q => by cases r2; exact ⟨rfl, by rw [rp_non r1]; exact q _ _ f .refl (.bl _)⟩) (nomark _)
/-! in: flat things in a list or tuple of flat things -/
def D.flat : D → Option V
  | .non => some .non
  | .bl b => some (.bl b)
  | .int i => some (.int i)
  | .str x => some (.str x)
  | _ => none
def D.flats : List D → Option (List V)
  | [] => some []
  | x :: xs => match x.flat, D.flats xs with
    | some v, some vs => some (v :: vs)
    | _, _ => none
theorem rp_flat {K : PySem.W.Frag} {q : Addr} {S : List Addr} {H : Hp} {v w : V} (r : Rp K q S H v x) (h : x.flat = some w) : v = w ∧ flatV w = true := by
  cases r <;> first | (cases h; exact ⟨rfl, rfl⟩) | cases h
theorem rps_flat {K : PySem.W.Frag} {q : Addr} {S : List Addr} {H : Hp} : ∀ {xs : List D} {vs ws : List V}, Rps K q S H vs xs → D.flats xs = some ws → vs = ws ∧ ws.all flatV = true
  | [], _, _, r, h => by cases r; cases h; exact ⟨rfl, rfl⟩
  | x :: xs, _, _, r, h => by
    cases r with
    | cons r1 r2 =>
      unfold D.flats at h
      cases e1 : x.flat with
      | none => rw [e1] at h; cases h
      | some w =>
        cases e2 : D.flats xs with
        | none => rw [e1, e2] at h; cases h
        | some ws =>
          rw [e1, e2] at h
          cases h
          obtain ⟨h1, h2⟩ := rp_flat r1 e1
          obtain ⟨h3, h4⟩ := rps_flat r2 e2
          subst h1 h3
          exact ⟨rfl, by rw [List.all_cons, h2, h4]; rfl⟩
theorem cp_in {w : V} {ws : List V} (ha : Ed F ρ s a x s1) (hb : Ed F ρ s1 b y s2) (hy : y = .lst ys ∨ y = .tup ys) (hx : x.flat = some w) (hys : D.flats ys = some ws) (hm : behindInMarks .In b = false := by rfl) : Cp F ρ s .In a b (inV w ws) s2 :=
  cp_of op_in_seq ha hb (fun O σ H f v u r1 r2 Q q => by
    obtain ⟨e1, h1⟩ := rp_flat r1 hx
    subst e1
    rcases hy with rfl | rfl
    · cases r2 with
      | lst m h2 h3 =>
        obtain ⟨e2, h4⟩ := rps_flat h3 hys
        subst e2
        exact ⟨_, _, rfl, .inl (.inl (.inl h2)), h1, h4, q _ _ f .refl (.bl _)⟩
    · cases r2 with
      | tup h2 h3 =>
        obtain ⟨e2, h4⟩ := rps_flat h3 hys
        subst e2
        exact ⟨_, _, rfl, .inr h2.sq, h1, h4, q _ _ f .refl (.bl _)⟩) hm
theorem cp_notIn {w : V} {ws : List V} (ha : Ed F ρ s a x s1) (hb : Ed F ρ s1 b y s2) (hy : y = .lst ys ∨ y = .tup ys) (hx : x.flat = some w) (hys : D.flats ys = some ws) (hm : behindInMarks .NotIn b = false := by rfl) : Cp F ρ s .NotIn a b (!inV w ws) s2 :=
  cp_of op_notIn_seq ha hb (fun O σ H f v u r1 r2 Q q => by
    obtain ⟨e1, h1⟩ := rp_flat r1 hx
    subst e1
    rcases hy with rfl | rfl
    · cases r2 with
      | lst m h2 h3 =>
        obtain ⟨e2, h4⟩ := rps_flat h3 hys
        subst e2
        exact ⟨_, _, rfl, .inl (.inl (.inl h2)), h1, h4, q _ _ f .refl (.bl _)⟩
    · cases r2 with
      | tup h2 h3 =>
        obtain ⟨e2, h4⟩ := rps_flat h3 hys
        subst e2
        exact ⟨_, _, rfl, .inr h2.sq, h1, h4, q _ _ f .refl (.bl _)⟩) hm
/-! items by data -/
def D.at (x : D) (i : Int) : Option D := match x with
  | .lst xs => atI xs i
  | .tup xs => atI xs i
  | .scr ns => (atI ns i).map D.int
  | _ => none
theorem ed_ix {i : Int} (ha : Ed F ρ s a x s1) (hb : Ed F ρ s1 b (.int i) s2) (h : x.at i = some d) (hs : PlainIx b := by exact fun _ _ => rfl) : Ed F ρ s (.Subscript a b pos) d s2 := by
  cases x with
  | lst xs => exact ed_ixL ha hb h hs
  | tup xs => exact ed_ixT ha hb h hs
  | scr ns =>
    have h : (atI ns i).map D.int = some d := h
    cases e : atI ns i with
    | none => rw [e] at h; cases h
    | some n => rw [e] at h; cases h; exact ed_ixS ha hb e hs
  | _ => cases h
/-! slices -/
def cutD {α : Type} (xs : List α) (lo hi : Option Int) : List α := (xs.drop (HT.sIx xs.length 0 lo)).take (HT.sIx xs.length xs.length hi - HT.sIx xs.length 0 lo)
theorem rps_cut {K : PySem.W.Frag} {q : Addr} {S : List Addr} {H : Hp} {vs : List V} (r : Rps K q S H vs xs) (lo hi : Option Int) : Rps K q S H (cutV vs lo hi) (cutD xs lo hi) := by
  unfold cutV cutD
  rw [r.length]
  exact (r.drop _).take _
/-- a slice's end -/
inductive Eo (F : Fx) (ρ : List G) (s : Sx) : Option Expr → Option Int → Sx → Prop
  | none : Eo F ρ s none none s
  | some {e : Expr} {i : Int} {s1 : Sx} : Ed F ρ s e (.int i) s1 → Eo F ρ s (some e) (some i) s1
theorem el_slice {lo hi : Option Expr} {i j : Option Int} {p2 : Pos} (ha : Ed F ρ s a (.lst xs) s1) (hl : Eo F ρ s1 lo i s2) (hh : Eo F ρ s2 hi j s3) : El F ρ s (.Subscript a (.Slice lo hi none p2) pos) (cutD xs i j) s3 := by
  have fin : ∀ O σ H H3, Fm F O σ H ρ s → Fm F O σ H3 ρ s3 → XE F H H3 → ∀ v, Rp F.X.K F.p (O ++ F.S0) H3 v (.lst xs) → ∀ Q : VK, (∀ a vs H', Fm F (a :: O) σ H' ρ s3 → XE F H H' → H a = none → H' a = some (.lst vs) → Rps F.X.K F.p (a :: (O ++ F.S0)) H' vs (cutD xs i j) → Q (.ref a) H') → rSlL F.X.K v i j H3 Q := by
    intro O σ H H3 f f3 x3 v r Q q
    cases r with
    | lst m h1 h2 => exact ⟨_, _, rfl, .inl (.inl h1), fun t n => q t _ _ (f3.newO n) (x3.trans (.new n)) (x3.2 t n) upd_same (((rps_cut h2 i j).fresh n).ext (.new n))⟩
  cases hl with
  | none =>
    cases hh with
    | none => exact ⟨ha.1, fun O σ H f Q q => we (pe_slice sl_list pe_we po_none po_none) (ha.2 O σ H f _ fun v H1 f1 x1 r1 => fin O σ H H1 f f1 x1 v r1 Q q)⟩
    | some hb => exact ⟨ha.1.trans hb.1, fun O σ H f Q q => we (pe_slice sl_list pe_we po_none (po_some pe_we)) (ha.2 O σ H f _ fun v H1 f1 x1 r1 => hb.2 O σ H1 f1 _ fun w H2 f2 x2 r2 => by
        cases r2; exact ⟨_, rfl, fin O σ H H2 f f2 (x1.trans x2) v (r1.ext x2.xt) Q q⟩)⟩
  | some hc =>
    cases hh with
    | none => exact ⟨ha.1.trans hc.1, fun O σ H f Q q => we (pe_slice sl_list pe_we (po_some pe_we) po_none) (ha.2 O σ H f _ fun v H1 f1 x1 r1 => hc.2 O σ H1 f1 _ fun w H2 f2 x2 r2 => by
        cases r2; exact ⟨_, rfl, fin O σ H H2 f f2 (x1.trans x2) v (r1.ext x2.xt) Q q⟩)⟩
    | some hb => exact ⟨(ha.1.trans hc.1).trans hb.1, fun O σ H f Q q => we (pe_slice sl_list pe_we (po_some pe_we) (po_some pe_we)) (ha.2 O σ H f _ fun v H1 f1 x1 r1 => hc.2 O σ H1 f1 _ fun w H2 f2 x2 r2 => by
        cases r2
        exact ⟨_, rfl, hb.2 O σ H2 f2 _ fun w H3 f3 x3 r3 => by cases r3; exact ⟨_, rfl, fin O σ H H3 f f3 ((x1.trans x2).trans x3) v ((r1.ext x2.xt).ext x3.xt) Q q⟩⟩)⟩
end
end Gh
set_option Elab.async false
set_option linter.all false
set_option maxRecDepth 100000
namespace Gh
open PySem PySem.Spec PyProof.Rows L2
/-! ### what is walked -/
def WI (X : Cx) (tg iter : Expr) : TI := fun σ H R => ∀ pins s, Inv X pins σ H s →
  wpAny (model X.prog X.w) X.A (eval iter X.env) (fun v s1 => wpAny (model X.prog X.w) X.A (pyIter v) (PIE X pins σ tg R) X.xe s1) X.xe s
theorem pi_wi {X : Cx} {tg iter : Expr} : PI X tg iter (WI X tg iter) := ⟨fun pins s _ _ _ I h => h pins s I⟩
theorem wi {X : Cx} {tg iter : Expr} {w : TI} {σ : L2.St} {H : Hp} {R : It → Hp → Prop} (p : PI X tg iter w) (h : w σ H R) : WI X tg iter σ H R := fun pins s I => p.run pins s σ H R I h
/-- at each turn the next of these data, whatever else has come to the heap; it holds none of what is owned then -/
def Yd (F : Fx) (O : List Addr) (H1 : Hp) (items : List D) : Nat → Hp → V → Hp → Prop := fun i H x H' => (∀ a o, H a = some o → H' a = some o) ∧
  ∃ d, items[i]? = some d ∧ ∀ O' : List Addr, (∀ a ∈ O', (a ∈ O ∨ H1 a = none) ∧ ∃ o, H a = some o) → Rp F.X.K F.p (O' ++ F.S0) H' x d
def Ei (F : Fx) (ρ : List G) (s : Sx) (tg iter : Expr) (items : List D) (s' : Sx) : Prop :=
  s.isSome = s'.isSome ∧ ∀ O σ H, Fm F O σ H ρ s → ∀ R : It → Hp → Prop, (∀ J H', Fm F O σ H' ρ s' → XE F H H' → Walk J items.length (fun H2 => XT (O ++ F.S0) H' H2) (Yd F O H' items) → R J H') → WI F.X tg iter σ H R
theorem rp_later {F : Fx} {O O' : List Addr} {H1 H2 : Hp} {v : V} {d : D} (r : Rp F.X.K F.p (O ++ F.S0) H1 v d) (x : XT (O ++ F.S0) H1 H2) (h : ∀ a ∈ O', a ∈ O ∨ H1 a = none) : Rp F.X.K F.p (O' ++ F.S0) H2 v d := by
  have r1 : Rp F.X.K F.p (O ++ (O' ++ F.S0)) H1 v d := r.to fun b m => by
    rcases List.mem_append.mp m with m | m
    · exact .inl (List.mem_append_left _ m)
    · rcases List.mem_append.mp m with m | m
      · exact (h b m).imp (fun m => List.mem_append_left _ m) id
      · exact .inl (List.mem_append_right _ m)
  refine (r1.ext (x.mono fun a m => ?_)).weak fun a m => List.mem_append_right _ m
  rcases List.mem_append.mp m with m | m
  · exact List.mem_append_left _ m
  · exact List.mem_append_right _ (List.mem_append_right _ m)
section
variable {F : Fx} {ρ : List G} {s s1 s2 s3 : Sx} {tg a b e : Expr} {es : List Expr} {x y d : D} {xs ys ds items : List D} {pos p : Pos}
theorem all_ext {H H' : Hp} : H' = H → ∀ a o, H a = some o → H' a = some o := fun e a o h => by rw [e]; exact h
theorem ei_seq (ha : Ed F ρ s a x s1) (hx : x = .lst xs ∨ x = .tup xs) : Ei F ρ s tg a xs s1 := by
  rcases hx with rfl | rfl
  · refine ⟨ha.1, fun O σ H f R q => wi (pi_list pe_we) (ha.2 O σ H f _ fun v H1 f1 x1 r1 => ?_)⟩
    cases r1 with
    | lst m h1 h2 =>
      refine ⟨_, rfl, ⟨_, .inl (.inl h1)⟩, q _ _ f1 x1 ?_⟩
      rw [← h2.length]
      refine walk_list.mono (fun H2 x2 => .inl (.inl (x2.1 _ _ m h1))) fun i H2 z H3 hi x2 y => ?_
      obtain ⟨e, y⟩ := y
      subst e
      obtain ⟨d, e1, e2⟩ := h2.getV y
      exact ⟨fun _ _ h => h, d, e1, fun O' g => rp_later e2 x2 fun a m => (g a m).1⟩
  · refine ⟨ha.1, fun O σ H f R q => wi (pi_tup pe_we) (ha.2 O σ H f _ fun v H1 f1 x1 r1 => ?_)⟩
    cases r1 with
    | tup h1 h2 =>
      refine ⟨_, rfl, ⟨_, h1.sq⟩, q _ _ f1 x1 ?_⟩
      rw [← h2.length]
      refine walk_tup.mono (fun H2 x2 => ?_) fun i H2 z H3 hi x2 y => ?_
      · rcases h1 with ⟨m, h1⟩ | h1
        · exact .inl (rd_ext x2 m h1)
        · exact (SU.sq (S := []) (.inr h1))
      · obtain ⟨e, y⟩ := y
        subst e
        obtain ⟨d, e1, e2⟩ := h2.getV y
        exact ⟨fun _ _ h => h, d, e1, fun O' g => rp_later e2 x2 fun a m => (g a m).1⟩
theorem ei_scr {ns : List Int} (ha : Ed F ρ s a (.scr ns) s1) : Ei F ρ s tg a (ns.map D.int) s1 := by
  refine ⟨ha.1, fun O σ H f R q => wi (pi_list pe_we) (ha.2 O σ H f _ fun v H1 f1 x1 r1 => ?_)⟩
  cases r1 with
  | scr h1 =>
    refine ⟨_, rfl, ⟨_, h1.sq⟩, q _ _ f1 x1 ?_⟩
    have hl : (ns.map D.int).length = (ns.map V.int).length := by simp
    rw [hl]
    refine walk_list.mono (fun H2 x2 => ?_) fun i H2 z H3 hi x2 y => ?_
    · rcases h1 with ⟨m, h1⟩ | h1
      · exact .inl (rd_ext x2 m h1)
      · exact (SL.sq (S := []) (.inr h1))
    · obtain ⟨e, y⟩ := y
      subst e
      rw [List.getElem?_map] at y
      cases e : ns[i]? with
      | none => rw [e] at y; cases y
      | some n =>
        rw [e] at y
        cases y
        exact ⟨fun _ _ h => h, .int n, by rw [List.getElem?_map, e]; rfl, fun _ _ => .int n⟩
/-- lo, lo + 1, .. -/
def rangeD (lo : Int) (n : Nat) : List D := (List.range n).map fun (i : Nat) => D.int (lo + i)
theorem rangeD_get {lo : Int} {n i : Nat} (h : i < n) : (rangeD lo n)[i]? = some (.int (lo + i)) := by
  unfold rangeD
  rw [List.getElem?_map, List.getElem?_range h]
  rfl
theorem rangeD_length {lo : Int} {n : Nat} : (rangeD lo n).length = n := by simp [rangeD]
theorem ei_range1 {j : Int} (B : Bf F.X.mg) (ha : Ed F ρ s a (.int j) s1) (h1 : -(2 ^ 62) ≤ j) (h2 : j < 2 ^ 62) (hg : Gl F.X "range" := by rfl) (he : starEach [a] F.X.env = [(false, eval a F.X.env)] := by rfl) : Ei F ρ s tg (.Call (.Name "range" p) [a] [] pos) (rangeD 0 j.toNat) s1 := by
  refine ⟨ha.1, fun O σ H f R q => wi (pi_range1 hg B.range (pa_cons pe_we pa_nil (by rw [he]; rfl)) he) (ha.2 O σ H f _ fun v H1 f1 x1 r1 => ?_)⟩
  cases r1
  refine ⟨j, rfl, h1, h2, q _ _ f1 x1 ?_⟩
  rw [rangeD_length]
  refine walk_range.mono (fun _ _ => trivial) fun i H2 z H3 hi x2 y => ?_
  obtain ⟨e, rfl⟩ := y
  subst e
  exact ⟨fun _ _ h => h, _, rangeD_get hi, fun _ _ => .int _⟩
theorem ei_range2 {i j : Int} (B : Bf F.X.mg) (ha : Ed F ρ s a (.int i) s1) (hb : Ed F ρ s1 b (.int j) s2) (h : -(2 ^ 62) ≤ i ∧ i < 2 ^ 62 ∧ -(2 ^ 62) ≤ j ∧ j < 2 ^ 62) (hg : Gl F.X "range" := by rfl) (he : starEach [a, b] F.X.env = [(false, eval a F.X.env), (false, eval b F.X.env)] := by rfl) (he2 : starEach [b] F.X.env = [(false, eval b F.X.env)] := by rfl) :
    Ei F ρ s tg (.Call (.Name "range" p) [a, b] [] pos) (rangeD i (j - i).toNat) s2 := by
  refine ⟨ha.1.trans hb.1, fun O σ H f R q => wi (pi_range2 hg B.range (pa_cons pe_we (pa_cons pe_we pa_nil (by rw [he2]; rfl)) (by rw [he, he2])) he he2) (ha.2 O σ H f _ fun v H1 f1 x1 r1 => hb.2 O σ H1 f1 _ fun w H2 f2 x2 r2 => ?_)⟩
  cases r1
  cases r2
  refine ⟨i, j, rfl, h, q _ _ f2 (x1.trans x2) ?_⟩
  rw [rangeD_length]
  refine walk_range.mono (fun _ _ => trivial) fun i H2 z H3 hi x2 y => ?_
  obtain ⟨e, rfl⟩ := y
  subst e
  exact ⟨fun _ _ h => h, _, rangeD_get hi, fun _ _ => .int _⟩
/-- zip of two lists -/
def zipD (xs ys : List D) : List D := List.zipWith (fun x y => D.tup [x, y]) xs ys
theorem ei_zip {kk : Nat} {tpos : Pos} {elts : List Expr} (B : Bf F.X.mg) (ha : Ed F ρ s a (.lst xs) s1) (hb : Ed F ρ s1 b (.lst ys) s2) (hg : Gl F.X "zip" := by rfl) (he : starEach [a, b] F.X.env = (false, eval a F.X.env) :: starEach [b] F.X.env := by rfl)
    (he2 : starEach [b] F.X.env = (false, eval b F.X.env) :: starEach [] F.X.env := by rfl) (hpl : (backTo pos (starEach [b] F.X.env)).any (·.1) = false := by rfl) : Ei F ρ s (.Tuple elts kk tpos) (.Call (.Name "zip" p) [a, b] [] pos) (zipD xs ys) s2 := by
  refine ⟨ha.1.trans hb.1, fun O σ H f R q => wi (pi_zip hg B.zip (pa_cons pe_we (pa_cons pe_we pa_nil he2) he) he hpl) (ha.2 O σ H f _ fun v H1 f1 x1 r1 => hb.2 O σ H1 f1 _ fun w H2 f2 x2 r2 => ?_)⟩
  cases r1.ext x2.xt with
  | lst m1 h1 h2 =>
    cases r2 with
    | lst m3 h3 h4 =>
      refine ⟨_, _, _, _, rfl, .inl (.inl h1), .inl (.inl h3), q _ _ f2 (x1.trans x2) ?_⟩
      refine (walk_zip (n := (zipD xs ys).length) (by simp [zipD, h2.length, h4.length])).mono (fun H3 x3 => ⟨.inl (.inl (x3.1 _ _ m1 h1)), .inl (.inl (x3.1 _ _ m3 h3))⟩) fun i H3 z H4 hi x3 y => ?_
      obtain ⟨T, u, t, rfl, n, rfl, e1, e2⟩ := y
      obtain ⟨d1, g1, k1⟩ := h2.getV e1
      obtain ⟨d2, g2, k2⟩ := h4.getV e2
      refine ⟨fun c o h => by rw [upd_ne (ne_of_none h n)]; exact h, .tup [d1, d2], by simp [zipD, List.getElem?_zipWith, g1, g2], fun O' g => ?_⟩
      have nT : T ∉ O' ++ F.S0 := fun m => by
        rcases List.mem_append.mp m with m | m
        · obtain ⟨_, o, ho⟩ := g T m
          rw [n] at ho; cases ho
        · exact f2.fresh (x3.2 T n) (List.mem_append_right _ m)
      exact .tup (.inl ⟨nT, .inl upd_same⟩) (.cons ((rp_later k1 x3 fun a m => (g a m).1).ext (.new n)) (.cons ((rp_later k2 x3 fun a m => (g a m).1).ext (.new n)) .nil))
/-- enumerate of a list -/
def enumD (xs : List D) : List D := List.zipWith (fun (i : Nat) x => D.tup [.int i, x]) (List.range xs.length) xs
theorem enumD_length (xs : List D) : (enumD xs).length = xs.length := by simp [enumD]
theorem enumD_get {xs : List D} {i : Nat} {d : D} (h : xs[i]? = some d) : (enumD xs)[i]? = some (.tup [.int i, d]) := by
  have hi : i < xs.length := (List.getElem?_eq_some_iff.mp h).1
  simp [enumD, List.getElem?_zipWith, List.getElem?_range hi, h]
theorem ei_enum {kk : Nat} {tpos : Pos} {elts : List Expr} (B : Bf F.X.mg) (ha : Ed F ρ s a (.lst xs) s1) (hg : Gl F.X "enumerate" := by rfl) (he : starEach [a] F.X.env = [(false, eval a F.X.env)] := by rfl) :
    Ei F ρ s (.Tuple elts kk tpos) (.Call (.Name "enumerate" p) [a] [] pos) (enumD xs) s1 := by
  refine ⟨ha.1, fun O σ H f R q => wi (pi_enum hg B.enum (pa_cons pe_we pa_nil (by rw [he]; rfl)) he) (ha.2 O σ H f _ fun v H1 f1 x1 r1 => ?_)⟩
  cases r1 with
  | lst m1 h1 h2 =>
    refine ⟨_, _, rfl, .inl (.inl h1), q _ _ f1 x1 ?_⟩
    rw [enumD_length, ← h2.length]
    refine walk_enum.mono (fun H3 x3 => .inl (.inl (x3.1 _ _ m1 h1))) fun i H3 z H4 hi x3 y => ?_
    obtain ⟨T, u, t, rfl, n, rfl, e1, e2⟩ := y
    cases e1
    obtain ⟨d2, g2, k2⟩ := h2.getV e2
    refine ⟨fun c o h => by rw [upd_ne (ne_of_none h n)]; exact h, _, enumD_get g2, fun O' g => ?_⟩
    have nT : T ∉ O' ++ F.S0 := fun m => by
      rcases List.mem_append.mp m with m | m
      · obtain ⟨_, o, ho⟩ := g T m
        rw [n] at ho; cases ho
      · exact f1.fresh (x3.2 T n) (List.mem_append_right _ m)
    exact .tup (.inl ⟨nT, .inl upd_same⟩) (.cons (.int _) (.cons ((rp_later k2 x3 fun a m => (g a m).1).ext (.new n)) .nil))
end
end Gh
set_option Elab.async false
set_option linter.all false
set_option maxRecDepth 100000
namespace Gh
open PySem PySem.Spec PyProof.Rows L2
/-! ### a list that is only looked at: of data, or owned -/
def Ev (F : Fx) (ρ : List G) (s : Sx) (e : Expr) (ds : List D) (s' : Sx) : Prop :=
  s.isSome = s'.isSome ∧ ∀ O σ H, Fm F O σ H ρ s → ∀ Q : VK, (∀ a vs H', Fm F O σ H' ρ s' → XE F H H' → H' a = some (.lst vs) → ¬ (F.act = true ∧ a = F.p ∧ a ∈ F.S0) → Rps F.X.K F.p (O ++ F.S0) H' vs ds → Q (.ref a) H') → WE F.X e σ H Q
section
variable {F : Fx} {ρ : List G} {s s1 s2 s3 : Sx} {tg a b c e : Expr} {es : List Expr} {x y d : D} {xs ys ds items : List D} {pos p : Pos} {k : GE}
theorem Ed.ev (h : Ed F ρ s e (.lst ds) s1) : Ev F ρ s e ds s1 := ⟨h.1, fun O σ H f Q q => h.2 O σ H f Q fun v H1 f1 x1 r1 => by
  cases r1 with
  | lst m h1 h2 => exact q _ _ _ f1 x1 h1 (fun z => m (List.mem_append_right _ z.2.2)) h2⟩
theorem El.ev (h : El F ρ s e ds s1) : Ev F ρ s e ds s1 := h.ed.ev
theorem ev_own (i : Nat) {x : Str} (hN : F.X.N[i]? = some x) (hv : Vis F.X.env.scope x) (hρ : ρ[i]? = some (.own ds)) (hd : (x == ("__debug__" : Str)) = false := by decide) (hcd : (x == ("__classdict__" : Str)) = false := by decide) : Ev F ρ s (.Name x pos) ds s :=
  ⟨rfl, fun O σ H f Q q => by
    obtain ⟨o, ho, a, vs, e, m, h, r⟩ := f.slot i _ hρ
    subst e
    exact we (pe_var hN hv hd hcd) ⟨_, ho, q a vs H f .refl h (fun z => (f.fre a (f.own i ds a hρ ho)).2 z.2.2) r⟩⟩
theorem ed_lenV (B : Bf F.X.mg) (ha : Ev F ρ s a xs s1) (hg : Gl F.X "len" := by rfl) (he : starEach [a] F.X.env = (false, eval a F.X.env) :: starEach [] F.X.env := by rfl) : Ed F ρ s (.Call (.Name "len" p) [a] [] pos) (.int xs.length) s1 :=
  ⟨ha.1, fun O σ H f Q q => we (pe_callB call_len_seq hg B.len boot_len (pa_cons pe_we pa_nil he) (by decide) (by decide) he rfl) (ha.2 O σ H f _ fun a vs H1 f1 x1 h1 n r => ⟨_, _, rfl, .inl (.inl (.inl h1)), by rw [r.length]; exact q _ _ f1 x1 (.int _)⟩)⟩
theorem ed_ixV {i : Int} (ha : Ev F ρ s a xs s1) (hb : Ed F ρ s1 b (.int i) s2) (h : atI xs i = some d) (hs : PlainIx b := by exact fun _ _ => rfl) : Ed F ρ s (.Subscript a b pos) d s2 :=
  ⟨ha.1.trans hb.1, fun O σ H f Q q => we (pe_ix ix_list pe_we pe_we hs) (ha.2 O σ H f _ fun a vs H1 f1 x1 h1 n r1 => hb.2 O σ H1 f1 _ fun w H2 f2 x2 r2 => by
    cases r2
    obtain ⟨v, e, r⟩ := atI_rps (r1.ext x2.xt) h
    exact ⟨_, _, i, v, rfl, rfl, .inl (.inl (x2.1 _ _ n h1)), e, q v H2 f2 (x1.trans x2) r⟩)⟩
theorem el_sliceV {lo hi : Option Expr} {i j : Option Int} {p2 : Pos} (ha : Ev F ρ s a xs s1) (hl : Eo F ρ s1 lo i s2) (hh : Eo F ρ s2 hi j s3) : El F ρ s (.Subscript a (.Slice lo hi none p2) pos) (cutD xs i j) s3 := by
  have fin : ∀ O σ H H3, Fm F O σ H ρ s → Fm F O σ H3 ρ s3 → XE F H H3 → ∀ a vs, H3 a = some (.lst vs) → Rps F.X.K F.p (O ++ F.S0) H3 vs xs → ∀ Q : VK, (∀ a vs H', Fm F (a :: O) σ H' ρ s3 → XE F H H' → H a = none → H' a = some (.lst vs) → Rps F.X.K F.p (a :: (O ++ F.S0)) H' vs (cutD xs i j) → Q (.ref a) H') → rSlL F.X.K (.ref a) i j H3 Q := by
    intro O σ H H3 f f3 x3 a vs h1 h2 Q q
    exact ⟨_, _, rfl, .inl (.inl h1), fun t n => q t _ _ (f3.newO n) (x3.trans (.new n)) (x3.2 t n) upd_same (((rps_cut h2 i j).fresh n).ext (.new n))⟩
  cases hl with
  | none =>
    cases hh with
    | none => exact ⟨ha.1, fun O σ H f Q q => we (pe_slice sl_list pe_we po_none po_none) (ha.2 O σ H f _ fun v vs H1 f1 x1 h1 n r1 => fin O σ H H1 f f1 x1 v vs h1 r1 Q q)⟩
    | some hb => exact ⟨ha.1.trans hb.1, fun O σ H f Q q => we (pe_slice sl_list pe_we po_none (po_some pe_we)) (ha.2 O σ H f _ fun v vs H1 f1 x1 h1 n r1 => hb.2 O σ H1 f1 _ fun w H2 f2 x2 r2 => by
        cases r2; exact ⟨_, rfl, fin O σ H H2 f f2 (x1.trans x2) v vs (x2.1 _ _ n h1) (r1.ext x2.xt) Q q⟩)⟩
  | some hc =>
    cases hh with
    | none => exact ⟨ha.1.trans hc.1, fun O σ H f Q q => we (pe_slice sl_list pe_we (po_some pe_we) po_none) (ha.2 O σ H f _ fun v vs H1 f1 x1 h1 n r1 => hc.2 O σ H1 f1 _ fun w H2 f2 x2 r2 => by
        cases r2; exact ⟨_, rfl, fin O σ H H2 f f2 (x1.trans x2) v vs (x2.1 _ _ n h1) (r1.ext x2.xt) Q q⟩)⟩
    | some hb => exact ⟨(ha.1.trans hc.1).trans hb.1, fun O σ H f Q q => we (pe_slice sl_list pe_we (po_some pe_we) (po_some pe_we)) (ha.2 O σ H f _ fun v vs H1 f1 x1 h1 n r1 => hc.2 O σ H1 f1 _ fun w H2 f2 x2 r2 => by
        cases r2
        exact ⟨_, rfl, hb.2 O σ H2 f2 _ fun w H3 f3 x3 r3 => by cases r3; exact ⟨_, rfl, fin O σ H H3 f f3 ((x1.trans x2).trans x3) v vs (x3.1 _ _ n (x2.1 _ _ n h1)) ((r1.ext x2.xt).ext x3.xt) Q q⟩⟩)⟩
theorem el_catV (hl : xs.length + ys.length ≤ sizeLine) (ha : Ev F ρ s a xs s1) (hb : Ev F ρ s1 b ys s2) : El F ρ s (.BinOp a .Add b pos) (xs ++ ys) s2 :=
  ⟨ha.1.trans hb.1, fun O σ H f Q q => we (pe_op op_cat pe_we pe_we) (ha.2 O σ H f _ fun v vs H1 f1 x1 h1 n1 r1 => hb.2 O σ H1 f1 _ fun w ws H2 f2 x2 h2 n2 r2 =>
    ⟨_, _, _, _, rfl, rfl, x2.1 _ _ n1 h1, h2, by rw [r1.length, r2.length]; exact hl, fun t n => q t _ _ (f2.newO n) ((x1.trans x2).trans (.new n)) (x1.2 t (x2.2 t n)) upd_same ((((r1.ext x2.xt).append r2).fresh n).ext (.new n))⟩)⟩
theorem cp_eqV {n : Nat} (hr : Room n F.X.A) (ha : Ev F ρ s a xs s1) (hb : Ev F ρ s1 b ys s2) (hx : (D.lst xs).eqC) (hy : (D.lst ys).eqC) : Cp F ρ s .Eq a b ((D.lst xs).eqb (.lst ys)) s2 :=
  ⟨ha.1.trans hb.1, nomark _, _, op_eqD hr.units, fun O σ H f Q q => ha.2 O σ H f _ fun v vs H1 f1 x1 h1 n1 r1 => hb.2 O σ H1 f1 _ fun w ws H2 f2 x2 h2 n2 r2 =>
    ⟨.list (D.pys xs), .list (D.pys ys), .lst (.inl (.inl (x2.1 _ _ n1 h1))) (Rps.dp xs _ (r1.ext x2.xt) (by have := hx.1; unfold D.pure at this; exact this)), .lst (.inl (.inl h2)) (Rps.dp ys _ r2 (by have := hy.1; unfold D.pure at this; exact this)),
      by have := hx.2; unfold D.py at this; exact this, by have := hy.2; unfold D.py at this; exact this, by
        have e : (D.lst xs).eqb (.lst ys) = PyData.eqv (.list (D.pys xs)) (.list (D.pys ys)) := by unfold D.eqb; rw [D.py.eq_def, D.py.eq_def]
        rw [← e]
        exact q _ f2 (x1.trans x2)⟩⟩
theorem cp_neV {n : Nat} (hr : Room n F.X.A) (ha : Ev F ρ s a xs s1) (hb : Ev F ρ s1 b ys s2) (hx : (D.lst xs).eqC) (hy : (D.lst ys).eqC) : Cp F ρ s .NotEq a b (!(D.lst xs).eqb (.lst ys)) s2 :=
  ⟨ha.1.trans hb.1, nomark _, _, op_neD hr.units, fun O σ H f Q q => ha.2 O σ H f _ fun v vs H1 f1 x1 h1 n1 r1 => hb.2 O σ H1 f1 _ fun w ws H2 f2 x2 h2 n2 r2 =>
    ⟨.list (D.pys xs), .list (D.pys ys), .lst (.inl (.inl (x2.1 _ _ n1 h1))) (Rps.dp xs _ (r1.ext x2.xt) (by have := hx.1; unfold D.pure at this; exact this)), .lst (.inl (.inl h2)) (Rps.dp ys _ r2 (by have := hy.1; unfold D.pure at this; exact this)),
      by have := hx.2; unfold D.py at this; exact this, by have := hy.2; unfold D.py at this; exact this, by
        have e : (D.lst xs).eqb (.lst ys) = PyData.eqv (.list (D.pys xs)) (.list (D.pys ys)) := by unfold D.eqb; rw [D.py.eq_def, D.py.eq_def]
        rw [← e]
        exact q _ f2 (x1.trans x2)⟩⟩


/-! ### targets -/
def WG (X : Cx) (tg : Expr) : TG := fun v σ H Q => ∀ pins s u, Inv X pins σ H s → RelV v u → wpAny (model X.prog X.w) X.A (assign tg X.env u) (fun _ s' => ∃ σ' H', Inv X pins σ' H' s' ∧ Q σ' H') X.xe s
theorem pg_wg {X : Cx} {tg : Expr} : PG X tg (WG X tg) := ⟨fun pins s _ _ _ u _ I r h => h pins s u I r⟩
theorem wg {X : Cx} {tg : Expr} {g : TG} {v : V} {σ : L2.St} {H : Hp} {Q : L2.St → Hp → Prop} (p : PG X tg g) (h : g v σ H Q) : WG X tg v σ H Q := fun pins s u I r => p.run pins s σ H v u Q I r h
def WGs (X : Cx) (ts : List Expr) : TGs := fun vs σ H Q => ∀ pins s us, Inv X pins σ H s → Vals vs us → wpAny (model X.prog X.w) X.A (assignInOrder ((assignEach ts X.env).map (·.2)) us) (fun _ s' => ∃ σ' H', Inv X pins σ' H' s' ∧ Q σ' H') X.xe s
theorem pgs_wgs {X : Cx} {ts : List Expr} : PGs X ts (WGs X ts) := ⟨fun pins s _ _ _ us _ I r h => h pins s us I r⟩
theorem wgs {X : Cx} {ts : List Expr} {g : TGs} {vs : List V} {σ : L2.St} {H : Hp} {Q : L2.St → Hp → Prop} (p : PGs X ts g) (h : g vs σ H Q) : WGs X ts vs σ H Q := fun pins s us I r => p.run pins s σ H vs us Q I r h
/-- tg = a thing worth d: the names' data behind it; js: the slots that are stored -/
def Eg (F : Fx) (tg : Expr) (d : D) (ρ ρ' : List G) (js : List Nat) : Prop := ∀ O σ H v s, Fm F O σ H ρ s → Rp F.X.K F.p (O ++ F.S0) H v d → ∀ Q : L2.St → Hp → Prop,
  (∀ σ', Fm F O σ' H ρ' s → σ'.length = σ.length → (∀ j, j ∉ js → σ'[j]? = σ[j]?) → Q σ' H) → WG F.X tg v σ H Q
def Egs (F : Fx) (ts : List Expr) (ds : List D) (ρ ρ' : List G) (js : List Nat) : Prop := ∀ O σ H vs s, Fm F O σ H ρ s → Rps F.X.K F.p (O ++ F.S0) H vs ds → ∀ Q : L2.St → Hp → Prop,
  (∀ σ', Fm F O σ' H ρ' s → σ'.length = σ.length → (∀ j, j ∉ js → σ'[j]? = σ[j]?) → Q σ' H) → WGs F.X ts vs σ H Q
theorem eg_name (i : Nat) {x : Str} {ρ : List G} (hN : F.X.N.Nodup) (hi : F.X.N[i]? = some x) (hx : Loc F.X.env.scope x) (hf : F.X.fn x = true ∨ F.X.env.scope.names.lookup x = some .local := by first | exact .inl rfl | exact .inr rfl | assumption) : Eg F (.Name x pos) d ρ (ρ.set i (.val d)) [i] :=
  fun O σ H v s f r Q q => wg (pg_name hN hi hx hf) (q _ (f.set r) (by simp) fun j m => by rw [List.getElem?_set_ne (fun z => m (by simp [z]))])
theorem egs_nil {ρ : List G} : Egs F [] [] ρ ρ [] := fun O σ H vs s f r Q q => by
  cases r
  exact wgs pgs_nil ⟨rfl, q σ f rfl fun _ _ => rfl⟩
theorem egs_cons {t : Expr} {ts : List Expr} {ρ ρ1 ρ2 : List G} {js ks : List Nat} (h1 : Eg F t d ρ ρ1 js) (h2 : Egs F ts ds ρ1 ρ2 ks) (hs : (assignEach (t :: ts) F.X.env).map (·.2) = assign t F.X.env :: (assignEach ts F.X.env).map (·.2) := by rfl) : Egs F (t :: ts) (d :: ds) ρ ρ2 (js ++ ks) := fun O σ H vs s f r Q q => by
  cases r with
  | cons r1 r2 =>
    refine wgs (pgs_cons pg_wg pgs_wgs hs) ⟨_, _, rfl, h1 O σ H _ s f r1 _ fun σ1 f1 l1 e1 => h2 O σ1 H _ s f1 r2 _ fun σ2 f2 l2 e2 => q σ2 f2 (l2.trans l1) fun j m => ?_⟩
    rw [e2 j fun z => m (List.mem_append_right _ z), e1 j fun z => m (List.mem_append_left _ z)]
theorem eg_tup {ts : List Expr} {kk : Nat} {ρ ρ' : List G} {js : List Nat} (hc : F.X.calm = true) (h : Egs F ts ds ρ ρ' js) (hn : (assignEach ts F.X.env).length = ds.length := by rfl) (hst : (assignEach ts F.X.env).findIdx? (·.1) = none := by rfl) : Eg F (.Tuple ts kk pos) (.tup ds) ρ ρ' js := fun O σ H v s f r Q q => by
  cases r with
  | tup h1 h2 => exact wg (pg_tup hc pgs_wgs hn hst) ⟨_, _, rfl, h1.sq, h2.length, h O σ H _ s f h2 Q q⟩
/-- tg = e -/
theorem bs_asg {ρ' : List G} {js : List Nat} (h : Ed F ρ s e d s1) (hg : Eg F tg d ρ ρ' js) (hk : k.nx ρ' s1) (hs : swapsWithSole [tg] e pos.line F.X.env = pure false := by rfl) (hw : swappedStores [tg] e F.X.env = pure none := by rfl)
    (h1 : (assignEach [tg] F.X.env).map (·.2) = [assign tg F.X.env] := by rfl) : Bs F (.Assign [tg] e pos) ρ s k :=
  fun O σ H f E q => ws (ps_asg pe_we pg_wg hs hw h1) (h.2 O σ H f _ fun v H1 f1 x1 r1 => hg O σ H1 v s1 f1 r1 _ fun σ' f' _ _ => q.nx O σ' H1 ρ' s1 f' (.of x1.xt) hk)
/-- a, b = e1, e2 -/
theorem bs_par (i j : Nat) {x y : Str} {px py pt : Pos} {kt k2} {pt2 : Pos} {d1 d2 : D} (hc : F.X.calm = true) (hN : F.X.N.Nodup) (hi : F.X.N[i]? = some x) (hj : F.X.N[j]? = some y) (hij : i ≠ j) (hx : F.X.env.scope.names.lookup x = some .local) (hy : F.X.env.scope.names.lookup y = some .local)
    (ha : Ea F ρ s [a, b] [d1, d2] s1) (hk : k.nx ((ρ.set i (.val d1)).set j (.val d2)) s1) (hw : swappedStores [.Tuple [.Name x px, .Name y py] kt pt] (.Tuple [a, b] k2 pt2) F.X.env = pure (some [x, y]) := by rfl) (hs : swapsWithSole [.Tuple [.Name x px, .Name y py] kt pt] (.Tuple [a, b] k2 pt2) pos.line F.X.env = pure false := by rfl) :
    Bs F (.Assign [.Tuple [.Name x px, .Name y py] kt pt] (.Tuple [a, b] k2 pt2) pos) ρ s k :=
  fun O σ H f E q => ws (ps_par hc hN hi hj hij hx hy pa_wa hw hs) (ha.2 O σ H f _ fun vs H1 f1 x1 r1 => by
    cases r1 with
    | cons r1 r2 =>
      cases r2 with
      | cons r2 r3 =>
        cases r3
        exact ⟨_, _, rfl, q.nx O _ H1 _ s1 ((f1.set r1).set r2) (.of x1.xt) hk⟩)

theorem Fm.all {O : List Addr} {σ : L2.St} {H H' : Hp} (f : Fm F O σ H ρ s) (h : ∀ a o, H a = some o → H' a = some o) : Fm F O σ H' ρ s := by
  refine f.grow ⟨fun a o e _ => h a o e, fun a e => ?_⟩ rfl ?_
  · cases e' : H a with
    | none => rfl
    | some o => rw [h a o e'] at e; cases e
  · have q := f.st
    cases s with
    | none => trivial
    | some xs => exact ⟨q.1, h _ _ q.2⟩
theorem xt_all {S : List Addr} {H H' : Hp} (h : ∀ a o, H a = some o → H' a = some o) : XT S H H' := ⟨fun a o _ e => h a o e, fun a e => by
  cases e' : H a with
  | none => rfl
  | some o => rw [h a o e'] at e; cases e⟩
theorem bs_for {body : List Stmt} (hp : PassesOwn (model F.X.prog F.X.w) F.X.A F.X.env F.X.xe) (hc : F.X.calm = true) (hi : Ei F ρ s tg e items s1) (I : Nat → List G → Sx → Prop) (h0 : I 0 ρ s1)
    (turn : ∀ i d ρ' s', items[i]? = some d → I i ρ' s' → ∃ ρ2 js, Eg F tg d ρ' ρ2 js ∧ Bk F body ρ2 s' { nx := I (i + 1), ct := I (i + 1), bk := k.nx, rt := k.rt })
    (hd : ∀ ρ' s', I items.length ρ' s' → k.nx ρ' s') (hs : ∀ x, foldedSetIterable e F.X.env x = pure x := by intro _; rfl) : Bs F (.For tg e body [] pos) ρ s k :=
  fun O σ H f E q => ws (ps_for hp hc pi_wi pg_wg pss_wb hs) (hi.2 O σ H f _ fun J H1 f1 x1 w => by
    refine for_it w (fun i σ' H' => ∃ O' ρ' s', Fm F O' σ' H' ρ' s' ∧ Step F O H1 O' H' ∧ I i ρ' s') ⟨O, ρ, s1, f1, .refl, h0⟩ (fun i σ' H' _ ⟨O', ρ', s', f', t, _⟩ => t.xt) ?_ ?_
    · rintro i v σ' H' H2 hi ⟨O', ρ', s', f', t, iv⟩ ⟨ha, d, hd', hr⟩
      obtain ⟨ρ2, js, hg, hb⟩ := turn i d ρ' s' hd' iv
      have f2 := f'.all ha
      have t2 : Step F O H1 O' H2 := t.trans (.of (xt_all ha))
      refine hg O' σ' H2 v s' f2 (hr O' fun a m => ⟨t.gr a m, f'.trk a (List.mem_append_left _ m)⟩) _ fun σ3 f3 _ _ => hb O' σ3 H2 f3 _ ⟨fun O4 σ4 H4 ρ4 s4 f4 t4 h4 => ⟨O4, ρ4, s4, f4, t2.trans t4, h4⟩, q.rt, fun O4 σ4 H4 ρ4 s4 f4 t4 h4 => ?_, fun O4 σ4 H4 ρ4 s4 f4 t4 h4 => ⟨O4, ρ4, s4, f4, t2.trans t4, h4⟩⟩
      exact q.nx O4 σ4 H4 ρ4 s4 f4 ((Step.of x1.xt).trans (t2.trans t4)) h4
    · rintro σ' H' ⟨O', ρ', s', f', t, iv⟩
      exact q.nx O' σ' H' ρ' s' f' ((Step.of x1.xt).trans t) (hd ρ' s' iv))
theorem bs_while {body : List Stmt} (hp : PassesOwn (model F.X.prog F.X.w) F.X.A F.X.env F.X.xe) (I : List G → Sx → Prop) (μ : List G → Sx → Nat) (h0 : I ρ s)
    (turn : ∀ ρ' s', I ρ' s' → ∃ t s2, Et F ρ' s' c t s2 ∧ (t = true → Bk F body ρ' s2 { nx := fun ρ2 s3 => I ρ2 s3 ∧ μ ρ2 s3 < μ ρ' s', ct := fun ρ2 s3 => I ρ2 s3 ∧ μ ρ2 s3 < μ ρ' s', bk := k.nx, rt := k.rt }) ∧ (t = false → k.nx ρ' s2)) : Bs F (.While c body [] pos) ρ s k :=
  fun O σ H f E q => ws (ps_while hp pt_wt pss_wb) ⟨fun m σ' H' => ∃ O' ρ' s', Fm F O' σ' H' ρ' s' ∧ Step F O H O' H' ∧ I ρ' s' ∧ μ ρ' s' = m, ⟨_, O, ρ, s, f, .refl, h0, rfl⟩, by
    rintro m σ' H' ⟨O', ρ', s', f', t, iv, em⟩
    obtain ⟨b, s2, ht, h1, h2⟩ := turn ρ' s' iv
    refine ht.2 O' σ' H' f' _ fun H2 f2 x2 => ?_
    have t2 : Step F O H O' H2 := t.trans (.of x2.xt)
    cases b with
    | true =>
      refine iteT ⟨fun σ3 H3 => ∃ O3 ρ3 s3, Fm F O3 σ3 H3 ρ3 s3 ∧ Step F O H O3 H3 ∧ I ρ3 s3 ∧ μ ρ3 s3 < m, fun σ3 H3 ⟨O3, ρ3, s3, f3, t3, i3, l3⟩ => ⟨_, l3, O3, ρ3, s3, f3, t3, i3, rfl⟩, h1 rfl O' σ' H2 f2 _ ⟨?_, q.rt, ?_, ?_⟩⟩
      · rintro O4 σ4 H4 ρ4 s4 f4 t4 ⟨h4, l4⟩
        exact ⟨O4, ρ4, s4, f4, t2.trans t4, h4, by omega⟩
      · intro O4 σ4 H4 ρ4 s4 f4 t4 h4
        exact q.nx O4 σ4 H4 ρ4 s4 f4 (t2.trans t4) h4
      · rintro O4 σ4 H4 ρ4 s4 f4 t4 ⟨h4, l4⟩
        exact ⟨O4, ρ4, s4, f4, t2.trans t4, h4, by omega⟩
    | false => exact iteF (q.nx O' σ' H2 ρ' s2 f2 t2 (h2 rfl))⟩

/-! ### owned lists -/
theorem Fm.setOwn {O : List Addr} {σ : L2.St} {H : Hp} {v : Addr} {vs : List V} {i : Nat} (f : Fm F O σ H ρ s) (mv : v ∈ O) (nv : ∀ (j : Nat) (es : List D), ρ[j]? = some (.own es) → σ[j]? ≠ some (some (.ref v))) (h : H v = some (.lst vs)) (r : Rps F.X.K F.p (O ++ F.S0) H vs ds) : Fm F O (σ.set i (some (.ref v))) H (ρ.set i (.own ds)) s := by
  have key : ∀ (j : Nat) (g : G), (ρ.set i (.own ds))[j]? = some g → (j = i ∧ g = .own ds ∧ j < ρ.length) ∨ (j ≠ i ∧ ρ[j]? = some g) := fun j g h => by
    by_cases e : i = j
    · subst e
      by_cases hl : i < ρ.length
      · rw [List.getElem?_set_self hl] at h; exact .inl ⟨rfl, (Option.some.inj h).symm, hl⟩
      · rw [List.getElem?_eq_none (by simpa using hl)] at h; cases h
    · rw [List.getElem?_set_ne e] at h; exact .inr ⟨fun z => e z.symm, h⟩
  have slen : ∀ j, j < ρ.length → j < σ.length := fun j hl => by
    have hx : ρ[j]? = some ρ[j] := List.getElem?_eq_getElem hl
    obtain ⟨o, ho, _⟩ := f.slot j _ hx
    exact (List.getElem?_eq_some_iff.mp ho).1
  have at_ : ∀ j, j < ρ.length → j = i → (σ.set i (some (.ref v)))[j]? = some (some (.ref v)) := fun j hl e => by subst e; exact List.getElem?_set_self (slen j hl)
  refine ⟨f.ext, fun j g hg => ?_, fun j es a hg ha => ?_, fun j l es fs a hne h1 h2 h3 => ?_, f.fre, f.trk, f.st, f.kd⟩
  · rcases key j g hg with ⟨e, rfl, hl⟩ | ⟨hne, hg⟩
    · exact ⟨_, at_ j hl e, v, vs, rfl, List.mem_append_left _ mv, h, r⟩
    · obtain ⟨o, ho, q⟩ := f.slot j g hg
      exact ⟨o, by rw [List.getElem?_set_ne (Ne.symm hne)]; exact ho, q⟩
  · rcases key j _ hg with ⟨e, z, hl⟩ | ⟨hne, hg⟩
    · rw [at_ j hl e] at ha; cases ha; exact mv
    · rw [List.getElem?_set_ne (Ne.symm hne)] at ha; exact f.own j es a hg ha
  · rcases key j _ h1 with ⟨e1, z1, l1⟩ | ⟨n1, h1⟩
    · rcases key l _ h2 with ⟨e2, z2, l2⟩ | ⟨n2, h2⟩
      · exact absurd (e1.trans e2.symm) hne
      · rw [at_ j l1 e1] at h3
        cases h3
        rw [List.getElem?_set_ne (Ne.symm n2)]
        exact nv l fs h2
    · rw [List.getElem?_set_ne (Ne.symm n1)] at h3
      rcases key l _ h2 with ⟨e2, z2, l2⟩ | ⟨n2, h2⟩
      · rw [at_ l l2 e2]
        intro z
        cases z
        exact nv j es h1 h3
      · rw [List.getElem?_set_ne (Ne.symm n2)]
        exact f.dis j l es fs a hne h1 h2 h3
theorem Fm.notOwn {O : List Addr} {σ : L2.St} {H : Hp} {v : Addr} (f : Fm F O σ H ρ s) (n : H v = none) : ∀ (j : Nat) (es : List D), ρ[j]? = some (.own es) → σ[j]? ≠ some (some (.ref v)) := fun j es h z =>
  f.fresh n (List.mem_append_left _ (f.own j es v h z))
/-- x = a new list, owned from now on -/
theorem bs_setOwn (i : Nat) {x : Str} {pos' : Pos} (hN : F.X.N.Nodup) (hi : F.X.N[i]? = some x) (hx : Loc F.X.env.scope x) (h : El F ρ s e ds s1) (hk : k.nx (ρ.set i (.own ds)) s1) (hs : swapsWith e (some (.Name x pos')) pos.line F.X.env = pure false := by rfl)
    (hf : F.X.fn x = true ∨ F.X.env.scope.names.lookup x = some .local := by first | exact .inl rfl | exact .inr rfl | assumption) : Bs F (.Assign [.Name x pos'] e pos) ρ s k :=
  fun O σ H f E q => ws (ps_set hN hi hx pe_we hs hf) (h.2 O σ H f _ fun v vs H1 f1 x1 n1 h1 r1 => q.nx (v :: O) _ H1 _ s1 (f1.setOwn List.mem_cons_self (f.notOwn n1) h1 r1)
    ⟨x1.xt, fun a m => (List.mem_cons.mp m).elim (fun z => .inr (z ▸ n1)) .inl⟩ hk)
/-- a, b = e1, e2: the first, the second, both new lists -/
theorem bs_parOV (i j : Nat) {x y : Str} {px py pt : Pos} {kt k2} {pt2 : Pos} {d2 : D} (hc : F.X.calm = true) (hN : F.X.N.Nodup) (hi : F.X.N[i]? = some x) (hj : F.X.N[j]? = some y) (hij : i ≠ j) (hx : F.X.env.scope.names.lookup x = some .local) (hy : F.X.env.scope.names.lookup y = some .local)
    (ha : El F ρ s a ds s1) (hb : Ed F ρ s1 b d2 s2) (hk : k.nx ((ρ.set i (.own ds)).set j (.val d2)) s2) (hw : swappedStores [.Tuple [.Name x px, .Name y py] kt pt] (.Tuple [a, b] k2 pt2) F.X.env = pure (some [x, y]) := by rfl) (hs : swapsWithSole [.Tuple [.Name x px, .Name y py] kt pt] (.Tuple [a, b] k2 pt2) pos.line F.X.env = pure false := by rfl)
    (he : starEach [a, b] F.X.env = (false, eval a F.X.env) :: starEach [b] F.X.env := by rfl) (hf : starEach [b] F.X.env = (false, eval b F.X.env) :: starEach [] F.X.env := by rfl) :
    Bs F (.Assign [.Tuple [.Name x px, .Name y py] kt pt] (.Tuple [a, b] k2 pt2) pos) ρ s k :=
  fun O σ H f E q => ws (ps_par hc hN hi hj hij hx hy (pa_cons pe_we (pa_cons pe_we pa_nil hf) he) hw hs) (ha.2 O σ H f _ fun v vs H1 f1 x1 n1 h1 r1 => hb.2 (v :: O) σ H1 f1 _ fun w H2 f2 x2 r2 => by
    have nv : ¬ (F.act = true ∧ v = F.p ∧ v ∈ F.S0) := fun z => (f1.fre v List.mem_cons_self).2 z.2.2
    exact ⟨_, _, rfl, q.nx (v :: O) _ H2 _ s2 ((f2.setOwn List.mem_cons_self (f.notOwn n1) (x2.1 _ _ nv h1) (r1.ext (x2.xt (O := v :: O)))).set r2) ⟨(x1.trans x2).xt, fun a m => (List.mem_cons.mp m).elim (fun z => .inr (z ▸ n1)) .inl⟩ hk⟩)
theorem bs_parVO (i j : Nat) {x y : Str} {px py pt : Pos} {kt k2} {pt2 : Pos} {d2 : D} (hc : F.X.calm = true) (hN : F.X.N.Nodup) (hi : F.X.N[i]? = some x) (hj : F.X.N[j]? = some y) (hij : i ≠ j) (hx : F.X.env.scope.names.lookup x = some .local) (hy : F.X.env.scope.names.lookup y = some .local)
    (ha : Ed F ρ s a d2 s1) (hb : El F ρ s1 b ds s2) (hk : k.nx ((ρ.set i (.val d2)).set j (.own ds)) s2) (hw : swappedStores [.Tuple [.Name x px, .Name y py] kt pt] (.Tuple [a, b] k2 pt2) F.X.env = pure (some [x, y]) := by rfl) (hs : swapsWithSole [.Tuple [.Name x px, .Name y py] kt pt] (.Tuple [a, b] k2 pt2) pos.line F.X.env = pure false := by rfl)
    (he : starEach [a, b] F.X.env = (false, eval a F.X.env) :: starEach [b] F.X.env := by rfl) (hf : starEach [b] F.X.env = (false, eval b F.X.env) :: starEach [] F.X.env := by rfl) :
    Bs F (.Assign [.Tuple [.Name x px, .Name y py] kt pt] (.Tuple [a, b] k2 pt2) pos) ρ s k :=
  fun O σ H f E q => ws (ps_par hc hN hi hj hij hx hy (pa_cons pe_we (pa_cons pe_we pa_nil hf) he) hw hs) (ha.2 O σ H f _ fun w H1 f1 x1 r1 => hb.2 O σ H1 f1 _ fun v vs H2 f2 x2 n2 h2 r2 => by
    have r3 : Rp F.X.K F.p (v :: O ++ F.S0) H2 w d2 := (r1.fresh n2).ext (x2.xt (O := v :: O))
    have f3 := f2.set (i := i) r3
    refine ⟨_, _, rfl, q.nx (v :: O) _ H2 _ s2 (f3.setOwn List.mem_cons_self ?_ h2 r2) ⟨(x1.trans x2).xt, fun a m => (List.mem_cons.mp m).elim (fun z => .inr (z ▸ x1.2 v n2)) .inl⟩ hk⟩
    intro l es h z
    by_cases e : i = l
    · subst e
      by_cases hl : i < ρ.length
      · rw [List.getElem?_set_self hl] at h; cases h
      · rw [List.getElem?_eq_none (by simpa using hl)] at h; cases h
    · rw [List.getElem?_set_ne e] at h z
      exact f1.notOwn n2 l es h z)
theorem bs_parOO (i j : Nat) {x y : Str} {px py pt : Pos} {kt k2} {pt2 : Pos} (hc : F.X.calm = true) (hN : F.X.N.Nodup) (hi : F.X.N[i]? = some x) (hj : F.X.N[j]? = some y) (hij : i ≠ j) (hx : F.X.env.scope.names.lookup x = some .local) (hy : F.X.env.scope.names.lookup y = some .local)
    (ha : El F ρ s a xs s1) (hb : El F ρ s1 b ds s2) (hk : k.nx ((ρ.set i (.own xs)).set j (.own ds)) s2) (hw : swappedStores [.Tuple [.Name x px, .Name y py] kt pt] (.Tuple [a, b] k2 pt2) F.X.env = pure (some [x, y]) := by rfl) (hs : swapsWithSole [.Tuple [.Name x px, .Name y py] kt pt] (.Tuple [a, b] k2 pt2) pos.line F.X.env = pure false := by rfl)
    (he : starEach [a, b] F.X.env = (false, eval a F.X.env) :: starEach [b] F.X.env := by rfl) (hf : starEach [b] F.X.env = (false, eval b F.X.env) :: starEach [] F.X.env := by rfl) :
    Bs F (.Assign [.Tuple [.Name x px, .Name y py] kt pt] (.Tuple [a, b] k2 pt2) pos) ρ s k :=
  fun O σ H f E q => ws (ps_par hc hN hi hj hij hx hy (pa_cons pe_we (pa_cons pe_we pa_nil hf) he) hw hs) (ha.2 O σ H f _ fun w us H1 f1 x1 n1 h1 r1 => hb.2 (w :: O) σ H1 f1 _ fun v vs H2 f2 x2 n2 h2 r2 => by
    have nw : ¬ (F.act = true ∧ w = F.p ∧ w ∈ F.S0) := fun z => (f1.fre w List.mem_cons_self).2 z.2.2
    have hne : w ≠ v := ne_of_none h1 n2
    have r3 : Rps F.X.K F.p (v :: w :: O ++ F.S0) H2 us xs := (r1.fresh n2).ext (x2.xt (O := v :: w :: O))
    have f3 := f2.setOwn (i := i) (List.mem_cons_of_mem _ List.mem_cons_self) (f.notOwn n1) (x2.1 _ _ nw h1) r3
    refine ⟨_, _, rfl, q.nx (v :: w :: O) _ H2 _ s2 (f3.setOwn List.mem_cons_self ?_ h2 r2) ⟨(x1.trans x2).xt, fun a m => ?_⟩ hk⟩
    · intro l es h z
      by_cases e : i = l
      · subst e
        by_cases hl : i < σ.length
        · rw [List.getElem?_set_self hl] at z; cases z; exact hne rfl
        · rw [List.getElem?_eq_none (by simpa using hl)] at z; cases z
      · rw [List.getElem?_set_ne e] at h z
        exact f1.notOwn n2 l es h z
    · rcases List.mem_cons.mp m with rfl | m
      · exact .inr (x1.2 _ n2)
      · rcases List.mem_cons.mp m with rfl | m
        · exact .inr n1
        · exact .inl m)
/-- what an owned list holds is turned -/
theorem Fm.mut {O : List Addr} {σ : L2.St} {H : Hp} {a : Addr} {vs : List V} {i : Nat} (f : Fm F O σ H ρ s) (hρ : ρ[i]? = some (.own xs)) (ho : σ[i]? = some (some (.ref a))) (r : Rps F.X.K F.p (O ++ F.S0) H vs ds) : Fm F O σ (upd H a (.lst vs)) (ρ.set i (.own ds)) s ∧ XT (O ++ F.S0) H (upd H a (.lst vs)) := by
  have ma : a ∈ O := f.own i xs a hρ ho
  have x : XT (O ++ F.S0) H (upd H a (.lst vs)) := ⟨fun b o n h => by rw [upd_ne (show b ≠ a from fun z => n (by rw [z]; exact List.mem_append_left _ ma))]; exact h, fun b h => upd_none h⟩
  have key : ∀ (j : Nat) (g : G), (ρ.set i (.own ds))[j]? = some g → (j = i ∧ g = .own ds) ∨ (j ≠ i ∧ ρ[j]? = some g) := fun j g h => by
    by_cases e : i = j
    · subst e
      by_cases hl : i < ρ.length
      · rw [List.getElem?_set_self hl] at h; exact .inl ⟨rfl, (Option.some.inj h).symm⟩
      · rw [List.getElem?_eq_none (by simpa using hl)] at h; cases h
    · rw [List.getElem?_set_ne e] at h; exact .inr ⟨fun z => e z.symm, h⟩
  have own : ∀ (j : Nat) (es : List D), (ρ.set i (.own ds))[j]? = some (.own es) → ∃ es', ρ[j]? = some (.own es') := fun j es h => by
    rcases key j _ h with ⟨rfl, _⟩ | ⟨_, h⟩
    · exact ⟨xs, hρ⟩
    · exact ⟨es, h⟩
  refine ⟨⟨⟨fun b o h n => ?_, fun b h => f.ext.2 b (upd_none h)⟩, fun j g hg => ?_, fun j es b hg hb => ?_, fun j l es fs b hne h1 h2 h3 => ?_, f.fre, fun b m => ?_, ?_, f.kd⟩, x⟩
  · rw [upd_ne fun z => ?_]
    · exact f.ext.1 b o h n
    · rw [z, (f.fre a ma).1] at h; cases h
  · rcases key j g hg with ⟨rfl, rfl⟩ | ⟨hne, hg⟩
    · exact ⟨_, ho, a, vs, rfl, List.mem_append_left _ ma, upd_same, r.ext x⟩
    · obtain ⟨o, ho', q⟩ := f.slot j g hg
      refine ⟨o, ho', ?_⟩
      cases g with
      | no => trivial
      | val d =>
        obtain ⟨v, e, r'⟩ := q
        exact ⟨v, e, r'.ext x⟩
      | own es =>
        obtain ⟨b, ws, e, m, hb, r'⟩ := q
        subst e
        refine ⟨b, ws, rfl, m, ?_, r'.ext x⟩
        rw [upd_ne fun z => ?_]
        · exact hb
        · subst z
          exact f.dis i j xs es b (Ne.symm hne) hρ hg ho ho'
  · obtain ⟨es', h⟩ := own j es hg
    exact f.own j es' b h hb
  · obtain ⟨es', h1⟩ := own j es h1
    obtain ⟨fs', h2⟩ := own l fs h2
    exact f.dis j l es' fs' b hne h1 h2 h3
  · obtain ⟨o, e⟩ := f.trk b m
    by_cases z : b = a
    · rw [z]; exact ⟨_, upd_same⟩
    · exact ⟨o, by rw [upd_ne z]; exact e⟩
  · have q := f.st
    cases s with
    | none => trivial
    | some ys => exact ⟨q.1, by rw [upd_ne (show F.p ≠ a from fun z => (f.fre a ma).2 (by rw [← z]; exact q.1))]; exact q.2⟩
/-- x.append(e), x owned -/
theorem bs_append (i : Nat) {x : Str} {px pa : Pos} {cpos : Pos} (hi : F.X.N[i]? = some x) (hv : Vis F.X.env.scope x) (hρ : ρ[i]? = some (.own xs)) (h : Ed F ρ s e d s1) (hl : xs.length < sizeLine) (hk : k.nx (ρ.set i (.own (xs ++ [d]))) s1)
    (hd : (x == ("__debug__" : Str)) = false := by decide) (hcd : (x == ("__classdict__" : Str)) = false := by decide) (he : starEach [e] F.X.env = (false, eval e F.X.env) :: starEach [] F.X.env := by rfl)
    (hb : attributeBase (.Name x px) "append" F.X.env (eval (.Name x px) F.X.env) = eval (.Name x px) F.X.env := by rfl) (hline : (pa.endLine == cpos.line) = true := by rfl) (hpl : (backTo cpos (starEach [] F.X.env)).any (·.1) = false := by rfl)
    (hfew : ((backTo cpos (starEach [e] F.X.env)).all (fun x => !x.1) && (backToKw cpos (keywordEach [] F.X.env)).all (fun x => x.1.isSome) && decide ([e].length + ([] : List Keyword).length + (if ([] : List Keyword).isEmpty then 0 else 1) < 30)) = true := by rfl)
    (hs : swapsWith (.Call (.Attribute (.Name x px) "append" pa) [e] [] cpos) none pos.line F.X.env = pure false := by rfl) : Bs F (.Expr (.Call (.Attribute (.Name x px) "append" pa) [e] [] cpos) pos) ρ s k :=
  fun O σ H f E q => ws (ps_expr (pe_bm PySem.F.plainAttrs_list PySem.F.slot_list_append PySem.F.type_list_append mt_append (pe_var hi hv hd hcd) (pa_cons pe_we pa_nil he) hb hfew hline he hpl) hs) (by
    obtain ⟨o, ho, a, vs, eo, m, h1, r⟩ := f.slot i _ hρ
    subst eo
    have na : ¬ (F.act = true ∧ a = F.p ∧ a ∈ F.S0) := fun z => (f.fre a (f.own i xs a hρ ho)).2 z.2.2
    refine ⟨_, ho, .inl ⟨rfl, _, .inl (.inl h1)⟩, h.2 O σ H f _ fun w H1 f1 x1 r1 => ?_⟩
    refine ⟨a, vs, w, rfl, rfl, x1.1 _ _ na h1, by rw [r.length]; exact hl, ?_⟩
    obtain ⟨f2, x2⟩ := f1.mut hρ ho ((r.ext x1.xt).append (.one r1))
    exact q.nx O σ _ _ s1 f2 (.of (x1.xt.trans x2)) hk)
/-- an owned list is data from now on -/
theorem Fm.freeze {O : List Addr} {σ : L2.St} {H : Hp} {i : Nat} (f : Fm F O σ H ρ s) (hρ : ρ[i]? = some (.own xs)) : ∃ O', Fm F O' σ H (ρ.set i (.val (.lst xs))) s ∧ ∀ a ∈ O', a ∈ O := by
  obtain ⟨o, ho, a, vs, eo, m, h1, r⟩ := f.slot i _ hρ
  subst eo
  have sub : ∀ b ∈ O.filter (· ≠ a) ++ F.S0, b ∈ O ++ F.S0 := fun b m => by
    rcases List.mem_append.mp m with m | m
    · exact List.mem_append_left _ (List.mem_filter.mp m).1
    · exact List.mem_append_right _ m
  have key : ∀ (j : Nat) (g : G), (ρ.set i (.val (.lst xs)))[j]? = some g → (j = i ∧ g = .val (.lst xs)) ∨ (j ≠ i ∧ ρ[j]? = some g) := fun j g h => by
    by_cases e : i = j
    · subst e
      by_cases hl : i < ρ.length
      · rw [List.getElem?_set_self hl] at h; exact .inl ⟨rfl, (Option.some.inj h).symm⟩
      · rw [List.getElem?_eq_none (by simpa using hl)] at h; cases h
    · rw [List.getElem?_set_ne e] at h; exact .inr ⟨fun z => e z.symm, h⟩
  have own : ∀ (j : Nat) (es : List D), (ρ.set i (.val (.lst xs)))[j]? = some (.own es) → j ≠ i ∧ ρ[j]? = some (.own es) := fun j es h => by
    rcases key j _ h with ⟨_, z⟩ | h
    · cases z
    · exact h
  refine ⟨O.filter (· ≠ a), ⟨f.ext, fun j g hg => ?_, fun j es b hg hb => ?_, fun j l es fs b hne h1 h2 h3 => ?_, fun b m => f.fre b (List.mem_filter.mp m).1, fun b m => f.trk b (sub b m), f.st, f.kd⟩, fun b m => (List.mem_filter.mp m).1⟩
  · rcases key j g hg with ⟨rfl, rfl⟩ | ⟨hne, hg⟩
    · refine ⟨_, ho, _, rfl, .lst (fun m => ?_) h1 (r.weak sub)⟩
      rcases List.mem_append.mp m with m | m
      · simpa using (List.mem_filter.mp m).2
      · exact (f.fre a (f.own j xs a hρ ho)).2 m
    · obtain ⟨o, ho', q⟩ := f.slot j g hg
      refine ⟨o, ho', ?_⟩
      cases g with
      | no => trivial
      | val d =>
        obtain ⟨v, e, r'⟩ := q
        exact ⟨v, e, r'.weak sub⟩
      | own es =>
        obtain ⟨b, ws, e, m, hb, r'⟩ := q
        subst e
        refine ⟨b, ws, rfl, ?_, hb, r'.weak sub⟩
        refine List.mem_append_left _ (List.mem_filter.mpr ⟨f.own j es b hg ho', ?_⟩)
        simp only [ne_eq, decide_not, Bool.not_eq_eq_eq_not, Bool.not_true, decide_eq_false_iff_not]
        intro z
        subst z
        exact f.dis i j xs es b (Ne.symm hne) hρ hg ho ho'
  · obtain ⟨hne, hg⟩ := own j es hg
    refine List.mem_filter.mpr ⟨f.own j es b hg hb, ?_⟩
    simp only [ne_eq, decide_not, Bool.not_eq_eq_eq_not, Bool.not_true, decide_eq_false_iff_not]
    intro z
    subst z
    exact f.dis i j xs es b (Ne.symm hne) hρ hg ho hb
  · exact f.dis j l es fs b hne (own j es h1).2 (own l fs h2).2 h3
theorem bk_freeze (i : Nat) {sts : List Stmt} (hρ : ρ[i]? = some (.own xs)) (h : Bk F sts (ρ.set i (.val (.lst xs))) s k) : Bk F sts ρ s k := fun O σ H f E q => by
  obtain ⟨O', f', hs⟩ := f.freeze hρ
  exact h O' σ H f' E (q.to ⟨.refl, fun a m => .inl (hs a m)⟩)
end
end Gh
set_option Elab.async false
set_option linter.all false
set_option maxRecDepth 100000
namespace Gh
open PySem PySem.Spec PyProof.Rows L2
/-! ### list comprehensions -/
/-- the block's contexts -/
structure Bx where
  s : Shared
  H : Hp
  C : Addr
  cl : List (Str × Addr)
  fp : List Addr
abbrev Fx.blk (F : Fx) (scope : Scope) (c : Bx) : Fx := ⟨F.X.blk c.s c.H scope (compEnvC scope c.cl c.C F.X.env) c.fp, F.H0, F.S0, F.p, F.act⟩
def gwipe (ρ : List G) : List Nat → List G
  | [] => ρ
  | v :: vs => (gwipe ρ vs).set v .no
section
variable {F : Fx} {ρ : List G} {s s1 s2 s3 : Sx} {tg a b c e elt iter : Expr} {ifs : List Expr} {x y d : D} {xs ys ds items : List D} {pos p : Pos} {k : GE} {scope : Scope}
theorem Fm.setNo {O : List Addr} {σ : L2.St} {H : Hp} {i : Nat} (f : Fm F O σ H ρ s) : Fm F O (σ.set i none) H (ρ.set i .no) s := by
  have key : ∀ (j : Nat) (g : G), (ρ.set i .no)[j]? = some g → (j = i ∧ g = .no ∧ j < ρ.length) ∨ (j ≠ i ∧ ρ[j]? = some g) := fun j g h => by
    by_cases e : i = j
    · subst e
      by_cases hl : i < ρ.length
      · rw [List.getElem?_set_self hl] at h; exact .inl ⟨rfl, (Option.some.inj h).symm, hl⟩
      · rw [List.getElem?_eq_none (by simpa using hl)] at h; cases h
    · rw [List.getElem?_set_ne e] at h; exact .inr ⟨fun z => e z.symm, h⟩
  have own : ∀ (j : Nat) (es : List D), (ρ.set i .no)[j]? = some (.own es) → j ≠ i ∧ ρ[j]? = some (.own es) := fun j es h => by
    rcases key j _ h with ⟨_, z, _⟩ | q
    · cases z
    · exact q
  refine ⟨f.ext, fun j g hg => ?_, fun j es a hg ha => ?_, fun j l es fs a hne h1 h2 h3 => ?_, f.fre, f.trk, f.st, f.kd⟩
  · rcases key j g hg with ⟨rfl, rfl, hl⟩ | ⟨hne, hg⟩
    · have : j < σ.length := by
        have hx : ρ[j]? = some ρ[j] := List.getElem?_eq_getElem hl
        obtain ⟨o, ho, _⟩ := f.slot j _ hx
        exact (List.getElem?_eq_some_iff.mp ho).1
      exact ⟨none, List.getElem?_set_self this, trivial⟩
    · obtain ⟨o, ho, q⟩ := f.slot j g hg
      exact ⟨o, by rw [List.getElem?_set_ne (Ne.symm hne)]; exact ho, q⟩
  · obtain ⟨hne, hg⟩ := own j es hg
    rw [List.getElem?_set_ne (Ne.symm hne)] at ha
    exact f.own j es a hg ha
  · obtain ⟨n1, h1⟩ := own j es h1
    obtain ⟨n2, h2⟩ := own l fs h2
    rw [List.getElem?_set_ne (Ne.symm n1)] at h3
    rw [List.getElem?_set_ne (Ne.symm n2)]
    exact f.dis j l es fs a hne h1 h2 h3
theorem Fm.wipe {O : List Addr} {σ : L2.St} {H : Hp} (f : Fm F O σ H ρ s) : ∀ vs : List Nat, Fm F O (L2.wipe σ vs) H (gwipe ρ vs) s
  | [] => f
  | v :: vs => (f.wipe vs).setNo
theorem Fm.blk {O : List Addr} {σ : L2.St} {H : Hp} {c : Bx} (f : Fm F O σ H ρ s) : Fm (F.blk scope c) O σ H ρ s := ⟨f.ext, f.slot, f.own, f.dis, f.fre, f.trk, f.st, f.kd⟩
theorem Fm.unblk {O : List Addr} {σ : L2.St} {H : Hp} {c : Bx} (f : Fm (F.blk scope c) O σ H ρ s) : Fm F O σ H ρ s := ⟨f.ext, f.slot, f.own, f.dis, f.fre, f.trk, f.st, f.kd⟩
theorem wipe_get {σ : L2.St} : ∀ (vs : List Nat) (j : Nat), j ∈ vs → j < σ.length → (L2.wipe σ vs)[j]? = some none
  | [], _, m, _ => absurd m (by simp)
  | v :: vs, j, m, hl => by
    unfold L2.wipe
    by_cases e : v = j
    · subst e
      exact List.getElem?_set_self (by rw [wipe_length]; exact hl)
    · rw [List.getElem?_set_ne e]
      exact wipe_get vs j ((List.mem_cons.mp m).resolve_left fun z => e z.symm) hl
theorem wipe_eq {σ σ2 : L2.St} {vs js : List Nat} (hl : σ2.length = σ.length) (hj : ∀ j ∈ js, j ∈ vs) (h : ∀ j, j ∉ js → σ2[j]? = (L2.wipe σ vs)[j]?) : L2.wipe σ2 vs = L2.wipe σ vs := by
  apply List.ext_getElem?
  intro j
  by_cases m : j ∈ vs
  · by_cases l : j < σ.length
    · rw [wipe_get vs j m l, wipe_get vs j m (by omega)]
    · rw [List.getElem?_eq_none (by rw [wipe_length]; omega), List.getElem?_eq_none (by rw [wipe_length]; omega)]
  · rw [wipe_out m, h j fun z => m (hj j z)]
/-- the tests of the clause -/
def Eifs (F : Fx) (ρ : List G) (s : Sx) (ifs : List Expr) (b : Bool) (s' : Sx) : Prop := (ifs = [] ∧ b = true ∧ s' = s) ∨ ∃ c, ifs = [c] ∧ Et F ρ s c b s'
def wgB (X : Cx) (scope : Scope) (tg : Expr) : TG := fun v σ H Q => ∀ c : Bx, WG (X.blk c.s c.H scope (compEnvC scope c.cl c.C X.env) c.fp) tg v σ H Q
def WTs (X : Cx) (ifs : List Expr) : TT := fun σ H Q => ∀ pins s, Inv X pins σ H s →
    wpAny (model X.prog X.w) X.A (forIn ifs true fun c r => if r = true then do let ok ← isTrue c X.env (eval c X.env); pure (ForInStep.yield ok) else pure (ForInStep.yield r)) (TP X pins σ Q) X.xe s
theorem pts_w {X : Cx} {ifs : List Expr} : PTs X ifs (WTs X ifs) := ⟨fun pins s _ _ _ I h => h pins s I⟩
theorem wts {X : Cx} {ifs : List Expr} {t : TT} {σ : L2.St} {H : Hp} {Q : Bool → Hp → Prop} (p : PTs X ifs t) (h : t σ H Q) : WTs X ifs σ H Q := fun pins s I => p.run pins s σ H Q I h
def wtB (X : Cx) (scope : Scope) (ifs : List Expr) : TT := fun σ H Q => ∀ c : Bx, WTs (X.blk c.s c.H scope (compEnvC scope c.cl c.C X.env) c.fp) ifs σ H Q
def weB (X : Cx) (scope : Scope) (e : Expr) : TE := fun σ H Q => ∀ c : Bx, WE (X.blk c.s c.H scope (compEnvC scope c.cl c.C X.env) c.fp) e σ H Q
/-- the turns: out i is what has been made ahead of turn i, st i the stream's state there -/
structure Comp (F : Fx) (ρ : List G) (scope : Scope) (vs : List Nat) (tg : Expr) (ifs : List Expr) (elt : Expr) (items : List D) (out : Nat → List D) (st : Nat → Sx) : Prop where
  nil : out 0 = []
  len : ∀ i, i ≤ items.length → (out i).length ≤ sizeLine
  turn : ∀ i d, items[i]? = some d → ∃ ρ2 js, (∀ c, Eg (F.blk scope c) tg d (gwipe ρ vs) ρ2 js) ∧ (∀ j ∈ js, j ∈ vs) ∧ ∃ b s2, (∀ c, Eifs (F.blk scope c) ρ2 (st i) ifs b s2) ∧
    (b = true → ∃ y, (∀ c, Ed (F.blk scope c) ρ2 s2 elt y (st (i + 1))) ∧ out (i + 1) = out i ++ [y]) ∧ (b = false → st (i + 1) = s2 ∧ out (i + 1) = out i)
theorem comp_run {out : Nat → List D} {st : Nat → Sx} {own : List (Str × Nat)} (hi : Ei F ρ s tg iter items (st 0)) (hcmp : Comp F ρ scope (own.map (·.2)) tg ifs elt items out st) :
    ∀ O σ H, Fm F O σ H ρ s → ∀ Q : VK, (∀ a vs H', Fm F (a :: O) σ H' ρ (st items.length) → XE F H H' → H a = none → H' a = some (.lst vs) → Rps F.X.K F.p (a :: (O ++ F.S0)) H' vs (out items.length) → Q (.ref a) H') →
      tLc (WI F.X tg iter) (wgB F.X scope tg) (wtB F.X scope ifs) (weB F.X scope elt) (own.map (·.2)) σ H Q := by
  intro O σ H f Q q
  refine hi.2 O σ H f _ fun J H1 f1 x1 w A nA => ?_
  refine lc_it w (fun i H' => Fm F (A :: O) σ H' ρ (st i) ∧ XE F H1 H' ∧ ∃ vs, H' A = some (.lst vs) ∧ Rps F.X.K F.p (A :: (O ++ F.S0)) H' vs (out i)) ?_ ?_ ?_ ?_
  · exact ⟨f1.newO nA, .new nA, [], upd_same, by rw [hcmp.nil]; exact .nil⟩
  · rintro i H' _ ⟨_, x2, _⟩
    exact x2.xt
  · rintro i v H' H2 hi' ⟨f2, x2, ws, hA, rA⟩ ⟨ha, d, hd, hr⟩
    obtain ⟨ρ2, js, hg, hj, b, s2, ht, hy, hn⟩ := hcmp.turn i d hd
    have f3 := f2.all ha
    have x3 : XE F H1 H2 := x2.trans ⟨fun a o _ e => ha a o e, (xt_all (S := []) ha).2⟩
    have nA' : ¬ (F.act = true ∧ A = F.p ∧ A ∈ F.S0) := fun z => (f2.fre A List.mem_cons_self).2 z.2.2
    have r3 := hr (A :: O) fun a m => ⟨(List.mem_cons.mp m).elim (fun z => .inr (z ▸ nA)) .inl, f2.trk a (List.mem_append_left _ m)⟩
    have back : ∀ H4 s4, XE F H2 H4 → StA F.p F.S0 H4 s4 → s4.isSome = F.act → Fm F (A :: O) σ H4 ρ s4 := fun H4 s4 x4 t4 k4 => by
      refine f3.grow ⟨fun a o e n => x4.1 a o (fun z => ?_) e, x4.2⟩ (f3.kd.trans k4.symm) t4
      rcases n with n | n
      · have q1 := f3.kd
        rw [n] at q1
        rw [← q1] at z
        cases z.1
      · exact n z.2.1
    have wf : Fm F (A :: O) (L2.wipe σ (own.map (·.2))) H2 (gwipe ρ (own.map (·.2))) (st i) := f3.wipe _
    intro c
    refine hg c (A :: O) _ H2 v (st i) wf.blk r3 _ fun σ2 f4 l4 e4 => ⟨wipe_eq (by rw [l4, wipe_length]) hj e4, fun c2 => ?_⟩
    have f4 : Fm F (A :: O) σ2 H2 ρ2 (st i) := f4.unblk
    have key : ∀ H3, Fm F (A :: O) σ2 H3 ρ2 s2 → XE F H2 H3 → (if b = true then weB F.X scope elt σ2 H3 fun y H4 => ∃ acc, H4 A = some (.lst acc) ∧ acc.length < sizeLine ∧ (Fm F (A :: O) σ (upd H4 A (.lst (acc ++ [y]))) ρ (st (i + 1)) ∧ XE F H1 (upd H4 A (.lst (acc ++ [y]))) ∧ ∃ vs, (upd H4 A (.lst (acc ++ [y]))) A = some (.lst vs) ∧ Rps F.X.K F.p (A :: (O ++ F.S0)) (upd H4 A (.lst (acc ++ [y]))) vs (out (i + 1)))
        else (Fm F (A :: O) σ H3 ρ (st (i + 1)) ∧ XE F H1 H3 ∧ ∃ vs, H3 A = some (.lst vs) ∧ Rps F.X.K F.p (A :: (O ++ F.S0)) H3 vs (out (i + 1)))) := by
      intro H3 f5 x5
      cases b with
      | true =>
        obtain ⟨y, hy1, hy2⟩ := hy rfl
        refine iteT fun c3 => (hy1 c3).2 (A :: O) σ2 H3 f5.blk _ fun u H4 f6 x6 r6 => ?_
        have f6 : Fm F (A :: O) σ2 H4 ρ2 (st (i + 1)) := f6.unblk
        have x6 : XE F H3 H4 := x6
        have x7 : XE F H2 H4 := x5.trans x6
        have hA4 : H4 A = some (.lst ws) := x7.1 _ _ nA' (ha _ _ hA)
        have rA4 : Rps F.X.K F.p (A :: (O ++ F.S0)) H4 ws (out i) := (rA.ext (xt_all ha)).ext (x7.xt (O := A :: O))
        have hlen := hcmp.len (i + 1) (by have := (List.getElem?_eq_some_iff.mp hd).1; omega)
        refine ⟨ws, hA4, ?_, ?_⟩
        · rw [hy2, List.length_append] at hlen
          rw [rA4.length]
          exact Nat.lt_of_succ_le (by simpa using hlen)
        · have f7 := back H4 (st (i + 1)) x7 f6.st f6.kd
          have xm : XT (A :: O ++ F.S0) H4 (upd H4 A (.lst (ws ++ [u]))) := ⟨fun b o n h => by rw [upd_ne (show b ≠ A from fun z => n (by rw [z]; exact List.mem_cons_self))]; exact h, fun b h => upd_none h⟩
          refine ⟨?_, ?_, _, upd_same, ?_⟩
          · -- the new list holds one more
            refine ⟨⟨fun b o h n => ?_, fun b h => f7.ext.2 b (upd_none h)⟩, fun j g hgj => ?_, f7.own, f7.dis, f7.fre, fun b m => ?_, ?_, f7.kd⟩
            · rw [upd_ne (show b ≠ A from fun z => ?_)]
              · exact f7.ext.1 b o h n
              · rw [z, (f7.fre A List.mem_cons_self).1] at h; cases h
            · obtain ⟨o, ho, qs⟩ := f7.slot j g hgj
              refine ⟨o, ho, ?_⟩
              cases g with
              | no => trivial
              | val d =>
                obtain ⟨v, e, r'⟩ := qs
                exact ⟨v, e, r'.ext xm⟩
              | own es =>
                obtain ⟨b, us, e, m, hb, r'⟩ := qs
                subst e
                refine ⟨b, us, rfl, m, ?_, r'.ext xm⟩
                rw [upd_ne (show b ≠ A from fun z => ?_)]
                · exact hb
                · have mo := f1.own j es b hgj ho
                  rw [z] at mo
                  exact f1.fresh nA (List.mem_append_left _ mo)
            · obtain ⟨o, e⟩ := f7.trk b m
              by_cases z : b = A
              · rw [z]; exact ⟨_, upd_same⟩
              · exact ⟨o, by rw [upd_ne z]; exact e⟩
            · have qs := f7.st
              revert qs
              cases st (i + 1) with
              | none => intro _; trivial
              | some ys => exact fun qs => ⟨qs.1, by rw [upd_ne (show F.p ≠ A from fun z => (f7.fre A List.mem_cons_self).2 (by rw [← z]; exact qs.1))]; exact qs.2⟩
          · have x8 := x3.trans x7
            exact ⟨fun b o n h => by rw [upd_ne (show b ≠ A from fun z => by rw [z, nA] at h; cases h)]; exact x8.1 b o n h, fun b h => x8.2 b (upd_none h)⟩
          · rw [hy2]
            exact (rA4.append (.one r6)).ext xm
      | false =>
        obtain ⟨hn1, hn2⟩ := hn rfl
        refine iteF ⟨?_, x3.trans x5, ws, x5.1 _ _ nA' (ha _ _ hA), ?_⟩
        · rw [hn1]; exact back H3 s2 x5 f5.st f5.kd
        · rw [hn2]; exact (rA.ext (xt_all ha)).ext (x5.xt (O := A :: O))
    rcases ht c2 with ⟨e1, e2, e3⟩ | ⟨c3, e1, e2⟩
    · subst e1
      have z := key H2 (by rw [e3]; exact f4) .refl
      subst e2
      exact wts pts_nil z
    · subst e1
      exact wts (pts_one pt_wt) (e2.2 (A :: O) σ2 H2 f4.blk _ fun H3 f5 x5 => key H3 f5.unblk x5)
  · rintro H' ⟨f2, x2, ws, hA, rA⟩
    exact q A ws H' f2 (x1.trans x2) (x1.2 A nA) hA rA
/-- [elt for tg in iter if ..], a new list -/
theorem el_comp {out : Nat → List D} {st : Nat → Sx} (own : List (Str × Nat)) (hc : F.X.calm = true) (hN : F.X.N.Nodup) (hi : Ei F ρ s tg iter items (st 0)) (ok : BlkOk F.X.N F.X.env.scope scope own) (hcmp : Comp F ρ scope (own.map (·.2)) tg ifs elt items out st)
    (kd : s.isSome = (st items.length).isSome) (hs : ∀ x, foldedSetIterable iter F.X.env x = pure x := by intro _; rfl) : El F ρ s (.ListComp elt [⟨tg, iter, ifs, 0⟩] scope pos) (out items.length) (st items.length) :=
  ⟨kd, fun O σ H f Q q => we (pe_lc hc hN pi_wi ok (fun s H C cl fp => ⟨fun pins s' σ H' v u Q I r h => h ⟨s, H, C, cl, fp⟩ pins s' u I r⟩) (fun s H C cl fp => ⟨fun pins s' σ H' Q I h => h ⟨s, H, C, cl, fp⟩ pins s' I⟩)
    (fun s H C cl fp => ⟨fun pins s' σ H' Q I h => h ⟨s, H, C, cl, fp⟩ pins s' I⟩) hs) (comp_run hi hcmp O σ H f Q q)⟩
/-- y = [elt for tg in iter if ..] -/
theorem bs_setLc (i : Nat) {y : Str} {py spos : Pos} {out : Nat → List D} {st : Nat → Sx} (own : List (Str × Nat)) (hc : F.X.calm = true) (hN : F.X.N.Nodup) (hy : F.X.N[i]? = some y) (hyl : F.X.env.scope.names.lookup y = some .local) (hsw : swapsWith (.ListComp elt [⟨tg, iter, ifs, 0⟩] scope pos) (some (.Name y py)) spos.line F.X.env = pure true)
    (hi : Ei F ρ s tg iter items (st 0)) (ok : BlkOk F.X.N F.X.env.scope scope own) (hcmp : Comp F ρ scope (own.map (·.2)) tg ifs elt items out st) (hk : k.nx (ρ.set i (.own (out items.length))) (st items.length)) (hs : ∀ x, foldedSetIterable iter F.X.env x = pure x := by intro _; rfl) :
    Bs F (.Assign [.Name y py] (.ListComp elt [⟨tg, iter, ifs, 0⟩] scope pos) spos) ρ s k :=
  fun O σ H f E q => ws (ps_setLc hc hN hy hyl hsw pi_wi ok (fun s H C cl fp => ⟨fun pins s' σ H' v u Q I r h => h ⟨s, H, C, cl, fp⟩ pins s' u I r⟩) (fun s H C cl fp => ⟨fun pins s' σ H' Q I h => h ⟨s, H, C, cl, fp⟩ pins s' I⟩)
    (fun s H C cl fp => ⟨fun pins s' σ H' Q I h => h ⟨s, H, C, cl, fp⟩ pins s' I⟩) hs) (comp_run hi hcmp O σ H f _ fun v vs H1 f1 x1 n1 h1 r1 => q.nx (v :: O) _ H1 _ _ (f1.setOwn List.mem_cons_self (f.notOwn n1) h1 r1)
      ⟨x1.xt, fun a m => (List.mem_cons.mp m).elim (fun z => .inr (z ▸ n1)) .inl⟩ hk)
/-- plain turns: each item d gives f d; nothing is drawn -/
theorem Comp.map {vs : List Nat} (f : D → D) (hl : items.length ≤ sizeLine) (h : ∀ (i : Nat) (d : D), items[i]? = some d → ∃ ρ2 js, (∀ c, Eg (F.blk scope c) tg d (gwipe ρ vs) ρ2 js) ∧ (∀ j ∈ js, j ∈ vs) ∧ ∀ c, Ed (F.blk scope c) ρ2 s elt (f d) s) :
    Comp F ρ scope vs tg [] elt items (fun i => (items.take i).map f) (fun _ => s) := by
  refine ⟨rfl, fun i hi => by simp; omega, fun i d hd => ?_⟩
  obtain ⟨ρ2, js, h1, h2, h3⟩ := h i d hd
  refine ⟨ρ2, js, h1, h2, true, s, fun c => .inl ⟨rfl, rfl, rfl⟩, fun _ => ⟨f d, h3, ?_⟩, fun z => by cases z⟩
  rw [List.take_add_one, hd]
  simp
/-- with a test -/
theorem Comp.filter {vs : List Nat} {c : Expr} (f : D → D) (g : D → Bool) (hl : items.length ≤ sizeLine) (h : ∀ (i : Nat) (d : D), items[i]? = some d → ∃ ρ2 js, (∀ c, Eg (F.blk scope c) tg d (gwipe ρ vs) ρ2 js) ∧ (∀ j ∈ js, j ∈ vs) ∧ (∀ b, Et (F.blk scope b) ρ2 s c (g d) s) ∧ (g d = true → ∀ c, Ed (F.blk scope c) ρ2 s elt (f d) s)) :
    Comp F ρ scope vs tg [c] elt items (fun i => ((items.take i).filter g).map f) (fun _ => s) := by
  refine ⟨rfl, fun i hi => ?_, fun i d hd => ?_⟩
  · have h1 := List.length_filter_le g (items.take i)
    have h2 := List.length_take_le' i items
    simp only [List.length_map]
    omega
  · obtain ⟨ρ2, js, h1, h2, h3, h4⟩ := h i d hd
    refine ⟨ρ2, js, h1, h2, g d, s, fun b => .inr ⟨c, rfl, h3 b⟩, fun e => ⟨f d, h4 e, ?_⟩, fun e => ⟨rfl, ?_⟩⟩
    · rw [List.take_add_one, hd]
      simp [e]
    · rw [List.take_add_one, hd]
      simp [e]
theorem take_all {α : Type} {l : List α} : l.take l.length = l := List.take_length
end
end Gh
set_option Elab.async false
set_option linter.all false
set_option maxRecDepth 100000
/-! fractions as data: rationals -/
namespace Gh
open PySem PySem.Spec PyProof.Rows L2
def fr (q : Rat) : D := .tup [.int q.num, .int q.den]
def fm (a b : Rat) : D := .tup [fr a, fr b]
theorem gcd_step (a b : Nat) (h : 0 < b) : Nat.gcd a b = Nat.gcd b (a % b) := by
  rw [Nat.gcd_comm, Nat.gcd_rec, Nat.gcd_comm]
theorem norm_mk (n : Int) (d : Nat) (h : d ≠ 0) : Rat.normalize n d h = mkRat n d := by
  rw [mkRat, dif_neg h]
theorem mk_num (t : Int) (b : Nat) (h : b ≠ 0) : (mkRat t b).num = t / (Nat.gcd t.natAbs b : Int) := by
  rw [Rat.num_mkRat, if_neg h, Nat.gcd_comm]
theorem mk_den (t : Int) (b : Nat) (h : b ≠ 0) : ((mkRat t b).den : Int) = (b : Int) / (Nat.gcd t.natAbs b : Int) := by
  rw [Rat.den_mkRat, if_neg h, Nat.gcd_comm]
  exact Int.natCast_ediv ..
theorem den_pos (q : Rat) : (0 : Int) < q.den := by have := q.den_nz; omega
theorem add_mk (a b : Rat) : mkRat (a.num * b.den + b.num * a.den) (a.den * b.den) = a + b := by rw [Rat.add_def, norm_mk]
theorem sub_mk (a b : Rat) : mkRat (a.num * b.den - b.num * a.den) (a.den * b.den) = a - b := by rw [Rat.sub_def, norm_mk]
theorem mul_mk (a b : Rat) : mkRat (a.num * b.num) (a.den * b.den) = a * b := by rw [Rat.mul_def, norm_mk]
/-- few bits -/
def Sz (n : Nat) (q : Rat) : Prop := q.num.natAbs < 2 ^ n ∧ q.den < 2 ^ n
theorem Sz.mono {m n : Nat} {q : Rat} (h : Sz m q) (l : m ≤ n) : Sz n q := ⟨Nat.lt_of_lt_of_le h.1 (Nat.pow_le_pow_right (by decide) l), Nat.lt_of_lt_of_le h.2 (Nat.pow_le_pow_right (by decide) l)⟩
theorem Sz.mk {n : Nat} {t : Int} {b : Nat} (h1 : t.natAbs < 2 ^ n) (h2 : b < 2 ^ n) (hb : b ≠ 0) : Sz n (mkRat t b) := by
  constructor
  · rw [mk_num t b hb]
    have : (t / (Nat.gcd t.natAbs b : Int)).natAbs ≤ t.natAbs := Int.natAbs_ediv_le_natAbs ..
    omega
  · rw [Rat.den_mkRat, if_neg hb]
    exact Nat.lt_of_le_of_lt (Nat.div_le_self ..) h2
theorem two_pow_mul {m n a b : Nat} (h1 : a < 2 ^ m) (h2 : b < 2 ^ n) : a * b < 2 ^ (m + n) := by
  rw [Nat.pow_add]; exact Nat.mul_lt_mul'' h1 h2
theorem Sz.add {m n : Nat} {a b : Rat} (ha : Sz m a) (hb : Sz n b) : Sz (m + n + 1) (a + b) := by
  rw [← add_mk]
  refine .mk ?_ ?_ (Nat.mul_ne_zero a.den_nz b.den_nz)
  · have h1 := two_pow_mul ha.1 hb.2
    have h2 := two_pow_mul hb.1 ha.2
    have h3 := Int.natAbs_add_le (a.num * b.den) (b.num * a.den)
    rw [Int.natAbs_mul, Int.natAbs_mul, Int.natAbs_natCast, Int.natAbs_natCast] at h3
    rw [Nat.pow_succ]
    rw [Nat.add_comm n m] at h2
    omega
  · have h1 := two_pow_mul ha.2 hb.2
    rw [Nat.pow_succ]; omega
theorem Sz.neg {n : Nat} {a : Rat} (h : Sz n a) : Sz n (-a) := ⟨by rw [Rat.neg_num, Int.natAbs_neg]; exact h.1, by rw [Rat.neg_den]; exact h.2⟩
theorem Sz.sub {m n : Nat} {a b : Rat} (ha : Sz m a) (hb : Sz n b) : Sz (m + n + 1) (a - b) := by rw [Rat.sub_eq_add_neg]; exact ha.add hb.neg
theorem Sz.mul {m n : Nat} {a b : Rat} (ha : Sz m a) (hb : Sz n b) : Sz (m + n) (a * b) := by
  rw [← mul_mk]
  refine .mk ?_ (two_pow_mul ha.2 hb.2) (Nat.mul_ne_zero a.den_nz b.den_nz)
  rw [Int.natAbs_mul]; exact two_pow_mul ha.1 hb.1
theorem fr_inj {a b : Rat} (h : fr a = fr b) : a = b := by
  unfold fr at h
  simp only [D.tup.injEq, List.cons.injEq, D.int.injEq, and_true] at h
  exact Rat.ext h.1 (by omega)
theorem fr_eqb (a b : Rat) : (fr a).eqb (fr b) = decide (a = b) := by
  have e : (fr a).eqb (fr b) = (a.num == b.num && (((a.den : Int) == (b.den : Int)) && true)) := by
    simp [D.eqb, fr, D.py, D.pys, PyData.eqv, PyData.eqvAll]
  rw [e]
  by_cases h : a = b
  · subst h; simp
  · rw [decide_eq_false h]
    by_cases h1 : a.num = b.num
    · by_cases h2 : a.den = b.den
      · exact absurd (Rat.ext h1 h2) h
      · have h3 : ¬ ((a.den : Int) = (b.den : Int)) := fun z => h2 (by omega)
        simp [h3]
    · simp [h1]
theorem fr_eqC (a : Rat) : (fr a).eqC := by
  constructor
  · simp [fr, D.pure, D.pures]
  · simp [fr, D.py, D.pys, SeqAt.shaped, PyData.canLay0, PyData.canLayAll0, PyData.depth, PyData.depthAll]
theorem lt_8000 {n : Nat} (h : n < 2 ^ 6001) : n < 2 ^ 8000 := Nat.lt_of_lt_of_le h (Nat.pow_le_pow_right (by decide) (by decide))
/-- what * and // ask, of fractions of few bits -/
theorem mulW {a b : Int} (ha : a.natAbs < 2 ^ 3000) (hb : b.natAbs < 2 ^ 3000) : CMulW a b := wide_mul ha hb (by decide) (by decide) (by decide)
theorem Sz.n {q : Rat} (h : Sz 3000 q) : q.num.natAbs < 2 ^ 3000 := h.1
theorem Sz.d {q : Rat} (h : Sz 3000 q) : ((q.den : Int)).natAbs < 2 ^ 3000 := by rw [Int.natAbs_natCast]; exact h.2
theorem dd_pos (a b : Rat) : 0 < (a.den : Int) * (b.den : Int) := Int.mul_pos (den_pos a) (den_pos b)
theorem dd_size {a b : Rat} (ha : Sz 3000 a) (hb : Sz 3000 b) : ((a.den : Int) * (b.den : Int)).natAbs < 2 ^ 8000 := by
  rw [Int.natAbs_mul]
  exact lt_8000 (Nat.lt_of_lt_of_le (two_pow_mul ha.d hb.d) (Nat.pow_le_pow_right (by decide) (by decide)))
theorem dd_nat (a b : Rat) : ((a.den : Int) * (b.den : Int)).toNat = a.den * b.den := by rw [← Int.natCast_mul]; exact Int.toNat_natCast _
end Gh
set_option Elab.async false
set_option linter.all false
set_option maxRecDepth 100000
namespace Gh
open PySem PySem.Spec PyProof.Rows L2
/-- a def of the text, as it stands behind the top -/
structure Df (E : En) (st : Stmt) (f : Str) (ps : List Str) : Prop where
  ok : ∃ fa fd, Fun E.K f f st fa fd ∧ E.mg f = some (.ref fa) ∧ Binds E.K fd ps []
/-- the context of a def's body -/
abbrev bodyF (E : En) (N : List Str) (x : Str) (st : Stmt) (s : Sx) (fa : Addr) (cdv : Value) (A : Around) (outer : List Env) (sh : Shared) (H0 : Hp) (EX : XK) (S0 : List Addr) (p : Addr) : Fx :=
  ⟨(cxOf CX0 E.P E.w E.K E.mg E.base N x (defScope st) fa cdv A outer sh H0 EX).nox, H0, S0, p, s.isSome⟩
theorem Df.rn {E : En} {x : Str} {st : Stmt} {N ps : List Str} {k : Nat} {ds : List D} {s s' : Sx} {d : D} (T : Df E st x ps) (S : FnScope N ps (defScope st)) (kd : s.isSome = s'.isSome) (hl : ds.length = ps.length)
    (body : ∀ (fa : Addr) (cdv : Value) (A : Around) (outer : List Env) (sh : Shared) (H0 : Hp) (EX : XK) (S0 : List Addr) (p : Addr), Room k (bodyF E N x st s fa cdv A outer sh H0 EX S0 p).X.A →
      Bk (bodyF E N x st s fa cdv A outer sh H0 EX S0 p) (defBody st) (gStart N ds) s ⟨fun _ t => d = .non ∧ t = s', fun r t => r = d ∧ t = s', fun _ _ => False, fun _ _ => False⟩) : Rn E (k + 1) x ds s d s' := by
  obtain ⟨fa, fd, F, hm, hb⟩ := T.ok
  exact rn_of F S hm hb kd hl fun cdv A outer sh H0 EX S0 p hr => body fa cdv A outer sh H0 EX S0 p hr
section
variable {F : Fx} {ρ : List G} {s s1 s2 : Sx} {a b e : Expr} {pos p : Pos} {k : GE} {d : D}
theorem Ed.is {x y : D} (h : Ed F ρ s e x s1) (z : x = y) : Ed F ρ s e y s1 := by rw [← z]; exact h
/-- the stream's numbers -/
theorem ed_ixM {i : Int} {xs : List Int} {n : Int} (ha : Ed F ρ s a .mut (some xs)) (hb : Ed F ρ (some xs) b (.int i) (some xs)) (h : atI xs i = some n) (hs : PlainIx b := by exact fun _ _ => rfl) : Ed F ρ s (.Subscript a b pos) (.int n) (some xs) :=
  ⟨ha.1, fun O σ H f Q q => we (pe_ix ix_list pe_we pe_we hs) (ha.2 O σ H f _ fun v H1 f1 x1 r1 => hb.2 O σ H1 f1 _ fun w H2 f2 x2 r2 => by
    cases r1; cases r2
    have e : atI (xs.map V.int) i = some (.int n) := by
      unfold atI at h ⊢
      rw [List.length_map]
      cases e : ixN xs.length i with
      | none => rw [e] at h; cases h
      | some j => rw [e] at h; simp only [Option.bind_some] at h ⊢; rw [List.getElem?_map, h]; rfl
    exact ⟨_, _, i, _, rfl, rfl, .inl (.inl f2.st.2), e, q _ H2 f2 (x1.trans x2) (.int n)⟩)⟩
/-- the stream turned -/
theorem Fm.setM {O : List Addr} {σ : L2.St} {H : Hp} {xs ys : List Int} (f : Fm F O σ H ρ (some xs)) : Fm F O σ (upd H F.p (.lst (ys.map V.int))) ρ (some ys) ∧ XT (O ++ F.S0) H (upd H F.p (.lst (ys.map V.int))) := by
  have x : XP F.p (some xs) H (upd H F.p (.lst (ys.map V.int))) := ⟨fun a o e n => by
    rw [upd_ne (show a ≠ F.p from n.resolve_left fun z => by cases z)]; exact e, fun a h => upd_none h⟩
  exact ⟨f.grow x rfl ⟨f.st.1, upd_same⟩, (x.xt f.st).mono fun a m => List.mem_append_right _ m⟩
theorem bs_stM (i : Nat) {x : Str} {px ps : Pos} {ix : Expr} {xs : List Int} {n l : Int} {j : Nat} (hN : F.X.N[i]? = some x) (hv : Vis F.X.env.scope x) (hρ : ρ[i]? = some (.val .mut)) (h : Ed F ρ s e (.int n) (some xs)) (hi : Ed F ρ (some xs) ix (.int l) (some xs)) (hj : ixN xs.length l = some j) (hk : k.nx ρ (some (xs.set j n)))
    (hd : (x == ("__debug__" : Str)) = false := by decide) (hcd : (x == ("__classdict__" : Str)) = false := by decide) (hs : swapsWithSole [.Subscript (.Name x px) ix ps] e pos.line F.X.env = pure false := by rfl) (hw : swappedStores [.Subscript (.Name x px) ix ps] e F.X.env = pure none := by rfl)
    (h1 : (assignEach [.Subscript (.Name x px) ix ps] F.X.env).map (·.2) = [assign (.Subscript (.Name x px) ix ps) F.X.env] := by rfl)
    (ha : ∀ v, assign (.Subscript (.Name x px) ix ps) F.X.env v = (do
      let ov ← holding [v] (eval (.Name x px) F.X.env)
      let iv ← holding [v, ov] (eval ix F.X.env)
      standAt ps
      holding [v, ov, iv] (setItem ov iv v)
      release [v, ov, iv] []) := by intro _; rfl) : Bs F (.Assign [.Subscript (.Name x px) ix ps] e pos) ρ s k :=
  fun O σ H f E q => ws (ps_asg pe_we (pg_sub (pe_var hN hv hd hcd) pe_we set_list ha) hs hw h1) (h.2 O σ H f _ fun v H1 f1 x1 r1 => by
    cases r1
    obtain ⟨o, ho, w, e, r⟩ := f1.slot i _ hρ
    subst e
    cases r
    refine ⟨_, ho, hi.2 O σ H1 f1 _ fun w H2 f2 x2 r2 => ?_⟩
    cases r2
    refine ⟨_, xs.map V.int, l, j, rfl, rfl, f2.st.2, by rw [List.length_map]; exact hj, ?_⟩
    obtain ⟨f3, x3⟩ := f2.setM (ys := xs.set j n)
    have e : (xs.map V.int).set j (V.int n) = (xs.set j n).map V.int := by rw [List.map_set]
    rw [e]
    exact q.nx O σ _ ρ _ f3 (.of ((x1.xt.trans x2.xt).trans x3)) hk)
/-- a op b op c -/
theorem ed_chainII {op op' : CmpOp} {c : Expr} {i j l : Int} {g g' : Int → Int → Bool} (ho : OpR F.X (compareOp op) (rI0 fun i j => .bl (g i j))) (ho' : OpR F.X (compareOp op') (rI0 fun i j => .bl (g' i j))) (ha : Ed F ρ s a (.int i) s) (hb : Ed F ρ s b (.int j) s) (hc : Ed F ρ s c (.int l) s)
    (hm : lastMarks [op, op'] [b, c] = false := by with_unfolding_all rfl) : Ed F ρ s (.Compare a [op, op'] [b, c] pos) (.bl (g i j && g' j l)) s :=
  ⟨rfl, fun O σ H f Q q => we (pe_chain ho ho' pe_we pe_we pe_we hm) (ha.2 O σ H f _ fun v H1 f1 x1 r1 => hb.2 O σ H1 f1 _ fun w H2 f2 x2 r2 => by
    cases r1; cases r2
    refine ⟨i, j, rfl, rfl, g i j, rfl, ?_⟩
    cases e : g i j with
    | true => exact iteT (hc.2 O σ H2 f2 _ fun u H3 f3 x3 r3 => by cases r3; exact ⟨j, l, rfl, rfl, q _ H3 f3 ((x1.trans x2).trans x3) (by rw [e]; exact .bl _)⟩)
    | false => exact iteF (q _ H2 f2 (x1.trans x2) (by rw [e]; exact .bl _)))⟩
end
end Gh
namespace Gh
open PySem PySem.Spec PyProof.Rows L2
section
variable {F : Fx} {ρ : List G} {s s1 s2 s3 : Sx} {e : Expr} {es : List Expr} {d : D} {ds : List D} {pos p : Pos}
/-- f(..): the arguments first -/
theorem ed_cl {f : Str} {k : Nat} (ha : Ea F ρ s (e :: es) ds s1) (hr : Room k F.X.A) (R : Rn F.en k f ds s1 d s2) (hg : Gl F.X f := by rfl) (hdb : (f == ("__debug__" : Str)) = false := by decide)
    (he : starEach (e :: es) F.X.env = (false, eval e F.X.env) :: starEach es F.X.env := by rfl) (hpl : (backTo pos (starEach es F.X.env)).any (·.1) = false := by rfl) : Ed F ρ s (.Call (.Name f p) (e :: es) [] pos) d s2 := ed_call R hr ha hg hdb he hpl
end
end Gh
set_option Elab.async false
set_option linter.all false
set_option maxRecDepth 100000
set_option maxHeartbeats 2000000
/-! zip of any two of lists and tuples; enumerate of a tuple -/
namespace Zm
open PySem PySem.Spec PyProof.Rows L2
/-- t: a tuple's, else a list's -/
def Src (t : Bool) (h : Heap) (l : Addr) (xs : Array Value) : Prop := if t = true then h.IsTuple l xs else h.IsList l xs
def Run (t : Bool) (h : Heap) (i l : Addr) (k : Nat) : Prop := if t = true then h.IsTupleIter i l k else h.IsListIter i l k
section
variable {t : Bool} {h h' : Heap} {i l b : Addr} {k : Nat} {xs : Array Value}
theorem Src.but (x : Src t h l xs) (e : Heap.ExtBut b h h') (n : l ≠ b) : Src t h' l xs := by
  cases t with
  | true => exact Heap.IsTuple.extBut x e n
  | false => exact Heap.IsList.extBut x e n
theorem Run.but (x : Run t h i l k) (e : Heap.ExtBut b h h') (n : i ≠ b) : Run t h' i l k := by
  cases t with
  | true => exact Heap.IsTupleIter.extBut x e n
  | false => exact Heap.IsListIter.extBut x e n
theorem Run.to (x : Run t h i l k) (e : ∀ o, h.get? i = some o → h'.get? i = some o) : Run t h' i l k := by
  cases t with
  | true => exact Heap.IsTupleIter.at x e
  | false => exact Heap.IsListIter.at x e
theorem Run.obj (x : Run t h i l k) : ∃ o vs, h.get? i = some o ∧ o.data = .fields vs := by
  cases t with
  | true => obtain ⟨o, e, _, d⟩ := (show h.IsTupleIter i l k from x); exact ⟨o, _, e, d⟩
  | false => obtain ⟨o, e, _, d⟩ := (show h.IsListIter i l k from x); exact ⟨o, _, e, d⟩
theorem Run.lt (x : Run t h i l k) : i < h.objs.size := by
  obtain ⟨o, _, e, _⟩ := x.obj
  exact Heap.lt_size e
end
section
variable {prog : Program} {w : World} {A : Around} {E : Value → Shared → Prop} {s : Shared}
theorem next_item {t : Bool} {i l : Addr} {k : Nat} {xs : Array Value} {x : Value} {Q : Value → Shared → Prop} (hi : Run t s.heap i l k) (hl : Src t s.heap l xs) (hx : xs[k]? = some x)
    (q : ∀ h', Run t h' i l (k + 1) → Heap.SameBut i s.heap h' → Q x { s with heap := h' }) : wpAny (model prog w) A (Builtin.SmallTypes.nextOf (.ref i)) Q E s := by
  cases t with
  | true => exact RZ.nextOf_tuple_item hi hl hx q
  | false => exact wpAny_nextOf_list_item hi hl hx q
theorem next_end {t : Bool} {i l : Addr} {k : Nat} {xs : Array Value} {Q : Value → Shared → Prop} (hh : A.handled = none) (hi : Run t s.heap i l k) (hl : Src t s.heap l xs) (hx : xs[k]? = none)
    (q : ∀ h' e, Heap.ExtBut i s.heap h' → (∃ o, h'.get? e = some o ∧ o.cls = .type "StopIteration") → E (.ref e) { s with heap := h' }) : wpAny (model prog w) A (Builtin.SmallTypes.nextOf (.ref i)) Q E s := by
  cases t with
  | true => exact RZ.nextOf_tuple_end hh hi hl hx q
  | false => exact wpAny_nextOf_list_end hh hi hl hx q
variable {t u : Bool} {z TI TO i1 i2 l1 l2 : Addr} {k1 k2 : Nat} {xs ys : Array Value} {a b : Value}
/-- a turn that gives a pair -/
theorem zip_item {x y : Value} {Q : Value → Shared → Prop} (D : ZipApart z TI TO i1 i2 l1 l2) (hz : IsZip s.heap z TI TO .none) (hTI : IsPair s.heap TI (.ref i1) (.ref i2)) (hTO : IsPair s.heap TO a b) (h1 : Run t s.heap i1 l1 k1) (h2 : Run u s.heap i2 l2 k2)
    (hl1 : Src t s.heap l1 xs) (hl2 : Src u s.heap l2 ys) (hx : xs[k1]? = some x) (hy : ys[k2]? = some y)
    (hQ : ∀ h', IsZip h' z TI TO (rawInt s.heap.objs.size) → IsPair h' TO x y → Run t h' i1 l1 (k1 + 1) → Run u h' i2 l2 (k2 + 1) → IsPair h' s.heap.objs.size x y → h'.objs.size = s.heap.objs.size + 1 →
      (∀ c o, c ≠ z → c ≠ TO → c ≠ i1 → c ≠ i2 → s.heap.get? c = some o → h'.get? c = some o) → Q (.ref s.heap.objs.size) { s with heap := h' }) :
    wpAny (model prog w) A (Builtin.«zip.__next__» ⟨[.ref z], []⟩) (fun fin s' => ∃ v, fin = .done (.ret v) ∧ Q v s') E s := by
  show wpAny _ _ (field (.ref z) 2 >>= _) _ _ _
  refine wpAny_bind (wpAny_field hz rfl (x := .bool false) rfl ?_)
  show wpAny _ _ (field (.ref z) 3 >>= _) _ _ _
  refine wpAny_bind (wpAny_field hz rfl (x := .ref TI) rfl (wpAny_bind (wpAny_seqItems hTI rfl ?_)))
  show wpAny _ _ (Builtin.SmallTypes.ownedTupleIsFree (.ref z) >>= _) _ _ _
  refine wpAny_bind ?_
  unfold Builtin.SmallTypes.ownedTupleIsFree
  refine wpAny_bind (wpAny_field hz rfl (x := .none) rfl (wpAny_pure ?_))
  simp only [if_true]
  refine wpAny_bind (wpAny_rule (wpAny_bind (wpAny_field hz rfl (x := .ref TO) rfl (wpAny_bind (wpAny_setField_rec hz (by simp) fun g1 z1 s1 => ?_)))))
  replace z1 : IsZip g1 z TI TO .ellipsis := z1
  refine wpAny_bind ?_
  simp only [List.zipIdx_cons, List.zipIdx_nil, List.forIn_cons, List.forIn_nil]
  refine wpAny_bind (wpAny_bind (wpAny_onRaise ?_))
  show wpAny _ _ (Builtin.SmallTypes.nextOf (.ref i1) >>= _) _ _ _
  refine wpAny_bind (next_item (h1.but s1.extBut D.i1z) (hl1.but s1.extBut D.l1z) hx fun g2 r2 s2 => wpAny_pure ?_)
  have p2 : IsPair g2 TO a b := s2.extBut _ _ D.TOi1 (s1.extBut _ _ D.TOz hTO)
  refine wpAny_bind (wpAny_seqItems p2 rfl (wpAny_bind (wpAny_updateSeq_pair p2 fun g3 p3 s3 => ?_)))
  replace p3 : IsPair g3 TO x b := p3
  refine wpAny_bind (wpAny_letGo (wpAny_pure (wpAny_bind (wpAny_bind (wpAny_onRaise ?_)))))
  show wpAny _ _ (Builtin.SmallTypes.nextOf (.ref i2) >>= _) _ _ _
  refine wpAny_bind (next_item (((h2.but s1.extBut D.i2z).but s2.extBut D.i12.symm).but s3.extBut D.TOi2.symm) (((hl2.but s1.extBut D.l2z).but s2.extBut D.l2i1).but s3.extBut D.l2TO) hy fun g4 r4 s4 => wpAny_pure ?_)
  have p4 : IsPair g4 TO x b := s4.extBut _ _ D.TOi2 p3
  refine wpAny_bind (wpAny_seqItems p4 rfl (wpAny_bind (wpAny_updateSeq_pair p4 fun g5 p5 s5 => ?_)))
  replace p5 : IsPair g5 TO x y := p5
  refine wpAny_bind (wpAny_letGo (wpAny_pure (wpAny_pure (wpAny_bind (wpAny_seqItems p5 rfl (wpAny_bind (wpAny_newTuple ?_)))))))
  have sz : g5.objs.size = s.heap.objs.size := by rw [s5.1, s4.1, s3.1, s2.1, s1.1]
  have z5 : IsZip g5 z TI TO .ellipsis := s5.extBut _ _ D.TOz.symm (s4.extBut _ _ D.i2z.symm (s3.extBut _ _ D.TOz.symm (s2.extBut _ _ D.i1z.symm z1)))
  have r1' : Run t g5 i1 l1 (k1 + 1) := ((r2.but s3.extBut D.TOi1.symm).but s4.extBut D.i12).but s5.extBut D.TOi1.symm
  have r2' : Run u g5 i2 l2 (k2 + 1) := r4.but s5.extBut D.TOi2.symm
  have zlt : z < g5.objs.size := Heap.lt_size z5
  show wpAny _ _ (Builtin.SmallTypes.ownedTupleHandOut (.ref z) (.ref g5.objs.size) >>= _) _ _ _
  refine wpAny_bind ?_
  unfold Builtin.SmallTypes.ownedTupleHandOut
  have z6 : IsZip (g5.push { cls := .type "tuple", data := .seq #[x, y] }) z TI TO .ellipsis := Heap.get?_push_of_some _ z5
  refine wpAny_bind (wpAny_setField_rec z6 (by simp) fun g7 z7 s7 => ?_)
  replace z7 : IsZip g7 z TI TO (rawInt g5.objs.size) := z7
  refine wpAny_setField_rec z7 (by simp) fun g8 z8 s8 => ?_
  replace z8 : IsZip g8 z TI TO (rawInt g5.objs.size) := z8
  have up : ∀ c o, c ≠ z → g5.get? c = some o → g8.get? c = some o := fun c o n e => s8.extBut _ _ n (s7.extBut _ _ n (Heap.get?_push_of_some _ e))
  have p8 : IsPair g8 g5.objs.size x y := s8.extBut _ _ (Nat.ne_of_gt zlt) (s7.extBut _ _ (Nat.ne_of_gt zlt) (Heap.get?_push_size _ rfl))
  have sz8 : g8.objs.size = g5.objs.size + 1 := by rw [s8.1, s7.1, Heap.size_push]
  rw [sz] at z8 p8 sz8
  refine wpAny_pure ⟨_, rfl, ?_⟩
  show Q (.ref g5.objs.size) _
  rw [sz]
  exact hQ g8 z8 (up _ _ D.TOz p5) (r1'.to fun o e => up _ o D.i1z e) (r2'.to fun o e => up _ o D.i2z e) p8 sz8 fun c o n1 n2 n3 n4 e =>
    up c o n1 (s5.extBut _ _ n2 (s4.extBut _ _ n4 (s3.extBut _ _ n2 (s2.extBut _ _ n3 (s1.extBut _ _ n1 e)))))
/-- the turn at which one of both is through -/
theorem zip_end {Q : Fin → Shared → Prop} (hh : A.handled = none) (D : ZipApart z TI TO i1 i2 l1 l2) (hz : IsZip s.heap z TI TO .none) (hTI : IsPair s.heap TI (.ref i1) (.ref i2)) (hTO : IsPair s.heap TO a b) (h1 : Run t s.heap i1 l1 k1) (h2 : Run u s.heap i2 l2 k2)
    (hl1 : Src t s.heap l1 xs) (hl2 : Src u s.heap l2 ys) (hend : xs[k1]? = none ∨ ys[k2]? = none)
    (hE : ∀ h' e, (∀ c o, c ≠ z → c ≠ TO → c ≠ i1 → c ≠ i2 → s.heap.get? c = some o → h'.get? c = some o) → (∃ o, h'.get? e = some o ∧ o.cls = .type "StopIteration") → E (.ref e) { s with heap := h' }) :
    wpAny (model prog w) A (Builtin.«zip.__next__» ⟨[.ref z], []⟩) Q E s := by
  show wpAny _ _ (field (.ref z) 2 >>= _) _ _ _
  refine wpAny_bind (wpAny_field hz rfl (x := .bool false) rfl ?_)
  show wpAny _ _ (field (.ref z) 3 >>= _) _ _ _
  refine wpAny_bind (wpAny_field hz rfl (x := .ref TI) rfl (wpAny_bind (wpAny_seqItems hTI rfl ?_)))
  show wpAny _ _ (Builtin.SmallTypes.ownedTupleIsFree (.ref z) >>= _) _ _ _
  refine wpAny_bind ?_
  unfold Builtin.SmallTypes.ownedTupleIsFree
  refine wpAny_bind (wpAny_field hz rfl (x := .none) rfl (wpAny_pure ?_))
  simp only [if_true]
  refine wpAny_bind (wpAny_rule (wpAny_bind (wpAny_field hz rfl (x := .ref TO) rfl (wpAny_bind (wpAny_setField_rec hz (by simp) fun g1 z1 s1 => ?_)))))
  replace z1 : IsZip g1 z TI TO .ellipsis := z1
  refine wpAny_bind ?_
  simp only [List.zipIdx_cons, List.zipIdx_nil, List.forIn_cons, List.forIn_nil]
  refine wpAny_bind (wpAny_bind (wpAny_onRaise ?_))
  show wpAny _ _ (Builtin.SmallTypes.nextOf (.ref i1) >>= _) _ _ _
  cases hx : xs[k1]? with
  | none =>
    refine wpAny_bind (next_end hh (h1.but s1.extBut D.i1z) (hl1.but s1.extBut D.l1z) hx fun g2 e s2 he => ?_)
    obtain ⟨oe, hoe, hce⟩ := he
    have z2 : IsZip g2 z TI TO .ellipsis := s2 _ _ D.i1z.symm z1
    have ne : e ≠ z := fun q => by subst q; rw [z2] at hoe; cases hoe; simp at hce
    exact wpAny_setField_rec z2 (by simp) fun g3 _ s3 => hE g3 e (fun c o n1 _ n3 _ q => s3.extBut _ _ n1 (s2 _ _ n3 (s1.extBut _ _ n1 q))) ⟨oe, s3.extBut _ _ ne hoe, hce⟩
  | some x =>
    have hy : ys[k2]? = none := by rcases hend with h | h; rw [hx] at h; cases h; exact h
    refine wpAny_bind (next_item (h1.but s1.extBut D.i1z) (hl1.but s1.extBut D.l1z) hx fun g2 r2 s2 => wpAny_pure ?_)
    have p2 : IsPair g2 TO a b := s2.extBut _ _ D.TOi1 (s1.extBut _ _ D.TOz hTO)
    refine wpAny_bind (wpAny_seqItems p2 rfl (wpAny_bind (wpAny_updateSeq_pair p2 fun g3 p3 s3 => ?_)))
    refine wpAny_bind (wpAny_letGo (wpAny_pure (wpAny_bind (wpAny_bind (wpAny_onRaise ?_)))))
    show wpAny _ _ (Builtin.SmallTypes.nextOf (.ref i2) >>= _) _ _ _
    refine wpAny_bind (next_end hh (((h2.but s1.extBut D.i2z).but s2.extBut D.i12.symm).but s3.extBut D.TOi2.symm) (((hl2.but s1.extBut D.l2z).but s2.extBut D.l2i1).but s3.extBut D.l2TO) hy fun g4 e s4 he => ?_)
    obtain ⟨oe, hoe, hce⟩ := he
    have z4 : IsZip g4 z TI TO .ellipsis := s4 _ _ D.i2z.symm (s3.extBut _ _ D.TOz.symm (s2.extBut _ _ D.i1z.symm z1))
    have ne : e ≠ z := fun q => by subst q; rw [z4] at hoe; cases hoe; simp at hce
    exact wpAny_setField_rec z4 (by simp) fun g5 _ s5 => hE g5 e (fun c o n1 n2 n3 n4 q => s5.extBut _ _ n1 (s4 _ _ n4 (s3.extBut _ _ n2 (s2.extBut _ _ n3 (s1.extBut _ _ n1 q))))) ⟨oe, s5.extBut _ _ ne hoe, hce⟩
theorem py_item {x y : Value} {Q : Option Value → Shared → Prop} (D : ZipApart z TI TO i1 i2 l1 l2) (hz : IsZip s.heap z TI TO .none) (hTI : IsPair s.heap TI (.ref i1) (.ref i2)) (hTO : IsPair s.heap TO a b) (h1 : Run t s.heap i1 l1 k1) (h2 : Run u s.heap i2 l2 k2)
    (hl1 : Src t s.heap l1 xs) (hl2 : Src u s.heap l2 ys) (hx : xs[k1]? = some x) (hy : ys[k2]? = some y)
    (hQ : ∀ h', IsZip h' z TI TO (rawInt s.heap.objs.size) → IsPair h' TO x y → Run t h' i1 l1 (k1 + 1) → Run u h' i2 l2 (k2 + 1) → IsPair h' s.heap.objs.size x y → h'.objs.size = s.heap.objs.size + 1 →
      (∀ c o, c ≠ z → c ≠ TO → c ≠ i1 → c ≠ i2 → s.heap.get? c = some o → h'.get? c = some o) → Q (some (.ref s.heap.objs.size)) { s with heap := h' }) : wpAny (model prog w) A (pyNext (.ref z)) Q E s := by
  have hT : s.TypeIs (.ref z) "zip" := ⟨_, hz, rfl⟩
  unfold pyNext
  refine wpAny_bind (wpAny_attempt (wpAny_callSpecial?_slot (name := Str.ofString "__next__") hT F.slot_zip_next (wpAny_call_entry F.slot_zip_next hT F.entry_zip_next ?_ (F.args_zip_next_1 _))))
  exact zip_item D hz hTI hTO h1 h2 hl1 hl2 hx hy fun h' a1 a2 a3 a4 a5 a6 a7 => wpAny_pure (hQ h' a1 a2 a3 a4 a5 a6 a7)
theorem py_end {Q : Option Value → Shared → Prop} (hh : A.handled = none) (D : ZipApart z TI TO i1 i2 l1 l2) (hz : IsZip s.heap z TI TO .none) (hTI : IsPair s.heap TI (.ref i1) (.ref i2)) (hTO : IsPair s.heap TO a b) (h1 : Run t s.heap i1 l1 k1) (h2 : Run u s.heap i2 l2 k2)
    (hl1 : Src t s.heap l1 xs) (hl2 : Src u s.heap l2 ys) (hend : xs[k1]? = none ∨ ys[k2]? = none) (hQ : ∀ h', (∀ c o, c ≠ z → c ≠ TO → c ≠ i1 → c ≠ i2 → s.heap.get? c = some o → h'.get? c = some o) → Q none { s with heap := h' }) : wpAny (model prog w) A (pyNext (.ref z)) Q E s := by
  have hT : s.TypeIs (.ref z) "zip" := ⟨_, hz, rfl⟩
  unfold pyNext
  refine wpAny_bind (wpAny_attempt (wpAny_callSpecial?_slot (name := Str.ofString "__next__") hT F.slot_zip_next (wpAny_call_entry F.slot_zip_next hT F.entry_zip_next ?_ (F.args_zip_next_1 _))))
  refine zip_end hh D hz hTI hTO h1 h2 hl1 hl2 hend fun h' e hk he => ?_
  obtain ⟨o, ho, hc⟩ := he
  exact wpAny_bind (wpAny_isInstance (T := "StopIteration") (b := true) ⟨o, ho, hc⟩ isSubtype_stop (wpAny_pure (hQ _ hk)))
end
/-! the making -/
def itN (t : Bool) : String := if t = true then "tuple_iterator" else "list_iterator"
abbrev m1 (t : Bool) (h : Heap) (l1 : Addr) : Heap := h.push { cls := .type (itN t), data := .fields #[.ref l1, .int 0 0] }
abbrev m2 (t u : Bool) (h : Heap) (l1 l2 : Addr) : Heap := (m1 t h l1).push { cls := .type (itN u), data := .fields #[.ref l2, .int 0 0] }
abbrev m3 (t u : Bool) (h : Heap) (l1 l2 : Addr) : Heap := (m2 t u h l1 l2).push { cls := .type "tuple", data := .seq #[.ref h.objs.size, .ref (m1 t h l1).objs.size] }
abbrev m4 (t u : Bool) (h : Heap) (l1 l2 : Addr) : Heap := (m3 t u h l1 l2).push { cls := .type "tuple", data := .seq #[.none, .none] }
abbrev m5 (t u : Bool) (h : Heap) (l1 l2 : Addr) : Heap := (m4 t u h l1 l2).push { cls := .type "zip", data := .fields #[.none, .bool false, .bool false, .ref (m2 t u h l1 l2).objs.size, .ref (m3 t u h l1 l2).objs.size] }
theorem made (t u : Bool) (l1 l2 : Addr) (xs ys : Array Value) : Meets (Builtin.«zip.__new__» ⟨[.type "zip", .ref l1, .ref l2], []⟩) (fun _ R s => Src t s.heap l1 xs ∧ Src u s.heap l2 ys ∧ R (.ok (.ret (.ref (m4 t u s.heap l1 l2).objs.size))) { s with heap := m5 t u s.heap l1 l2 }) :=
  .of_wp fun prog w A R s h => by
    obtain ⟨hp, g, d, tk, os⟩ := s; obtain ⟨hl1, hl2, h⟩ := h
    have hsub := sub_zip
    cases t with
    | true =>
      have e1 : Heap.IsTuple (Shared.heap ⟨hp, g, d, tk, os⟩) l1 xs := hl1
      cases u with
      | true =>
        have e2 : Heap.IsTuple (Shared.heap ⟨hp.push { cls := .type "tuple_iterator", data := .fields #[.ref l1, .int 0 0] }, g, d, tk, os⟩) l2 ys := Heap.IsTuple.push hl2 _
        wp_walk using wpAny_pyIter_tuple e1, wpAny_pyIter_tuple e2
        exact ⟨_, rfl, h⟩
      | false =>
        have e2 : Heap.IsList (Shared.heap ⟨hp.push { cls := .type "tuple_iterator", data := .fields #[.ref l1, .int 0 0] }, g, d, tk, os⟩) l2 ys := Heap.IsList.push hl2 _
        wp_walk using wpAny_pyIter_tuple e1, wpAny_pyIter_list e2
        exact ⟨_, rfl, h⟩
    | false =>
      have e1 : Heap.IsList (Shared.heap ⟨hp, g, d, tk, os⟩) l1 xs := hl1
      cases u with
      | true =>
        have e2 : Heap.IsTuple (Shared.heap ⟨hp.push { cls := .type "list_iterator", data := .fields #[.ref l1, .int 0 0] }, g, d, tk, os⟩) l2 ys := Heap.IsTuple.push hl2 _
        wp_walk using wpAny_pyIter_list e1, wpAny_pyIter_tuple e2
        exact ⟨_, rfl, h⟩
      | false =>
        have e2 : Heap.IsList (Shared.heap ⟨hp.push { cls := .type "list_iterator", data := .fields #[.ref l1, .int 0 0] }, g, d, tk, os⟩) l2 ys := Heap.IsList.push hl2 _
        wp_walk using wpAny_pyIter_list e1, wpAny_pyIter_list e2
        exact ⟨_, rfl, h⟩
theorem run0 {t : Bool} {h : Heap} {i l : Addr} (e : h.get? i = some { cls := .type (itN t), data := .fields #[.ref l, .int 0 0] }) : Run t h i l 0 := by
  cases t with
  | true => exact ⟨_, e, rfl, rfl⟩
  | false => exact ⟨_, e, rfl, rfl⟩
section
variable {prog : Program} {w : World} {A : Around} {E : Value → Shared → Prop} {s : Shared}
theorem call_zip {t u : Bool} {l1 l2 : Addr} {xs ys : Array Value} {Q : Value → Shared → Prop} (hl1 : Src t s.heap l1 xs) (hl2 : Src u s.heap l2 ys)
    (h : ∀ h', IsZip h' (s.heap.objs.size + 4) (s.heap.objs.size + 2) (s.heap.objs.size + 3) .none → IsPair h' (s.heap.objs.size + 2) (.ref s.heap.objs.size) (.ref (s.heap.objs.size + 1)) → IsPair h' (s.heap.objs.size + 3) .none .none →
      Run t h' s.heap.objs.size l1 0 → Run u h' (s.heap.objs.size + 1) l2 0 → h'.objs.size = s.heap.objs.size + 5 → (∀ c o, s.heap.get? c = some o → h'.get? c = some o) → Q (.ref (s.heap.objs.size + 4)) { s with heap := h' }) :
    wpAny (model prog w) A (call (.type "zip") [.ref l1, .ref l2]) Q E s := by
  refine callType_new F.called_zip (by decide) (F.typeCall_zip_2 _ _) (F.newCall_zip_2 _ _) (fun obj => F.args_object_init_3 obj _ _) F.entry_zip_new (made t u l1 l2 xs ys) ⟨hl1, hl2, ?_⟩
  have n1 : (m1 t s.heap l1).objs.size = s.heap.objs.size + 1 := Heap.size_push ..
  have n2 : (m2 t u s.heap l1 l2).objs.size = s.heap.objs.size + 2 := by rw [Heap.size_push, n1]
  have n3 : (m3 t u s.heap l1 l2).objs.size = s.heap.objs.size + 3 := by rw [Heap.size_push, n2]
  have n4 : (m4 t u s.heap l1 l2).objs.size = s.heap.objs.size + 4 := by rw [Heap.size_push, n3]
  have n5 : (m5 t u s.heap l1 l2).objs.size = s.heap.objs.size + 5 := by rw [Heap.size_push, n4]
  have q5 : (m5 t u s.heap l1 l2).get? (m4 t u s.heap l1 l2).objs.size = some _ := Heap.get?_push_size _ rfl
  have q4 : (m5 t u s.heap l1 l2).get? (m3 t u s.heap l1 l2).objs.size = some _ := Heap.get?_push_of_some _ (Heap.get?_push_size _ rfl)
  have q3 : (m5 t u s.heap l1 l2).get? (m2 t u s.heap l1 l2).objs.size = some _ := Heap.get?_push_of_some _ (Heap.get?_push_of_some _ (Heap.get?_push_size _ rfl))
  have q2 : (m5 t u s.heap l1 l2).get? (m1 t s.heap l1).objs.size = some _ := Heap.get?_push_of_some _ (Heap.get?_push_of_some _ (Heap.get?_push_of_some _ (Heap.get?_push_size _ rfl)))
  have q1 : (m5 t u s.heap l1 l2).get? s.heap.objs.size = some _ := Heap.get?_push_of_some _ (Heap.get?_push_of_some _ (Heap.get?_push_of_some _ (Heap.get?_push_of_some _ (Heap.get?_push_size _ rfl))))
  show _ ∧ _
  rw [n2, n3, n4] at q5
  rw [n1, n2] at q3
  rw [n3] at q4
  rw [n1] at q2
  rw [n4]
  exact ⟨⟨_, q5, rfl⟩, h _ q5 q3 q4 (run0 q1) (run0 q2) n5 fun c o x => Heap.get?_push_of_some _ (Heap.get?_push_of_some _ (Heap.get?_push_of_some _ (Heap.get?_push_of_some _ (Heap.get?_push_of_some _ x))))⟩
end
/-! the walk over the layer -/
def Sq (t : Bool) (K : PySem.W.Frag) (H : Hp) (a : Addr) (xs : List V) : Prop := if t = true then SqT K H a xs else SqL K H a xs
section
variable {X : Cx} {pins : List (Addr × Obj)} {σ : L2.St} {H : Hp} {s : Shared}
theorem Sq.get {t : Bool} {a : Addr} {xs : List V} (I : Inv X pins σ H s) (h : Sq t X.K H a xs) : ∃ its, Vals xs its ∧ Src t s.heap a its.toArray ∧ a < s.heap.objs.size := by
  cases t with
  | true =>
    obtain ⟨its, rv, p, _⟩ := I.tuple (show SqT X.K H a xs from h)
    obtain ⟨o, ho, _⟩ := id p
    exact ⟨its, rv, p, Heap.lt_size ho⟩
  | false =>
    obtain ⟨its, rv, p, _⟩ := I.list (show SqL X.K H a xs from h)
    exact ⟨its, rv, p.isList, p.lt⟩
theorem Sq.inj {t : Bool} {a : Addr} {xs ys : List V} (I : Inv X pins σ H s) (h : Sq t X.K H a xs) (h' : Sq t X.K H a ys) : xs = ys := by
  cases t with
  | true => exact I.tuple_inj h h'
  | false => exact I.list_inj h h'
end
def Itm (t u : Bool) (K : PySem.W.Frag) (a b : Addr) : It :=
  ⟨fun i H => ∃ (xs ys : List V) (x y : V), Sq t K H a xs ∧ Sq u K H b ys ∧ xs[i]? = some x ∧ ys[i]? = some y,
    fun i H v H' => ∃ T x y, v = .ref T ∧ H T = none ∧ H' = upd H T (.tup [x, y]) ∧ (∀ xs, Sq t K H a xs → xs[i]? = some x) ∧ ∀ ys, Sq u K H b ys → ys[i]? = some y,
    fun i H => ∃ xs ys : List V, Sq t K H a xs ∧ Sq u K H b ys ∧ (xs.length ≤ i ∨ ys.length ≤ i)⟩
theorem turn {P : Program} {w : World} {K : PySem.W.Frag} {elts : List Expr} {kk : Nat} {tpos : Pos} {t u : Bool} {a b z TI TO i1 i2 : Addr} (D : ZipApart z TI TO i1 i2 a b) :
    Turn P w K (.Tuple elts kk tpos) (Itm t u K a b) [z, TI, TO, i1, i2] z (fun i h => IsZip h z TI TO .none ∧ IsPair h TI (.ref i1) (.ref i2) ∧ (∃ x y, IsPair h TO x y) ∧ Run t h i1 a i ∧ Run u h i2 b i) where
  mem := by simp
  obj := fun i h st c hc => by
    obtain ⟨hz, hTI, ⟨x, y, hTO⟩, r1, r2⟩ := st
    obtain ⟨o1, f1, e1, d1⟩ := r1.obj
    obtain ⟨o2, f2, e2, d2⟩ := r2.obj
    simp only [List.mem_cons, List.not_mem_nil, or_false] at hc
    rcases hc with q | q | q | q | q
    · rw [q]; exact ⟨_, hz, fun v q => nomatch q⟩
    · rw [q]; exact ⟨_, hTI, fun v q => nomatch q⟩
    · rw [q]; exact ⟨_, hTO, fun v q => nomatch q⟩
    · rw [q]; exact ⟨o1, e1, fun v q => by rw [d1] at q; cases q⟩
    · rw [q]; exact ⟨o2, e2, fun v q => by rw [d2] at q; cases q⟩
  keep := fun i h h' st k => by
    obtain ⟨hz, hTI, ⟨x, y, hTO⟩, h1, h2⟩ := st
    exact ⟨k z (by simp) _ hz, k TI (by simp) _ hTI, ⟨x, y, k TO (by simp) _ hTO⟩, h1.to fun o q => k i1 (by simp) o q, h2.to fun o q => k i2 (by simp) o q⟩
  item := by
    intro X hP hw hK hc i pins s σ H E I hf st hg
    subst hP hw hK
    obtain ⟨hz, hTI, ⟨x0, y0, hTO⟩, h1, h2⟩ := st
    obtain ⟨xs, ys, x, y, hqx, hqy, hx, hy⟩ := hg
    obtain ⟨its, rv, p, _⟩ := hqx.get I
    obtain ⟨its2, rv2, p2, _⟩ := hqy.get I
    obtain ⟨v1, hu, ru⟩ := rv.get hx
    obtain ⟨v2, hu2, ru2⟩ := rv2.get hy
    have zl : z < s.heap.objs.size := Heap.lt_size hz
    refine py_item D hz hTI hTO h1 h2 p p2 (x := v1) (y := v2) (by simpa using hu) (by simpa using hu2) fun h' z' TO' h1' h2' hT hsz hk => ?_
    refine ⟨_, rfl, wpAny_letOwnedTupleGo_zip (s := { s with heap := h' }) z' fun h'' z'' sb => ?_⟩
    have hT2 : h''.get? s.heap.objs.size = some { cls := .type "tuple", data := .seq #[v1, v2] } := (sb.2 _ (Nat.ne_of_gt zl)).trans hT
    have new : ObjOk X.prog X.w (upd H s.heap.objs.size (.tup [x, y])) h'' s.heap.objs.size (.tup [x, y]) := ⟨by show 2 ≤ sizeLine; decide, [v1, v2], .cons ru (.cons ru2 .nil), ⟨_, hT2, rfl, _, rfl⟩⟩
    have I1 : Inv X pins σ (upd H s.heap.objs.size (.tup [x, y])) { s with heap := h'' } := I.turnedNew (t' := s.toks) (ch := [z, TI, TO, i1, i2])
      (fun c o hb q => (sb.2 c (fun q' => hb (by simp [q']))).trans (hk c o (fun q' => hb (by simp [q'])) (fun q' => hb (by simp [q'])) (fun q' => hb (by simp [q'])) (fun q' => hb (by simp [q'])) q)) hf (Nat.le_refl _) new
    refine ⟨.ref s.heap.objs.size, _, I1, rfl, ⟨_, x, y, rfl, I.hok.fresh (Nat.le_refl _), rfl, fun l hl => by rw [hl.inj I hqx]; exact hx, fun l hl => by rw [hl.inj I hqy]; exact hy⟩, ⟨z'', ?_, ⟨v1, v2, ?_⟩, ?_, ?_⟩, fun c hcm => ?_⟩
    · exact (sb.2 _ D.TIz).trans (hk _ _ D.TIz D.TITO D.TIi1 D.TIi2 hTI)
    · exact (sb.2 _ D.TOz).trans TO'
    · exact h1'.to fun o q => (sb.2 _ D.i1z).trans q
    · exact h2'.to fun o q => (sb.2 _ D.i2z).trans q
    · have hlt : c < s.heap.objs.size := by
        simp only [List.mem_cons, List.not_mem_nil, or_false] at hcm
        rcases hcm with q | q | q | q | q
        · rw [q]; exact zl
        · rw [q]; exact Heap.lt_size hTI
        · rw [q]; exact Heap.lt_size hTO
        · rw [q]; exact h1.lt
        · rw [q]; exact h2.lt
      rw [upd_ne (Nat.ne_of_lt hlt)]
      exact (hf c hcm).1
  done := by
    intro X hP hw hK hc i pins s σ H E I hf st hg
    subst hP hw hK
    obtain ⟨hz, hTI, ⟨x0, y0, hTO⟩, h1, h2⟩ := st
    obtain ⟨xs, ys, hqx, hqy, hend⟩ := hg
    obtain ⟨its, rv, p, _⟩ := hqx.get I
    obtain ⟨its2, rv2, p2, _⟩ := hqy.get I
    have l1 := rv.length
    have l2 := rv2.length
    have he : its.toArray[i]? = none ∨ its2.toArray[i]? = none := by
      rcases hend with q | q
      · exact .inl (by simp; omega)
      · exact .inr (by simp; omega)
    exact py_end (I.ok.hd hc) D hz hTI hTO h1 h2 p p2 he fun h' hk => ⟨rfl, I.turnedL (t' := s.toks) (ch := [z, TI, TO, i1, i2]) (fun c o hb q =>
      hk c o (fun q' => hb (by simp [q'])) (fun q' => hb (by simp [q'])) (fun q' => hb (by simp [q'])) (fun q' => hb (by simp [q'])) q) hf⟩
  self := fun A i s Q E st h => wpAny_pyIter_zip st.1 h
def iZipM (K : PySem.W.Frag) (ta : TA) : TI := fun σ H R => ta σ H fun vs H1 => ∃ t u a b xs ys, vs = [.ref a, .ref b] ∧ Sq t K H1 a xs ∧ Sq u K H1 b ys ∧ R (Itm t u K a b) H1
theorem pi_zipM {X : Cx} {e e2 : Expr} {ta : TA} {p pos tpos : Pos} {elts : List Expr} {kk : Nat} (hg : Gl X "zip") (hm : X.mg "zip" = none) (ha : PA X [e, e2] ta)
    (hs : starEach [e, e2] X.env = (false, eval e X.env) :: starEach [e2] X.env := by rfl) (hpl : (backTo pos (starEach [e2] X.env)).any (·.1) = false := by rfl) : PI X (.Tuple elts kk tpos) (.Call (.Name "zip" p) [e, e2] [] pos) (iZipM X.K ta) := by
  refine ⟨fun pins s σ H R I h => ?_⟩
  refine Call_ (ld_blt I hg hm PyProof.Rows.boot_zip (PyProof.Rows.callWith_type1 (thn (ha.run pos pins s σ H _ I h) fun us s1 ⟨vs, H1, I1, r1, q1⟩ => ?_) hs hpl))
  obtain ⟨t, u, a, b, xs, ys, ex, hqx, hqy, q⟩ := q1
  subst ex
  cases r1 with
  | cons r rr =>
    cases rr with
    | cons r' rr =>
      cases rr; cases r; cases r'
      obtain ⟨its, rv, p1, la⟩ := hqx.get I1
      obtain ⟨its2, rv2, p2, lb⟩ := hqy.get I1
      refine call_zip p1 p2 fun h' hz hTI hTO h1 h2 hsz hk => wpAny_pyIter_zip hz ?_
      have I2 : Inv X pins σ H1 { s1 with heap := h' } := I1.kept (t' := s1.toks) hk
      refine ⟨s1.heap.objs.size + 4, [s1.heap.objs.size + 4, s1.heap.objs.size + 2, s1.heap.objs.size + 3, s1.heap.objs.size, s1.heap.objs.size + 1], _, _, H1, rfl, I2, turn (PySem.W.ktu_apart s1.heap.objs.size a b la lb), ⟨hz, hTI, ⟨_, _, hTO⟩, h1, h2⟩, fun c hcm => ?_, q⟩
      have hle : s1.heap.objs.size ≤ c := by
        simp only [List.mem_cons, List.not_mem_nil, or_false] at hcm
        rcases hcm with z | z | z | z | z <;> rw [z] <;> first | exact Nat.le_add_right _ _ | exact Nat.le_refl _
      exact I1.fpOk hle (I1.hok.fresh hle)
theorem walk {t u : Bool} {K : PySem.W.Frag} {a b : Addr} {xs ys : List V} {n : Nat} (hn : n = min xs.length ys.length) : Walk (Itm t u K a b) n (fun H => Sq t K H a xs ∧ Sq u K H b ys) (YPair (fun i => xs[i]?) (fun i => ys[i]?)) := by
  subst hn
  refine ⟨fun i _ hi q => ?_, fun _ q => ⟨xs, ys, q.1, q.2, by omega⟩, fun i H v H' _ q y => ?_⟩
  · have h1 : i < xs.length := by omega
    have h2 : i < ys.length := by omega
    exact ⟨xs, ys, xs[i], ys[i], q.1, q.2, by simp [h1], by simp [h2]⟩
  · obtain ⟨T, x, z, h1, h2, h3, h4, h5⟩ := y
    exact ⟨T, x, z, h1, h2, h3, h4 xs q.1, h5 ys q.2⟩
end Zm
namespace Gh
open PySem PySem.Spec PyProof.Rows L2
section
variable {F : Fx} {ρ : List G} {s s1 s2 s3 : Sx} {a b e : Expr} {x y d : D} {xs ys : List D} {pos p : Pos}
theorem rp_sq {K : PySem.W.Frag} {q : Addr} {S : List Addr} {H1 : Hp} {v : V} (r : Rp K q S H1 v x) (hx : x = .lst xs ∨ x = .tup xs) : ∃ (t : Bool) (c : Addr) (vs : List V), v = .ref c ∧ Rps K q S H1 vs xs ∧ Zm.Sq t K H1 c vs ∧ ∀ H2, XT S H1 H2 → Zm.Sq t K H2 c vs := by
  rcases hx with rfl | rfl
  · cases r with
    | lst m h1 h2 => exact ⟨false, _, _, rfl, h2, .inl (.inl h1), fun H2 x2 => .inl (.inl (x2.1 _ _ m h1))⟩
  · cases r with
    | tup h1 h2 =>
      refine ⟨true, _, _, rfl, h2, h1.sq, fun H2 x2 => ?_⟩
      rcases h1 with ⟨m, h1⟩ | h1
      · exact .inl (rd_ext x2 m h1)
      · exact SU.sq (S := []) (.inr h1)
/-- zip of any two of lists and tuples -/
theorem ei_zipM {kk : Nat} {tpos : Pos} {elts : List Expr} (B : Bf F.X.mg) (ha : Ed F ρ s a x s1) (hx : x = .lst xs ∨ x = .tup xs) (hb : Ed F ρ s1 b y s2) (hy : y = .lst ys ∨ y = .tup ys) (hg : Gl F.X "zip" := by rfl) (he : starEach [a, b] F.X.env = (false, eval a F.X.env) :: starEach [b] F.X.env := by rfl)
    (he2 : starEach [b] F.X.env = (false, eval b F.X.env) :: starEach [] F.X.env := by rfl) (hpl : (backTo pos (starEach [b] F.X.env)).any (·.1) = false := by rfl) : Ei F ρ s (.Tuple elts kk tpos) (.Call (.Name "zip" p) [a, b] [] pos) (zipD xs ys) s2 := by
  refine ⟨ha.1.trans hb.1, fun O σ H f R q => wi (Zm.pi_zipM hg B.zip (pa_cons pe_we (pa_cons pe_we pa_nil he2) he) he hpl) (ha.2 O σ H f _ fun v H1 f1 x1 r1 => hb.2 O σ H1 f1 _ fun w H2 f2 x2 r2 => ?_)⟩
  obtain ⟨t, c1, vs, rfl, h2, q1, w1⟩ := rp_sq (r1.ext x2.xt) hx
  obtain ⟨u, c2, us, rfl, h4, q2, w2⟩ := rp_sq r2 hy
  refine ⟨t, u, c1, c2, vs, us, rfl, q1, q2, q _ _ f2 (x1.trans x2) ?_⟩
  refine (Zm.walk (n := (zipD xs ys).length) (by simp [zipD, h2.length, h4.length])).mono (fun H3 x3 => ⟨w1 H3 x3, w2 H3 x3⟩) fun i H3 z H4 hi x3 y => ?_
  obtain ⟨T, u, t, rfl, n, rfl, e1, e2⟩ := y
  obtain ⟨d1, g1, k1⟩ := h2.getV e1
  obtain ⟨d2, g2, k2⟩ := h4.getV e2
  refine ⟨fun c o h => by rw [upd_ne (ne_of_none h n)]; exact h, .tup [d1, d2], by simp [zipD, List.getElem?_zipWith, g1, g2], fun O' g => ?_⟩
  have nT : T ∉ O' ++ F.S0 := fun m => by
    rcases List.mem_append.mp m with m | m
    · obtain ⟨_, o, ho⟩ := g T m
      rw [n] at ho; cases ho
    · exact f2.fresh (x3.2 T n) (List.mem_append_right _ m)
  exact .tup (.inl ⟨nT, .inl upd_same⟩) (.cons ((rp_later k1 x3 fun a m => (g a m).1).ext (.new n)) (.cons ((rp_later k2 x3 fun a m => (g a m).1).ext (.new n)) .nil))

/-! constants of the module -/
structure Cst (E : En) (x : Str) (d : D) : Prop where
  ok : ∃ v u, E.mg x = some u ∧ RelV v u ∧ ∀ p S H, Rp E.K p S H v d
theorem ed_cst {x : Str} (c : Cst F.en x d) (hg : Gl F.X x := by rfl) (hd : (x == ("__debug__" : Str)) = false := by decide) : Ed F ρ s (.Name x pos) d s := by
  obtain ⟨v, u, h1, h2, h3⟩ := c.ok
  exact ed_glob hg h1 h2 h3 hd
/-- a dict of the module with text keys: what a key stands for, if anything -/
structure Kdt (E : En) (x : Str) (at_ : Str → Option (Option D)) : Prop where
  ok : ∃ d es n, E.mg x = some (.ref d) ∧ KDict E.K E.w d es n ∧ ∀ z o, at_ z = some o → ∃ r, PySem.W.nsIn E.K d z = some r ∧ (match o with
    | none => r = none
    | some y => ∃ u v, r = some u ∧ RelV v u ∧ ∀ p S H, Rp E.K p S H v y)
theorem cp_inKD {x z : Str} {at_ : Str → Option (Option D)} {o : Option D} (k : Kdt F.en x at_) (ha : Ed F ρ s a (.str z) s1) (ho : at_ z = some o) (hg : Gl F.X x := by rfl) (hd : (x == ("__debug__" : Str)) = false := by decide) (hm : behindInMarks .In (.Name x p) = false := by rfl) : Cp F ρ s .In a (.Name x p) o.isSome s1 := by
  obtain ⟨d, es, n, h1, h2, h3⟩ := k.ok
  obtain ⟨r, h4, h5⟩ := h3 z o ho
  have e : r.isSome = o.isSome := by
    cases o with
    | none => rw [h5]; rfl
    | some y => obtain ⟨u, v, e, _⟩ := h5; rw [e]; rfl
  refine cp_of (y := .ref d) (op_in_kd h2) ha (ed_glob (v := .ref d) hg h1 rfl (fun _ _ _ => .ref d) hd) (fun O σ H f v w r1 r2 Q q => ?_) hm
  cases r1; cases r2
  exact ⟨z, r, rfl, rfl, h4, by rw [e]; exact q _ _ f .refl (.bl _)⟩
theorem ed_ixKD {x z : Str} {at_ : Str → Option (Option D)} {y : D} (k : Kdt F.en x at_) (hb : Ed F ρ s b (.str z) s1) (ho : at_ z = some (some y)) (hg : Gl F.X x := by rfl) (hd : (x == ("__debug__" : Str)) = false := by decide) (hs : PlainIx b := by exact fun _ _ => rfl) : Ed F ρ s (.Subscript (.Name x p) b pos) y s1 := by
  obtain ⟨d, es, n, h1, h2, h3⟩ := k.ok
  obtain ⟨r, h4, u, v, e, hu, hv⟩ := h3 z _ ho
  subst e
  refine ⟨hb.1, fun O σ H f Q q => we (pe_ix ix_kdict (pe_glob (v := .ref d) hg h1 rfl hd) pe_we hs) (hb.2 O σ H f _ fun w H1 f1 x1 r1 => ?_)⟩
  cases r1
  exact ⟨d, z, v, rfl, rfl, ⟨es, n, u, h2.at_, h2.lit, h4, hu⟩, q _ _ f1 x1 (hv _ _ _)⟩
/-! a def as a value, and its call by a local name -/
/-- the name holds the def f of the text -/
structure Hf (E : En) (f : Str) (a : Addr) : Prop where
  mg : E.mg f = some (.ref a)
theorem ed_fun {f : Str} {c : Addr} (h : Hf F.en f c) (hg : Gl F.X f := by rfl) (hd : (f == ("__debug__" : Str)) = false := by decide) : Ed F ρ s (.Name f pos) (.ref c) s := ed_glob (v := .ref c) hg h.mg rfl (fun _ _ _ => .ref c) hd
theorem ed_clL (i : Nat) {x f : Str} {c : Addr} {k : Nat} {es : List Expr} {ds : List D} (h : Hf F.en f c) (hN : F.X.N[i]? = some x) (hv : Vis F.X.env.scope x) (hρ : ρ[i]? = some (.val (.ref c))) (ha : Ea F ρ s (e :: es) ds s1) (hr : Room k F.X.A) (R : Rn F.en k f ds s1 d s2)
    (hdb : (x == ("__debug__" : Str)) = false := by decide) (hcd : (x == ("__classdict__" : Str)) = false := by decide) (he : starEach (e :: es) F.X.env = (false, eval e F.X.env) :: starEach es F.X.env := by rfl) (hpl : (backTo pos (starEach es F.X.env)).any (·.1) = false := by rfl) :
    Ed F ρ s (.Call (.Name x p) (e :: es) [] pos) d s2 := by
  obtain ⟨kd, fa, fd, ps, h1, h2, h3, h4⟩ := R
  obtain rfl : fa = c := by
    have z := h1.symm.trans h.mg
    cases z; rfl
  refine ⟨ha.1.trans kd, fun O σ H fm Q q => we (pe_callL h4 hr hN hv h2 h3 .nil pass0 pa_wa hdb hcd he hpl) ?_⟩
  obtain ⟨o, ho, v, eo, r⟩ := fm.slot i _ hρ
  subst eo
  cases r
  refine ⟨ho, ha.2 O σ H fm _ fun vs H1 f1 x1 r1 => ?_⟩
  rw [List.append_nil]
  refine ⟨F.p, O ++ F.S0, r1, f1.trk, ?_, fun v H2 r2 x2 t2 => ?_⟩
  · have q := f1.st
    cases s1 with
    | none => trivial
    | some ys => exact ⟨List.mem_append_right _ q.1, q.2⟩
  · have t3 : StA F.p F.S0 H2 s2 := by
      have q := f1.st
      cases s2 with
      | none => trivial
      | some ys =>
        cases s1 with
        | none => cases kd
        | some zs => exact ⟨q.1, t2.2⟩
    exact q v H2 (f1.grow x2 kd t3) (x1.trans (x2.xe f1.st f1.kd)) r2
end
end Gh
set_option Elab.async false
set_option linter.all false
set_option maxRecDepth 100000
set_option maxHeartbeats 4000000
namespace Gh
open PySem PySem.Spec PyProof.Rows L2
section
variable {F : Fx} {ρ : List G} {s s1 s2 s3 : Sx} {a b c e : Expr} {es : List Expr} {x y z d : D} {xs ys zs ds : List D} {pos p : Pos} {k : GE}
/-! tuples -/
theorem ed_catT (hl : xs.length + ys.length ≤ sizeLine) (ha : Ed F ρ s a (.tup xs) s1) (hb : Ed F ρ s1 b (.tup ys) s2) : Ed F ρ s (.BinOp a .Add b pos) (.tup (xs ++ ys)) s2 :=
  ed_op op_catA ha hb (fun O σ H f v w r1 r2 Q q => by
    cases r1 with
    | tup h1 h2 =>
      cases r2 with
      | tup h3 h4 =>
        refine ⟨_, _, _, _, rfl, rfl, h1.sq, h3.sq, by rw [h2.length, h4.length]; exact hl, fun z => ?_, fun _ z => ?_, fun _ _ t n => ?_⟩
        · subst z; cases h2; exact q _ _ f .refl (.tup h3 h4)
        · subst z; cases h4; exact q _ _ f .refl (by rw [List.append_nil]; exact .tup h1 h2)
        · exact q _ _ (f.new n) (.new n) (.tup (.inl ⟨f.fresh n, .inl upd_same⟩) ((h2.append h4).ext (.new n))))
theorem ed_sliceT {lo hi : Option Expr} {i j : Option Int} {p2 : Pos} (ha : Ed F ρ s a (.tup xs) s1) (hl : Eo F ρ s1 lo i s2) (hh : Eo F ρ s2 hi j s3) : Ed F ρ s (.Subscript a (.Slice lo hi none p2) pos) (.tup (cutD xs i j)) s3 := by
  have fin : ∀ O σ H H3, Fm F O σ H ρ s → Fm F O σ H3 ρ s3 → XE F H H3 → ∀ v, Rp F.X.K F.p (O ++ F.S0) H3 v (.tup xs) → ∀ Q : VK, (∀ v H', Fm F O σ H' ρ s3 → XE F H H' → Rp F.X.K F.p (O ++ F.S0) H' v (.tup (cutD xs i j)) → Q v H') → rSlA F.X.K v i j H3 Q := by
    intro O σ H H3 f f3 x3 v r Q q
    cases r with
    | tup h1 h2 =>
      refine ⟨_, _, rfl, h1.sq, fun z => q _ _ f3 x3 ?_, fun z t n => q _ _ (f3.new n) (x3.trans (.new n)) (.tup (.inl ⟨f3.fresh n, .inl upd_same⟩) ((rps_cut h2 i j).ext (.new n)))⟩
      have e : cutD xs i j = xs := by
        rw [h2.length] at z
        unfold cutD
        rw [z.1, z.2, List.drop_zero, Nat.sub_zero, List.take_length]
      rw [e]
      exact .tup h1 h2
  cases hl with
  | none =>
    cases hh with
    | none => exact ⟨ha.1, fun O σ H f Q q => we (pe_slice sl_tupA pe_we po_none po_none) (ha.2 O σ H f _ fun v H1 f1 x1 r1 => fin O σ H H1 f f1 x1 v r1 Q q)⟩
    | some hb => exact ⟨ha.1.trans hb.1, fun O σ H f Q q => we (pe_slice sl_tupA pe_we po_none (po_some pe_we)) (ha.2 O σ H f _ fun v H1 f1 x1 r1 => hb.2 O σ H1 f1 _ fun w H2 f2 x2 r2 => by
        cases r2; exact ⟨_, rfl, fin O σ H H2 f f2 (x1.trans x2) v (r1.ext x2.xt) Q q⟩)⟩
  | some hc =>
    cases hh with
    | none => exact ⟨ha.1.trans hc.1, fun O σ H f Q q => we (pe_slice sl_tupA pe_we (po_some pe_we) po_none) (ha.2 O σ H f _ fun v H1 f1 x1 r1 => hc.2 O σ H1 f1 _ fun w H2 f2 x2 r2 => by
        cases r2; exact ⟨_, rfl, fin O σ H H2 f f2 (x1.trans x2) v (r1.ext x2.xt) Q q⟩)⟩
    | some hb => exact ⟨(ha.1.trans hc.1).trans hb.1, fun O σ H f Q q => we (pe_slice sl_tupA pe_we (po_some pe_we) (po_some pe_we)) (ha.2 O σ H f _ fun v H1 f1 x1 r1 => hc.2 O σ H1 f1 _ fun w H2 f2 x2 r2 => by
        cases r2
        exact ⟨_, rfl, hb.2 O σ H2 f2 _ fun w H3 f3 x3 r3 => by cases r3; exact ⟨_, rfl, fin O σ H H3 f f3 ((x1.trans x2).trans x3) v ((r1.ext x2.xt).ext x3.xt) Q q⟩⟩)⟩
/-- a slice of the script -/
theorem el_sliceS {lo hi : Option Expr} {i j : Option Int} {p2 : Pos} {ns : List Int} (ha : Ed F ρ s a (.scr ns) s1) (hl : Eo F ρ s1 lo i s2) (hh : Eo F ρ s2 hi j s3) : El F ρ s (.Subscript a (.Slice lo hi none p2) pos) ((cutD ns i j).map D.int) s3 := by
  have fin : ∀ O σ H H3, Fm F O σ H ρ s → Fm F O σ H3 ρ s3 → XE F H H3 → ∀ v, Rp F.X.K F.p (O ++ F.S0) H3 v (.scr ns) → ∀ Q : VK, (∀ a vs H', Fm F (a :: O) σ H' ρ s3 → XE F H H' → H a = none → H' a = some (.lst vs) → Rps F.X.K F.p (a :: (O ++ F.S0)) H' vs ((cutD ns i j).map D.int) → Q (.ref a) H') → rSlL F.X.K v i j H3 Q := by
    intro O σ H H3 f f3 x3 v r Q q
    cases r with
    | scr h1 =>
      refine ⟨_, _, rfl, h1.sq, fun t n => q t _ _ (f3.newO n) (x3.trans (.new n)) (x3.2 t n) upd_same ?_⟩
      have e : cutV (ns.map V.int) i j = (cutD ns i j).map V.int := by
        unfold cutV cutD
        rw [List.length_map, List.map_take, List.map_drop]
      rw [e]
      exact .ofInts _
  cases hl with
  | none =>
    cases hh with
    | none => exact ⟨ha.1, fun O σ H f Q q => we (pe_slice sl_list pe_we po_none po_none) (ha.2 O σ H f _ fun v H1 f1 x1 r1 => fin O σ H H1 f f1 x1 v r1 Q q)⟩
    | some hb => exact ⟨ha.1.trans hb.1, fun O σ H f Q q => we (pe_slice sl_list pe_we po_none (po_some pe_we)) (ha.2 O σ H f _ fun v H1 f1 x1 r1 => hb.2 O σ H1 f1 _ fun w H2 f2 x2 r2 => by
        cases r2; exact ⟨_, rfl, fin O σ H H2 f f2 (x1.trans x2) v (r1.ext x2.xt) Q q⟩)⟩
  | some hc =>
    cases hh with
    | none => exact ⟨ha.1.trans hc.1, fun O σ H f Q q => we (pe_slice sl_list pe_we (po_some pe_we) po_none) (ha.2 O σ H f _ fun v H1 f1 x1 r1 => hc.2 O σ H1 f1 _ fun w H2 f2 x2 r2 => by
        cases r2; exact ⟨_, rfl, fin O σ H H2 f f2 (x1.trans x2) v (r1.ext x2.xt) Q q⟩)⟩
    | some hb => exact ⟨(ha.1.trans hc.1).trans hb.1, fun O σ H f Q q => we (pe_slice sl_list pe_we (po_some pe_we) (po_some pe_we)) (ha.2 O σ H f _ fun v H1 f1 x1 r1 => hc.2 O σ H1 f1 _ fun w H2 f2 x2 r2 => by
        cases r2
        exact ⟨_, rfl, hb.2 O σ H2 f2 _ fun w H3 f3 x3 r3 => by cases r3; exact ⟨_, rfl, fin O σ H H3 f f3 ((x1.trans x2).trans x3) v ((r1.ext x2.xt).ext x3.xt) Q q⟩⟩)⟩
theorem el_ifT (hc : Et F ρ s c true s1) (ha : El F ρ s1 a ds s2) : El F ρ s (.IfExp c a b pos) ds s2 :=
  ⟨hc.1.trans ha.1, fun O σ H f Q q => we (pe_ifExp pt_wt pe_we pe_we) (hc.2 O σ H f _ fun H1 f1 x1 => iteT (ha.2 O σ H1 f1 _ fun v vs H2 f2 x2 n2 h2 r2 => q v vs H2 f2 (x1.trans x2) (x1.2 v n2) h2 r2))⟩
theorem el_ifF (hc : Et F ρ s c false s1) (hb : El F ρ s1 b ds s2) : El F ρ s (.IfExp c a b pos) ds s2 :=
  ⟨hc.1.trans hb.1, fun O σ H f Q q => we (pe_ifExp pt_wt pe_we pe_we) (hc.2 O σ H f _ fun H1 f1 x1 => iteF (hb.2 O σ H1 f1 _ fun v vs H2 f2 x2 n2 h2 r2 => q v vs H2 f2 (x1.trans x2) (x1.2 v n2) h2 r2))⟩
theorem El.is (h : El F ρ s e xs s1) (z : xs = ys) : El F ρ s e ys s1 := by rw [← z]; exact h
/-- an expression that turns owned lists -/
def Em (F : Fx) (ρ : List G) (s : Sx) (e : Expr) (d : D) (ρ' : List G) (s' : Sx) : Prop :=
  s.isSome = s'.isSome ∧ ∀ O σ H, Fm F O σ H ρ s → ∀ Q : VK, (∀ v H', Fm F O σ H' ρ' s' → XT (O ++ F.S0) H H' → Rp F.X.K F.p (O ++ F.S0) H' v d → Q v H') → WE F.X e σ H Q
theorem Ed.em (h : Ed F ρ s e d s1) : Em F ρ s e d ρ s1 := ⟨h.1, fun O σ H f Q q => h.2 O σ H f Q fun v H' f' x' r' => q v H' f' x'.xt r'⟩
/-- x.pop(e), x owned -/
theorem em_pop (i : Nat) {x : Str} {px pa : Pos} {cpos : Pos} {n : Nat} (hi : F.X.N[i]? = some x) (hv : Vis F.X.env.scope x) (hρ : ρ[i]? = some (.own xs)) (h : Ed F ρ s e (.int n) s1) (hd' : xs[n]? = some d) (hz : xs.length ≤ sizeLine)
    (hd : (x == ("__debug__" : Str)) = false := by decide) (hcd : (x == ("__classdict__" : Str)) = false := by decide) (he : starEach [e] F.X.env = (false, eval e F.X.env) :: starEach [] F.X.env := by rfl)
    (hb : attributeBase (.Name x px) "pop" F.X.env (eval (.Name x px) F.X.env) = eval (.Name x px) F.X.env := by rfl) (hline : (pa.endLine == cpos.line) = true := by rfl) (hpl : (backTo cpos (starEach [] F.X.env)).any (·.1) = false := by rfl)
    (hfew : ((backTo cpos (starEach [e] F.X.env)).all (fun x => !x.1) && (backToKw cpos (keywordEach [] F.X.env)).all (fun x => x.1.isSome) && decide ([e].length + ([] : List Keyword).length + (if ([] : List Keyword).isEmpty then 0 else 1) < 30)) = true := by rfl) :
    Em F ρ s (.Call (.Attribute (.Name x px) "pop" pa) [e] [] cpos) d (ρ.set i (.own (xs.eraseIdx n))) s1 :=
  ⟨h.1, fun O σ H f Q q => we (pe_bm PySem.F.plainAttrs_list PySem.F.slot_list_pop PySem.F.type_list_pop mt_popAt (pe_var hi hv hd hcd) (pa_cons pe_we pa_nil he) hb hfew hline he hpl) (by
    obtain ⟨o, ho, a, vs, eo, m, h1, r⟩ := f.slot i _ hρ
    subst eo
    have na : ¬ (F.act = true ∧ a = F.p ∧ a ∈ F.S0) := fun z => (f.fre a (f.own i xs a hρ ho)).2 z.2.2
    refine ⟨_, ho, .inl ⟨rfl, _, .inl (.inl h1)⟩, h.2 O σ H f _ fun w H1 f1 x1 r1 => ?_⟩
    cases r1
    obtain ⟨v, hv', rv⟩ := r.get hd'
    have hn : n < xs.length := by
      rcases Nat.lt_or_ge n xs.length with h | h
      · exact h
      · rw [List.getElem?_eq_none h] at hd'; cases hd'
    have hl := line63
    refine ⟨a, vs, (n : Int), n, v, rfl, rfl, x1.1 _ _ na h1, by omega, by omega, seqIndex_of (by omega) (by rw [r.length]; omega), hv', ?_⟩
    obtain ⟨f2, x2⟩ := f1.mut hρ ho ((r.ext x1.xt).eraseIdx n)
    exact q v _ f2 (x1.xt.trans x2) ((rv.ext x1.xt).ext x2))⟩
/-- x.append(e), where e may turn owned lists -/
theorem bs_appendM (i : Nat) {x : Str} {px pa : Pos} {cpos : Pos} {ρ1 : List G} (hi : F.X.N[i]? = some x) (hv : Vis F.X.env.scope x) (hρ : ρ[i]? = some (.own xs)) (h : Em F ρ s e d ρ1 s1) (hρ1 : ρ1[i]? = some (.own ys)) (hl : ys.length < sizeLine) (hk : k.nx (ρ1.set i (.own (ys ++ [d]))) s1)
    (hd : (x == ("__debug__" : Str)) = false := by decide) (hcd : (x == ("__classdict__" : Str)) = false := by decide) (he : starEach [e] F.X.env = (false, eval e F.X.env) :: starEach [] F.X.env := by rfl)
    (hb : attributeBase (.Name x px) "append" F.X.env (eval (.Name x px) F.X.env) = eval (.Name x px) F.X.env := by rfl) (hline : (pa.endLine == cpos.line) = true := by rfl) (hpl : (backTo cpos (starEach [] F.X.env)).any (·.1) = false := by rfl)
    (hfew : ((backTo cpos (starEach [e] F.X.env)).all (fun x => !x.1) && (backToKw cpos (keywordEach [] F.X.env)).all (fun x => x.1.isSome) && decide ([e].length + ([] : List Keyword).length + (if ([] : List Keyword).isEmpty then 0 else 1) < 30)) = true := by rfl)
    (hs : swapsWith (.Call (.Attribute (.Name x px) "append" pa) [e] [] cpos) none pos.line F.X.env = pure false := by rfl) : Bs F (.Expr (.Call (.Attribute (.Name x px) "append" pa) [e] [] cpos) pos) ρ s k :=
  fun O σ H f E q => ws (ps_expr (pe_bm PySem.F.plainAttrs_list PySem.F.slot_list_append PySem.F.type_list_append mt_append (pe_var hi hv hd hcd) (pa_cons pe_we pa_nil he) hb hfew hline he hpl) hs) (by
    obtain ⟨o, ho, a, vs, eo, m, h1, r⟩ := f.slot i _ hρ
    subst eo
    refine ⟨_, ho, .inl ⟨rfl, _, .inl (.inl h1)⟩, h.2 O σ H f _ fun w H1 f1 x1 r1 => ?_⟩
    obtain ⟨o', ho', a', vs', eo', m', h1', r'⟩ := f1.slot i _ hρ1
    subst eo'
    have ea : a' = a := by rw [ho] at ho'; cases ho'; rfl
    subst ea
    refine ⟨_, vs', w, rfl, rfl, h1', by rw [r'.length]; exact hl, ?_⟩
    obtain ⟨f2, x2⟩ := f1.mut hρ1 ho (r'.append (.one r1))
    exact q.nx O σ _ _ s1 f2 (.of (x1.trans x2)) hk)
/-- x.extend(e), x owned, e a new list -/
theorem bs_extend (i : Nat) {x : Str} {px pa : Pos} {cpos : Pos} (hi : F.X.N[i]? = some x) (hv : Vis F.X.env.scope x) (hρ : ρ[i]? = some (.own xs)) (h : El F ρ s e ds s1) (hl : xs.length + ds.length ≤ sizeLine) (hk : k.nx (ρ.set i (.own (xs ++ ds))) s1)
    (hd : (x == ("__debug__" : Str)) = false := by decide) (hcd : (x == ("__classdict__" : Str)) = false := by decide) (he : starEach [e] F.X.env = (false, eval e F.X.env) :: starEach [] F.X.env := by rfl)
    (hb : attributeBase (.Name x px) "extend" F.X.env (eval (.Name x px) F.X.env) = eval (.Name x px) F.X.env := by rfl) (hline : (pa.endLine == cpos.line) = true := by rfl) (hpl : (backTo cpos (starEach [] F.X.env)).any (·.1) = false := by rfl)
    (hfew : ((backTo cpos (starEach [e] F.X.env)).all (fun x => !x.1) && (backToKw cpos (keywordEach [] F.X.env)).all (fun x => x.1.isSome) && decide ([e].length + ([] : List Keyword).length + (if ([] : List Keyword).isEmpty then 0 else 1) < 30)) = true := by rfl)
    (hs : swapsWith (.Call (.Attribute (.Name x px) "extend" pa) [e] [] cpos) none pos.line F.X.env = pure false := by rfl) : Bs F (.Expr (.Call (.Attribute (.Name x px) "extend" pa) [e] [] cpos) pos) ρ s k :=
  fun O σ H f E q => ws (ps_expr (pe_bm PySem.F.plainAttrs_list PySem.F.slot_list_extend PySem.F.type_list_extend mt_extend (pe_var hi hv hd hcd) (pa_cons pe_we pa_nil he) hb hfew hline he hpl) hs) (by
    obtain ⟨o, ho, a, vs, eo, m, h1, r⟩ := f.slot i _ hρ
    subst eo
    have na : ¬ (F.act = true ∧ a = F.p ∧ a ∈ F.S0) := fun z => (f.fre a (f.own i xs a hρ ho)).2 z.2.2
    refine ⟨_, ho, .inl ⟨rfl, _, .inl (.inl h1)⟩, h.2 O σ H f _ fun w ws H1 f1 x1 n1 h2 r1 => ?_⟩
    refine ⟨a, w, vs, ws, rfl, rfl, x1.1 _ _ na h1, h2, by rw [r.length, r1.length]; exact hl, ?_⟩
    have f0 := f.drop f1
    obtain ⟨f2, x2⟩ := f0.mut hρ ho ((r.ext x1.xt).append (r1.weak fun b m => List.mem_cons_of_mem _ m))
    exact q.nx O σ _ _ s1 f2 (.of (x1.xt.trans x2)) hk)
/-- a, b, c = e1, e2, e3 -/
theorem bs_par3 (i j l : Nat) {x y z : Str} {px py pz pt : Pos} {kt k2} {pt2 : Pos} {d1 d2 d3 : D} (hc : F.X.calm = true) (hN : F.X.N.Nodup) (hi : F.X.N[i]? = some x) (hj : F.X.N[j]? = some y) (hl : F.X.N[l]? = some z) (hij : i ≠ j) (hil : i ≠ l) (hjl : j ≠ l) (hx : F.X.env.scope.names.lookup x = some .local) (hy : F.X.env.scope.names.lookup y = some .local) (hz : F.X.env.scope.names.lookup z = some .local)
    (ha : Ea F ρ s [a, b, c] [d1, d2, d3] s1) (hk : k.nx (((ρ.set i (.val d1)).set j (.val d2)).set l (.val d3)) s1) (hw : swappedStores [.Tuple [.Name x px, .Name y py, .Name z pz] kt pt] (.Tuple [a, b, c] k2 pt2) F.X.env = pure (some [x, y, z]) := by rfl) (hs : swapsWithSole [.Tuple [.Name x px, .Name y py, .Name z pz] kt pt] (.Tuple [a, b, c] k2 pt2) pos.line F.X.env = pure false := by rfl) :
    Bs F (.Assign [.Tuple [.Name x px, .Name y py, .Name z pz] kt pt] (.Tuple [a, b, c] k2 pt2) pos) ρ s k :=
  fun O σ H f E q => ws (ps_par3 hc hN hi hj hl hij hil hjl hx hy hz pa_wa hw hs) (ha.2 O σ H f _ fun vs H1 f1 x1 r1 => by
    cases r1 with
    | cons r1 r2 =>
      cases r2 with
      | cons r2 r3 =>
        cases r3 with
        | cons r3 r4 =>
          cases r4
          exact ⟨_, _, _, rfl, q.nx O _ H1 _ s1 (((f1.set r1).set r2).set r3) (.of x1.xt) hk⟩)
/-- x[e1] = d, x owned: the target's turn -/
theorem wg_setOwn {O : List Addr} {σ : L2.St} {H : Hp} {v : V} (i : Nat) {x : Str} {px ps : Pos} {ix : Expr} {n : Int} {j : Nat} (f : Fm F O σ H ρ s) (hN : F.X.N[i]? = some x) (hv : Vis F.X.env.scope x) (hρ : ρ[i]? = some (.own xs)) (hi : Ed F ρ s ix (.int n) s) (hj : ixN xs.length n = some j) (r : Rp F.X.K F.p (O ++ F.S0) H v d) {Q : L2.St → Hp → Prop}
    (q : ∀ H', Fm F O σ H' (ρ.set i (.own (xs.set j d))) s → XT (O ++ F.S0) H H' → Q σ H') (hd : (x == ("__debug__" : Str)) = false) (hcd : (x == ("__classdict__" : Str)) = false)
    (ha : ∀ v, assign (.Subscript (.Name x px) ix ps) F.X.env v = (do
      let ov ← holding [v] (eval (.Name x px) F.X.env)
      let iv ← holding [v, ov] (eval ix F.X.env)
      standAt ps
      holding [v, ov, iv] (setItem ov iv v)
      release [v, ov, iv] [])) : WG F.X (.Subscript (.Name x px) ix ps) v σ H Q :=
  wg (pg_sub (pe_var hN hv hd hcd) pe_we set_list ha) (by
    obtain ⟨o, ho, a, vs, eo, m, h1, r'⟩ := f.slot i _ hρ
    subst eo
    have na : ¬ (F.act = true ∧ a = F.p ∧ a ∈ F.S0) := fun z => (f.fre a (f.own i xs a hρ ho)).2 z.2.2
    refine ⟨_, ho, hi.2 O σ H f _ fun w H2 f2 x2 r2 => ?_⟩
    cases r2
    refine ⟨_, vs, n, j, rfl, rfl, x2.1 _ _ na h1, by rw [r'.length]; exact hj, ?_⟩
    obtain ⟨f3, x3⟩ := f2.mut hρ ho ((r'.ext x2.xt).set j (r.ext x2.xt))
    exact q _ f3 (x2.xt.trans x3))
/-- x[i], x[j] = e1, e2, x owned -/
theorem bs_set2Own (i : Nat) {x : Str} {px ps px2 ps2 : Pos} {kk : Nat} {tp : Pos} {ix ix2 : Expr} {n n2 : Int} {j j2 : Nat} {d1 d2 : D} (hc : F.X.calm = true) (hN : F.X.N[i]? = some x) (hv : Vis F.X.env.scope x) (hρ : ρ[i]? = some (.own xs)) (h : Ed F ρ s e (.tup [d1, d2]) s1) (hi : Ed F ρ s1 ix (.int n) s1) (hj : ixN xs.length n = some j)
    (hi2 : Ed F (ρ.set i (.own (xs.set j d1))) s1 ix2 (.int n2) s1) (hj2 : ixN (xs.set j d1).length n2 = some j2) (hk : k.nx (ρ.set i (.own ((xs.set j d1).set j2 d2))) s1)
    (hd : (x == ("__debug__" : Str)) = false := by decide) (hcd : (x == ("__classdict__" : Str)) = false := by decide) (hs : swapsWithSole [.Tuple [.Subscript (.Name x px) ix ps, .Subscript (.Name x px2) ix2 ps2] kk tp] e pos.line F.X.env = pure false := by rfl) (hw : swappedStores [.Tuple [.Subscript (.Name x px) ix ps, .Subscript (.Name x px2) ix2 ps2] kk tp] e F.X.env = pure none := by rfl)
    (h1 : (assignEach [.Tuple [.Subscript (.Name x px) ix ps, .Subscript (.Name x px2) ix2 ps2] kk tp] F.X.env).map (·.2) = [assign (.Tuple [.Subscript (.Name x px) ix ps, .Subscript (.Name x px2) ix2 ps2] kk tp) F.X.env] := by rfl)
    (ha : ∀ v, assign (.Subscript (.Name x px) ix ps) F.X.env v = (do
      let ov ← holding [v] (eval (.Name x px) F.X.env)
      let iv ← holding [v, ov] (eval ix F.X.env)
      standAt ps
      holding [v, ov, iv] (setItem ov iv v)
      release [v, ov, iv] []) := by intro _; rfl)
    (ha2 : ∀ v, assign (.Subscript (.Name x px2) ix2 ps2) F.X.env v = (do
      let ov ← holding [v] (eval (.Name x px2) F.X.env)
      let iv ← holding [v, ov] (eval ix2 F.X.env)
      standAt ps2
      holding [v, ov, iv] (setItem ov iv v)
      release [v, ov, iv] []) := by intro _; rfl)
    (hn : (assignEach [.Subscript (.Name x px) ix ps, .Subscript (.Name x px2) ix2 ps2] F.X.env).length = 2 := by rfl) (hst : (assignEach [.Subscript (.Name x px) ix ps, .Subscript (.Name x px2) ix2 ps2] F.X.env).findIdx? (·.1) = none := by rfl)
    (hs1 : (assignEach [.Subscript (.Name x px) ix ps, .Subscript (.Name x px2) ix2 ps2] F.X.env).map (·.2) = assign (.Subscript (.Name x px) ix ps) F.X.env :: (assignEach [.Subscript (.Name x px2) ix2 ps2] F.X.env).map (·.2) := by rfl)
    (hs2 : (assignEach [.Subscript (.Name x px2) ix2 ps2] F.X.env).map (·.2) = assign (.Subscript (.Name x px2) ix2 ps2) F.X.env :: (assignEach [] F.X.env).map (·.2) := by rfl) : Bs F (.Assign [.Tuple [.Subscript (.Name x px) ix ps, .Subscript (.Name x px2) ix2 ps2] kk tp] e pos) ρ s k :=
  fun O σ H f E q => ws (ps_asg pe_we (pg_tup hc (pgs_cons pg_wg (pgs_cons pg_wg pgs_nil hs2) hs1) hn hst) hs hw h1) (h.2 O σ H f _ fun v H1 f1 x1 r1 => by
    cases r1 with
    | tup q1 q2 =>
      cases q2 with
      | cons q2 q3 =>
        cases q3 with
        | cons q3 q4 =>
          cases q4
          refine ⟨_, _, rfl, q1.sq, rfl, _, _, rfl, wg_setOwn i f1 hN hv hρ hi hj q2 (fun H2 f2 x2 => ⟨_, _, rfl, ?_⟩) hd hcd ha⟩
          have hρ2 : (ρ.set i (.own (xs.set j d1)))[i]? = some (.own (xs.set j d1)) := by
            rw [List.getElem?_set_self]
            rcases Nat.lt_or_ge i ρ.length with z | z
            · exact z
            · rw [List.getElem?_eq_none z] at hρ; cases hρ
          refine wg_setOwn i f2 hN hv hρ2 hi2 hj2 (q3.ext x2) (fun H3 f3 x3 => ⟨rfl, ?_⟩) hd hcd ha2
          rw [List.set_set] at f3
          exact q.nx O σ H3 _ s1 f3 (.of ((x1.xt.trans x2).trans x3)) hk)
end
end Gh
set_option Elab.async false
set_option linter.all false
set_option maxRecDepth 100000
set_option maxHeartbeats 4000000
/-! a stream of draws that a body makes itself -/
namespace Gh
open PySem PySem.Spec PyProof.Rows L2
/-- data that hold no stream, told by its kind alone -/
def D.lone : D → Bool
  | .non => true
  | .bl _ => true
  | .int _ => true
  | .str _ => true
  | .scr _ => true
  | _ => false
theorem Rp.swap {K : PySem.W.Frag} {p q : Addr} {S S' : List Addr} {H : Hp} {v : V} {d : D} (h : Rp K p S H v d) (n : d.lone = true) (w : ∀ a ∈ S', a ∈ S) : Rp K q S' H v d := by
  have h' := h.weak w
  cases h' with
  | non => exact .non
  | bl b => exact .bl b
  | int i => exact .int i
  | str x => exact .str x
  | scr h1 => exact .scr h1
  | _ => cases n
def gKeep : G → G
  | .val d => match d.lone with
    | true => .val d
    | false => .no
  | _ => .no
theorem gKeep_own {g : G} {ds : List D} : gKeep g ≠ .own ds := by
  intro h
  cases g with
  | val e =>
    simp only [gKeep] at h
    cases z : e.lone <;> rw [z] at h <;> cases h
  | _ => cases h
/-- the body's context from there on, where the stream lies at a -/
abbrev Fx.strm (F : Fx) (a : Addr) (O : List Addr) (H : Hp) : Fx := ⟨F.X, H, O ++ F.S0, a, true⟩
section
variable {F : Fx} {ρ : List G} {sts : List Stmt} {k : GE}
theorem slot_keep {K : PySem.W.Frag} {p q : Addr} {S S' : List Addr} {H : Hp} {o : Option V} {g : G} (h : Slot K p S H o g) (w : ∀ a ∈ S', a ∈ S) : Slot K q S' H o (gKeep g) := by
  cases g with
  | no => trivial
  | own ds => trivial
  | val d =>
    simp only [gKeep]
    cases z : d.lone with
    | true =>
      obtain ⟨v, e, r⟩ := h
      exact ⟨v, e, r.swap z w⟩
    | false => trivial
/-- back from the stream's context -/
theorem Fm.back {O O2 : List Addr} {σ σ2 : L2.St} {H H2 : Hp} {ρ2 : List G} {a : Addr} {xs : List Int} {s2 : Sx} (f : Fm F O σ H ρ none) (ma : a ∈ O) (g : Fm (F.strm a O H) O2 σ2 H2 ρ2 s2) : Fm F O σ2 H2 (ρ2.map gKeep) none := by
  have hx : XP F.p none F.H0 H2 := by
    refine ⟨fun b o e _ => ?_, fun b e => f.ext.2 b (g.ext.2 b e)⟩
    refine g.ext.1 b o (f.ext.1 b o e (.inl rfl)) (.inr fun z => ?_)
    rw [z, (f.fre a ma).1] at e
    cases e
  refine ⟨hx, fun i gg h => ?_, fun i ds b h => ?_, fun i j ds es b _ h => ?_, f.fre, fun b m => ?_, trivial, f.kd⟩
  · rw [List.getElem?_map] at h
    cases e : ρ2[i]? with
    | none => rw [e] at h; cases h
    | some g0 =>
      rw [e] at h
      cases h
      obtain ⟨o, ho, sl⟩ := g.slot i g0 e
      exact ⟨o, ho, slot_keep sl fun b m => List.mem_append_right _ m⟩
  · rw [List.getElem?_map] at h
    cases e : ρ2[i]? with
    | none => rw [e] at h; cases h
    | some g0 => rw [e] at h; exact absurd (Option.some.inj h) gKeep_own
  · rw [List.getElem?_map] at h
    cases e : ρ2[i]? with
    | none => rw [e] at h; cases h
    | some g0 => rw [e] at h; exact absurd (Option.some.inj h) gKeep_own
  · exact g.trk b (List.mem_append_right _ m)
theorem bk_stream (i : Nat) {xs : List Int} (ha : F.act = false) (hρ : ρ[i]? = some (.own (xs.map D.int)))
    (h : ∀ a O H, Bk (F.strm a O H) sts ((ρ.map gKeep).set i (.val .mut)) (some xs) ⟨fun ρ2 _ => k.nx (ρ2.map gKeep) none, fun d _ => d.lone = true ∧ k.rt d none, fun ρ2 _ => k.bk (ρ2.map gKeep) none, fun ρ2 _ => k.ct (ρ2.map gKeep) none⟩) : Bk F sts ρ none k := by
  intro O σ H f E q
  obtain ⟨o, ho, a, vs, eo, m, h1, r⟩ := f.slot i _ hρ
  subst eo
  have ma := f.own i _ a hρ ho
  have ev := r.ints
  subst ev
  have hl : i < ρ.length := by
    rcases Nat.lt_or_ge i ρ.length with z | z
    · exact z
    · rw [List.getElem?_eq_none z] at hρ; cases hρ
  have g : Fm (F.strm a O H) [] σ H ((ρ.map gKeep).set i (.val .mut)) (some xs) := by
    refine ⟨.refl, fun j gg hj => ?_, fun j ds b hj => ?_, fun j l ds es b _ hj => ?_, (fun b m => nomatch m), fun b m => f.trk b m, ⟨List.mem_append_left _ ma, h1⟩, rfl⟩
    · by_cases e : i = j
      · subst e
        rw [List.getElem?_set_self (by rw [List.length_map]; exact hl)] at hj
        cases hj
        exact ⟨_, ho, _, rfl, .mut⟩
      · rw [List.getElem?_set_ne e, List.getElem?_map] at hj
        cases e2 : ρ[j]? with
        | none => rw [e2] at hj; cases hj
        | some g0 =>
          rw [e2] at hj
          cases hj
          obtain ⟨o, ho, sl⟩ := f.slot j g0 e2
          exact ⟨o, ho, slot_keep sl fun b m => m⟩
    · by_cases e : i = j
      · subst e
        rw [List.getElem?_set_self (by rw [List.length_map]; exact hl)] at hj
        cases hj
      · rw [List.getElem?_set_ne e, List.getElem?_map] at hj
        cases e2 : ρ[j]? with
        | none => rw [e2] at hj; cases hj
        | some g0 => rw [e2] at hj; exact absurd (Option.some.inj hj) gKeep_own
    · by_cases e : i = j
      · subst e
        rw [List.getElem?_set_self (by rw [List.length_map]; exact hl)] at hj
        cases hj
      · rw [List.getElem?_set_ne e, List.getElem?_map] at hj
        cases e2 : ρ[j]? with
        | none => rw [e2] at hj; cases hj
        | some g0 => rw [e2] at hj; exact absurd (Option.some.inj hj) gKeep_own
  refine h a O H [] σ H g E ⟨fun O2 σ2 H2 ρ2 s2 f2 t2 n2 => ?_, fun v H2 d s2 r2 x2 t2 n2 => ?_, fun O2 σ2 H2 ρ2 s2 f2 t2 n2 => ?_, fun O2 σ2 H2 ρ2 s2 f2 t2 n2 => ?_⟩
  · exact q.nx O σ2 H2 _ none (f.back (xs := xs) ma f2) (.of t2.xt) n2
  · refine q.rt v H2 d none (r2.swap n2.1 fun b m => List.mem_append_right _ m) ?_ trivial n2.2
    refine ⟨fun b o e _ => ?_, fun b e => f.ext.2 b (x2.2 b e)⟩
    refine x2.1 b o (f.ext.1 b o e (.inl rfl)) (.inr fun z => ?_)
    rw [z, (f.fre a ma).1] at e
    cases e
  · exact q.bk O σ2 H2 _ none (f.back (xs := xs) ma f2) (.of t2.xt) n2
  · exact q.ct O σ2 H2 _ none (f.back (xs := xs) ma f2) (.of t2.xt) n2
end
end Gh
set_option Elab.async false
set_option linter.all false
set_option maxRecDepth 100000
set_option maxHeartbeats 4000000
/-! defs that hand back a new list -/
namespace Gh
open PySem PySem.Spec PyProof.Rows L2
def BkL (F : Fx) (sts : List Stmt) (ρ : List G) (s : Sx) (ds : List D) (s' : Sx) : Prop := ∀ O σ H, Fm F O σ H ρ s → ∀ E : Ends,
  (∀ a vs H', F.H0 a = none → a ∉ F.S0 → H' a = some (.lst vs) → Rps F.X.K F.p (a :: F.S0) H' vs ds → XP F.p s' F.H0 H' → StA F.p F.S0 H' s' → E.rt (.ref a) H') → WB F.X sts E σ H
def spL (K : PySem.W.Frag) (ds : List D) (s : Sx) (zs : List D) (s' : Sx) : Sp := fun vs H Q _ => ∃ (p : Addr) (S : List Addr), Rps K p S H vs ds ∧ (∀ a ∈ S, ∃ o, H a = some o) ∧ StA p S H s ∧
  ∀ a ws H', H a = none → H' a = some (.lst ws) → Rps K p (a :: S) H' ws zs → XP p s H H' → StA p S H' s' → Q (.ref a) H'
/-- the def f, called with these data, hands back a new list -/
structure RnL (E : En) (k : Nat) (f : Str) (ds : List D) (s : Sx) (zs : List D) (s' : Sx) : Prop where
  kd : s.isSome = s'.isSome
  ok : ∃ fa fd ps, E.mg f = some (.ref fa) ∧ PySem.W.keepIn E.K (.ref fa) = true ∧ Binds E.K fd ps [] ∧ FnOk E.P E.w E.K E.mg E.base CX0 k fa fd ps (spL E.K ds s zs s')
theorem RnL.mono {E : En} {j k : Nat} {f : Str} {ds zs : List D} {s s' : Sx} (r : RnL E j f ds s zs s') (h : j ≤ k) : RnL E k f ds s zs s' := by
  obtain ⟨kd, fa, fd, ps, h1, h2, h3, h4⟩ := r
  exact ⟨kd, fa, fd, ps, h1, h2, h3, h4.mono h⟩
theorem RnL.is {E : En} {k : Nat} {f : Str} {ds zs zs' : List D} {s s' : Sx} (r : RnL E k f ds s zs s') (h : zs = zs') : RnL E k f ds s zs' s' := h ▸ r
section
variable {F : Fx} {ρ : List G} {s s1 s2 s' : Sx} {e : Expr} {es : List Expr} {st : Stmt} {sts : List Stmt} {ds zs : List D} {pos p : Pos}
theorem Fm.addO {O : List Addr} {σ : L2.St} {H1 H2 : Hp} {a : Addr} {vs : List V} (f : Fm F O σ H1 ρ s1) (x : XP F.p s1 H1 H2) (kd : s1.isSome = s2.isSome) (t : StA F.p F.S0 H2 s2) (n : H1 a = none) (h : H2 a = some (.lst vs)) : Fm F (a :: O) σ H2 ρ s2 := by
  refine (f.newO (vs := vs) n).grow ⟨fun b o e nb => ?_, fun b e => ?_⟩ kd t
  · by_cases z : b = a
    · subst z; rw [upd_same] at e; rw [h]; exact e
    · rw [upd_ne z] at e; exact x.1 b o e nb
  · have z : b ≠ a := fun z => by rw [z, h] at e; cases e
    rw [upd_ne z]; exact x.2 b e
theorem bkl_ret (h : El F ρ s e zs s') : BkL F (.Return (some e) pos :: sts) ρ s zs s' := fun O σ H f E q => wb (pss_cons (ps_ret pe_we) pss_wb) (h.2 O σ H f _ fun a vs H1 f1 x1 n1 h1 r1 => by
  have n0 : F.H0 a = none := f.ext.2 a n1
  exact q a vs H1 n0 (fun m => by
    obtain ⟨o, ho⟩ := f.trk a (List.mem_append_right _ m)
    rw [n1] at ho; cases ho) h1 (r1.weak fun b m => by
      rcases List.mem_cons.mp m with z | z
      · exact z ▸ List.mem_cons_self
      · exact List.mem_cons_of_mem _ (List.mem_append_right _ z)) f1.ext f1.st)
theorem bkl_cons (h1 : Bs F st ρ s { nx := fun ρ' s1 => BkL F sts ρ' s1 zs s', rt := fun _ _ => False }) : BkL F (st :: sts) ρ s zs s' := fun O σ H f E q => wb (pss_cons ps_ws pss_wb) (h1 O σ H f _
  ⟨fun O' σ' H' ρ' s' f' st h' => h' O' σ' H' f' E q, fun _ _ _ _ _ _ _ h => h.elim, fun _ _ _ _ _ _ _ h => h.elim, fun _ _ _ _ _ _ _ h => h.elim⟩)
/-- f(..), a new list -/
theorem el_cl {f : Str} {k : Nat} (ha : Ea F ρ s (e :: es) ds s1) (hr : Room k F.X.A) (R : RnL F.en k f ds s1 zs s2) (hg : Gl F.X f := by rfl) (hdb : (f == ("__debug__" : Str)) = false := by decide)
    (he : starEach (e :: es) F.X.env = (false, eval e F.X.env) :: starEach es F.X.env := by rfl) (hpl : (backTo pos (starEach es F.X.env)).any (·.1) = false := by rfl) : El F ρ s (.Call (.Name f p) (e :: es) [] pos) zs s2 := by
  obtain ⟨kd, fa, fd, ps, h1, h2, h3, h4⟩ := R
  refine ⟨ha.1.trans kd, fun O σ H fm Q q => we (pe_call h4 hr hg h1 h2 h3 .nil pass0 pa_wa hdb he hpl) (ha.2 O σ H fm _ fun vs H1 f1 x1 r1 => ?_)⟩
  rw [List.append_nil]
  refine ⟨F.p, O ++ F.S0, r1, f1.trk, ?_, fun a ws H2 n2 g2 r2 x2 t2 => ?_⟩
  · have q := f1.st
    cases s1 with
    | none => trivial
    | some ys => exact ⟨List.mem_append_right _ q.1, q.2⟩
  · have t3 : StA F.p F.S0 H2 s2 := by
      have q := f1.st
      cases s2 with
      | none => trivial
      | some ys =>
        cases s1 with
        | none => cases kd
        | some zs => exact ⟨q.1, t2.2⟩
    exact q a ws H2 (f1.addO x2 kd t3 n2 g2) (x1.trans (x2.xe f1.st f1.kd)) (x1.2 a n2) g2 r2
end
theorem Df.rnL {E : En} {x : Str} {st : Stmt} {N ps : List Str} {k : Nat} {ds zs : List D} {s s' : Sx} (T : Df E st x ps) (S : FnScope N ps (defScope st)) (kd : s.isSome = s'.isSome) (hl : ds.length = ps.length)
    (body : ∀ (fa : Addr) (cdv : Value) (A : Around) (outer : List Env) (sh : Shared) (H0 : Hp) (EX : XK) (S0 : List Addr) (p : Addr), Room k (bodyF E N x st s fa cdv A outer sh H0 EX S0 p).X.A →
      BkL (bodyF E N x st s fa cdv A outer sh H0 EX S0 p) (defBody st) (gStart N ds) s zs s') : RnL E (k + 1) x ds s zs s' := by
  obtain ⟨fa, fd, F, hm, hb⟩ := T.ok
  refine ⟨kd, fa, fd, ps, hm, F.kp, hb, F.ok S (fun vs H Q EX h => ?_) fun cdv A outer sh H vs Q EX hr h => ?_⟩
  · obtain ⟨p, S, r, _⟩ := h
    rw [r.length, hl]
  · obtain ⟨p, S0, r, tr, t, q⟩ := h
    refine ⟨_, pss_wb, body fa cdv A outer sh H EX S0 p hr [] (L2.start N vs) H (fm_start (F := bodyF E N x st s fa cdv A outer sh H EX S0 p) r tr t rfl) _ fun a ws H' n0 nS h1 r1 x1 t1 => ?_⟩
    exact q a ws H' n0 h1 r1 (x1.kind kd.symm) t1
end Gh
set_option Elab.async false
set_option linter.all false
set_option maxRecDepth 100000
/-! equality of told data -/
namespace Gh
open PySem PySem.Spec PyProof.Rows L2
/-- what == asks, with the depth -/
def eqD (n : Nat) (x : D) : Prop := x.pure = true ∧ x.py.canLay0 = true ∧ x.py.depth ≤ n
def eqDs (n : Nat) (xs : List D) : Prop := D.pures xs = true ∧ PyData.canLayAll0 (D.pys xs) = true ∧ PyData.depthAll (D.pys xs) ≤ n
theorem eqD.eqC {n : Nat} {x : D} (h : eqD n x) (hn : n ≤ 64 := by decide) : x.eqC := ⟨h.1, by unfold SeqAt.shaped; rw [h.2.1, decide_eq_true (Nat.le_trans h.2.2 hn)]; rfl⟩
theorem eqDs.nil {n : Nat} : eqDs n [] := ⟨by unfold D.pures; rfl, by simp [D.pys, PyData.canLayAll0], by simp [D.pys, PyData.depthAll]⟩
theorem eqDs.cons {n : Nat} {x : D} {xs : List D} (h : eqD n x) (hs : eqDs n xs) : eqDs n (x :: xs) := by
  refine ⟨by unfold D.pures; rw [h.1, hs.1]; rfl, ?_, ?_⟩
  · unfold D.pys PyData.canLayAll0; rw [h.2.1, hs.2.1]; rfl
  · unfold D.pys PyData.depthAll; exact Nat.max_le.mpr ⟨h.2.2, hs.2.2⟩
theorem eqDs.of {n : Nat} {xs : List D} (h : ∀ x ∈ xs, eqD n x) : eqDs n xs := by
  induction xs with
  | nil => exact .nil
  | cons x xs ih => exact .cons (h x List.mem_cons_self) (ih fun y m => h y (List.mem_cons_of_mem _ m))
theorem eqDs.tup {n : Nat} {xs : List D} (h : eqDs n xs) : eqD (n + 1) (.tup xs) := ⟨by unfold D.pure; exact h.1, by unfold D.py PyData.canLay0; exact h.2.1, by unfold D.py PyData.depth; exact Nat.succ_le_succ h.2.2⟩
theorem eqDs.lst {n : Nat} {xs : List D} (h : eqDs n xs) : eqD (n + 1) (.lst xs) := ⟨by unfold D.pure; exact h.1, by unfold D.py PyData.canLay0; exact h.2.1, by unfold D.py PyData.depth; exact Nat.succ_le_succ h.2.2⟩
theorem eqD.int {n : Nat} (i : Int) : eqD n (.int i) := ⟨by unfold D.pure; rfl, by simp [D.py, PyData.canLay0], by simp [D.py, PyData.depth]⟩
theorem eqD.bl {n : Nat} (i : Bool) : eqD n (.bl i) := ⟨by unfold D.pure; rfl, by simp [D.py, PyData.canLay0], by simp [D.py, PyData.depth]⟩
theorem eqD.non {n : Nat} : eqD n .non := ⟨by unfold D.pure; rfl, by simp [D.py, PyData.canLay0], by simp [D.py, PyData.depth]⟩
theorem eqD.str {n : Nat} {i : Str} (h : PyData.strOk i = true := by decide +kernel) : eqD n (.str i) := ⟨by unfold D.pure; rfl, by simp [D.py, PyData.canLay0, h], by simp [D.py, PyData.depth]⟩
theorem eqD.mono {m n : Nat} {x : D} (h : eqD m x) (l : m ≤ n) : eqD n x := ⟨h.1, h.2.1, Nat.le_trans h.2.2 l⟩
theorem eqD.fr (q : Rat) : eqD 1 (fr q) := (eqDs.cons (.int _) (.cons (.int _) .nil)).tup
theorem eqD.fm (a b : Rat) : eqD 2 (fm a b) := (eqDs.cons (.fr _) (.cons (.fr _) .nil)).tup
theorem eqD.frs (qs : List Rat) : eqDs 1 (qs.map Gh.fr) := .of fun x m => by
  obtain ⟨q, _, rfl⟩ := List.mem_map.mp m
  exact .fr q
def eqbs : List D → List D → Bool
  | [], [] => true
  | x :: xs, y :: ys => x.eqb y && eqbs xs ys
  | _, _ => false
theorem eqvAll_eqbs : ∀ xs ys : List D, PyData.eqvAll (D.pys xs) (D.pys ys) = eqbs xs ys
  | [], [] => by simp [D.pys, PyData.eqvAll, eqbs]
  | [], _ :: _ => by simp [D.pys, PyData.eqvAll, eqbs]
  | _ :: _, [] => by simp [D.pys, PyData.eqvAll, eqbs]
  | x :: xs, y :: ys => by unfold D.pys PyData.eqvAll eqbs; rw [eqvAll_eqbs xs ys]; rfl
theorem tup_eqb (xs ys : List D) : (D.tup xs).eqb (.tup ys) = eqbs xs ys := by
  rw [← eqvAll_eqbs]; unfold D.eqb D.py PyData.eqv; rfl
theorem lst_eqb (xs ys : List D) : (D.lst xs).eqb (.lst ys) = eqbs xs ys := by
  rw [← eqvAll_eqbs]; unfold D.eqb D.py PyData.eqv; rfl
theorem frs_eqbs : ∀ qs ps : List Rat, eqbs (qs.map fr) (ps.map fr) = decide (qs = ps)
  | [], [] => rfl
  | [], _ :: _ => by simp [eqbs]
  | _ :: _, [] => by simp [eqbs]
  | q :: qs, p :: ps => by
    simp only [List.map_cons, eqbs]
    rw [fr_eqb, frs_eqbs qs ps]
    by_cases h : q = p <;> by_cases h2 : qs = ps <;> simp [h, h2]
theorem fm_str (a b : Rat) (w : Str) : (fm a b).eqb (.str w) = false := by
  simp [D.eqb, fm, D.py, PyData.eqv]
theorem tup_str (xs : List D) (w : Str) : (D.tup xs).eqb (.str w) = false := by
  simp [D.eqb, D.py, PyData.eqv]
theorem int_str (i : Int) (w : Str) : (D.int i).eqb (.str w) = false := by
  simp [D.eqb, D.py, PyData.eqv]
end Gh
set_option Elab.async false
set_option linter.all false
set_option maxRecDepth 100000
set_option maxHeartbeats 4000000
namespace Gt
open PySem PySem.Spec PyProof.Rows HT L2
section
variable {prog : Program} {w : World} {A : Around} {E : Value → Shared → Prop} {s : Shared}
theorem adjust_rev (n : Nat) : Builtin.Slice.sliceAdjust none none (-1) (n : Int) = ((n : Int) - 1, -1) := by
  unfold Builtin.Slice.sliceAdjust
  simp
theorem places_rev (n : Nat) : Builtin.Slice.slicePlaces ((n : Int) - 1) (-1) (-1) = n := by
  unfold Builtin.Slice.slicePlaces
  simp
  try omega
theorem pick_rev (xs : List Value) : ((List.range xs.toArray.size).filterMap fun (m : Nat) => xs.toArray[(((xs.toArray.size : Int) - 1) + (m : Int) * (-1)).toNat]?).toArray = xs.reverse.toArray := by
  congr 1
  rw [List.size_toArray]
  have e : ∀ m ∈ List.range xs.length, xs.toArray[(((xs.length : Int) - 1) + (m : Int) * (-1)).toNat]? = xs.reverse[m]? := fun m hm => by
    have hm := List.mem_range.mp hm
    have e1 : (((xs.length : Int) - 1) + (m : Int) * (-1)).toNat = xs.length - 1 - m := by omega
    rw [e1, List.getElem?_reverse hm]
    simp
  have fm : ∀ (f : Nat → Option Value) (l : List Nat), l.filterMap f = (l.map f).filterMap id := fun f l => by rw [List.filterMap_map]; rfl
  rw [fm, List.map_congr_left e, ← fm]
  have g := pick_gen xs.reverse.toArray 0 xs.reverse.length
  have g2 : (fun (m : Nat) => xs.reverse.toArray[(((0 : Nat) : Int) + (m : Int) * 1).toNat]?) = fun m => xs.reverse[m]? := by
    funext m
    have : (((0 : Nat) : Int) + (m : Int) * 1).toNat = m := by omega
    rw [this]; simp
  rw [g2] at g
  have g3 := congrArg Array.toList g
  rw [List.drop_zero] at g3
  simp only [List.length_reverse] at g3
  rw [List.take_of_length_le (by simp)] at g3
  exact g3
theorem sliceApplied_rev {sl : Addr} {vl vu vs : Value} {n : Nat} {Q : Int × Int × Nat → Shared → Prop} (hs : s.heap.IsSliceOf sl vl vu vs) (pl : IsPart vl none) (pu : IsPart vu none) (ps : IsPart vs (some (-1)))
    (h : Q ((n : Int) - 1, -1, n) s) : wpAny (model prog w) A (Builtin.Slice.sliceApplied (.ref sl) (pure (n : Int))) Q E s := by
  obtain ⟨os, hos, hcs, hds⟩ := id hs
  unfold Builtin.Slice.sliceApplied Builtin.Slice.sliceFields
  refine wpAny_bind (wpAny_bind (wpAny_field hos hds (x := vl) rfl (wpAny_bind (wpAny_field hos hds (x := vu) rfl (wpAny_bind (wpAny_field hos hds (x := vs) rfl (wpAny_pure ?_)))))))
  refine wpAny_bind (slicePart_ ps ?_)
  show wpAny _ _ (if ((-1 : Int) == 0) = true then _ else _) _ _ s
  rw [if_neg (by decide)]
  refine wpAny_bind (slicePart_ pl (wpAny_bind (slicePart_ pu (wpAny_bind (wpAny_pure ?_)))))
  show wpAny _ _ (match Builtin.Slice.sliceAdjust none none (-1) (n : Int) with | (lo, hi) => pure (lo, (-1 : Int), Builtin.Slice.slicePlaces lo hi (-1))) _ _ s
  rw [adjust_rev n]
  show wpAny _ _ (pure ((n : Int) - 1, (-1 : Int), Builtin.Slice.slicePlaces ((n : Int) - 1) (-1) (-1))) _ _ s
  rw [places_rev]
  exact wpAny_pure h
theorem getItem_tuple_rev {t sl : Addr} {its : List Value} {vl vu vs : Value} {Q : Value → Shared → Prop} (ht : IsTup s.heap t its.toArray) (hs : s.heap.IsSliceOf sl vl vu vs) (pl : IsPart vl none) (pu : IsPart vu none) (ps : IsPart vs (some (-1)))
    (h : Q (.ref s.heap.objs.size) { s with heap := s.heap.push { cls := .type "tuple", data := .seq its.reverse.toArray } })
    (hsz : its.length ≤ sizeLine) : wpAny (model prog w) A (getItem (.ref t) (.ref sl)) Q E s := by
  have htake : sizeOk (.seq its.reverse.toArray) := by
    show its.reverse.toArray.size ≤ sizeLine
    rw [List.size_toArray, List.length_reverse]
    exact hsz
  obtain ⟨os, hos, hcs, hds⟩ := id hs
  have hTs : s.TypeIs (.ref sl) "slice" := ⟨os, hos, hcs⟩
  unfold getItem
  try with_reducible refine wpAny_holding ?_
  first | refine wpAny_bind (wpAny_pure ?_) | skip
  refine wpAny_bind (wpAny_sequenceKey ht.typeIs (by decide) ?_)
  refine wpAny_bind (wpAny_callSpecial?_slot (name := Str.ofString "__getitem__") ht.typeIs PyProof.Rows.slot_tuple_getitem
    (wpAny_call_entry PyProof.Rows.slot_tuple_getitem ht.typeIs entry_tuple_getitem ?_ (args_tuple_getitem _ _)))
  show wpAny _ _ (Builtin.Tuple.tupleItemsOf (.ref t) >>= _) _ _ s
  refine wpAny_bind (tupleItemsOf_ ht ?_)
  refine wpAny_bind (wpAny_typeOf hTs ?_)
  rw [if_pos (by decide)]
  refine wpAny_bind (sliceApplied_rev hs pl pu ps ?_)
  have hno : ¬ ((((its.toArray.size : Int) - 1) == 0 && (-1 : Int) == 1 && its.toArray.size == its.toArray.size) = true) := by
    intro q
    rw [Bool.and_eq_true, Bool.and_eq_true] at q
    exact absurd q.1.2 (by decide)
  show wpAny _ _ (if (((its.toArray.size : Int) - 1) == 0 && (-1 : Int) == 1 && its.toArray.size == its.toArray.size) = true then _ else _) _ _ s
  rw [if_neg hno, pick_rev]
  first
    | exact wpAny_bind (m := Builtin.Tuple.tupleExact _) (wpAny_newObj_type (wpAny_pure ⟨_, rfl, wpAny_pure h⟩) htake)
    | exact wpAny_bind (m := Builtin.Tuple.tupleExact _) (wpAny_newObj_type (wpAny_bind (wpAny_pure (wpAny_pure ⟨_, rfl, wpAny_pure h⟩))) htake)
    | exact wpAny_bind (wpAny_bind (m := Builtin.Tuple.tupleExact _) (wpAny_newObj_type (wpAny_pure (wpAny_pure ⟨_, rfl, wpAny_pure h⟩)) htake))
    | exact wpAny_bind (wpAny_bind (m := Builtin.Tuple.tupleExact _) (wpAny_newObj_type (wpAny_pure ⟨_, rfl, wpAny_pure h⟩) htake))
end
section
variable {X : Cx}
def tRevT (K : PySem.W.Frag) (te : TE) : TE := fun σ H Q => te σ H fun x H1 => ∃ a xs, x = .ref a ∧ SqT K H1 a xs ∧ ∀ p, H1 p = none → Q (.ref p) (upd H1 p (.tup xs.reverse))
theorem pe_revT {e : Expr} {te : TE} {k : Nat} {p1 p2 p3 pos : Pos} (he : PE X e te) : PE X (.Subscript e (.Slice none none (some (.UnaryOp .USub (.Constant (.int 1) k p1) p2)) p3) pos) (tRevT X.K te) := by
  refine ⟨fun pins s σ H Q I h => ?_⟩
  refine Subscript_ (thn (he.run pins s σ H _ I h) fun v s1 ⟨x, H1, I1, r1, q1⟩ => ?_)
  obtain ⟨a, xs, ex, hx, q⟩ := q1
  subst ex
  cases r1
  have hst : PO X (some (.UnaryOp .USub (.Constant (.int 1) k p1) p2)) (tPart (tUn (rU fun i => .int (-i)) (tC (.int 1)))) := po_some (pe_un un_neg pe_int)
  refine wpAny_Slice (thn (po_none.run pins s1 σ H1 (fun o H2 => o = none ∧ H2 = H1) I1 ⟨rfl, rfl⟩) fun vl s2 ⟨l, H2, I2, pl, el, e2⟩ => ?_)
  subst el e2
  refine thn (po_none.run pins s2 σ H2 (fun o H3 => o = none ∧ H3 = H2) I2 ⟨rfl, rfl⟩) fun vu s3 ⟨u, H3, I3, pu, eu, e3⟩ => ?_
  subst eu e3
  refine thn (hst.run pins s3 σ H3 (fun o H4 => o = some (-1) ∧ H4 = H3) I3 ⟨1, rfl, -1, rfl, rfl, rfl⟩) fun vs s4 ⟨o, H4, I4, ps, eo, e4⟩ => ?_
  subst eo e4
  have I5 : Inv X pins σ H4 { s4 with heap := s4.heap.push { cls := .type "slice", data := .fields #[vl, vu, vs] } } := I4.kept (t' := s4.toks) fun b ob q => Heap.get?_push_of_some _ q
  obtain ⟨its, r, ht, hz⟩ := I5.tuple hx
  have hlen := r.length
  show wpAny (model X.prog X.w) X.A (subscriptTail e (.Slice none none (some (.UnaryOp .USub (.Constant (.int 1) k p1) p2)) p3) (.ref a) (.ref s4.heap.objs.size)) (EP X pins σ Q) X.xe { s4 with heap := s4.heap.push { cls := .type "slice", data := .fields #[vl, vu, vs] } }
  refine tail_any (ops := [.ref a, .ref s4.heap.objs.size]) ht.typeIs (PyProof.Rows.slot_tuple_getitem.lookup) ?_ (by with_unfolding_all rfl)
  refine getItem_tuple_rev ht (Heap.IsSliceOf.new _ vl vu vs) pl pu ps ?_ (by omega)
  refine ⟨.ref _, _, I5.laid (t' := s4.toks) (o := .tup xs.reverse) (fun b ob q => Heap.get?_push_of_some _ q) (Nat.le_refl _) ?_, rfl, q _ (I5.hok.fresh (Nat.le_refl _))⟩
  exact ⟨by rw [List.length_reverse]; exact hz, _, r.reverse, IsTup.new _ _⟩
end
end Gt
namespace Gh
open PySem PySem.Spec PyProof.Rows L2
section
variable {F : Fx} {ρ : List G} {s s1 : Sx} {a : Expr} {xs : List D} {pos p p1 p2 p3 : Pos}
theorem ed_revT {k : Nat} (ha : Ed F ρ s a (.tup xs) s1) : Ed F ρ s (.Subscript a (.Slice none none (some (.UnaryOp .USub (.Constant (.int 1) k p1) p2)) p3) pos) (.tup xs.reverse) s1 :=
  ⟨ha.1, fun O σ H f Q q => we (Gt.pe_revT pe_we) (ha.2 O σ H f _ fun v H1 f1 x1 r1 => by
    cases r1 with
    | tup h1 h2 => exact ⟨_, _, rfl, h1.sq, fun t n => q _ _ (f1.new n) (x1.trans (.new n)) (.tup (.inl ⟨f1.fresh n, .inl upd_same⟩) (h2.reverse.ext (.new n)))⟩)⟩
/-- {} -/
theorem ed_emp : Ed F ρ s (.Dict [] [] pos) .emp s :=
  ⟨rfl, fun O σ H f Q q => we pe_dnewK (fun t n => q _ _ (f.new n) (.new n) (.emp (f.fresh n) upd_same))⟩
end
end Gh
set_option Elab.async false
set_option linter.all false
set_option maxRecDepth 100000
set_option maxHeartbeats 4000000
/-! From the head's facts to the ghost layer's. -/
namespace Gh
open PySem PySem.Spec PyProof.Rows L2
theorem fun_of {K : PySem.W.Frag} {x q : Str} {st : Stmt} {f : Addr} {fd : FuncData} (F : FunD K x q (defArgs st) (defBody st) (defScope st) [] [] f fd) : Fun K x q st f fd := by
  obtain ⟨oc, od, dV, kV, doc, pm, an, cdv, ct, osl, rfl, lk, hcd, hD, hK⟩ := F.ex
  rcases hD with ⟨_, rfl⟩ | ⟨e, _⟩
  · exact ⟨⟨oc, od, kV, doc, pm, an, cdv, ct, osl, rfl, lk, hcd⟩, F.kp⟩
  · exact absurd rfl e
/-- a def's datum -/
abbrev dd (x : Str) (st : Stmt) : He.DefD := ⟨(x, none), x, x, defArgs st, defBody st, defScope st, [], []⟩
theorem df_of {E : En} {st : Stmt} {x : Str} {ps : List Str} {h : Heap} (X : E.K.In h) (G : h.Ns mainGlobals E.mg) (hd : ∃ fd, FunD E.K x x (defArgs st) (defBody st) (defScope st) [] [] (He.fAd E.K (x, none)) fd) (hf : (He.Fa.glo x).ok E.K = true)
    (hb : ∀ (kV doc pm : Value) (an : Option Addr) (cdv ct : Value) (us : List Value), us.length = ps.length → bindArgs (PySem.W.fnOf x x (defArgs st) (defBody st) (defScope st) .none kV doc pm an cdv ct) ⟨us, []⟩ = pure (ps.zip us)) : Df E st x ps := by
  obtain ⟨fd, F⟩ := hd
  exact ⟨_, fd, fun_of F, He.glo_ok X G hf, F.bindsN hb⟩
theorem cst_tup {E : En} {x : Str} {h : Heap} {vs : List He.Dv} {ds : List D} (X : E.K.In h) (G : h.Ns mainGlobals E.mg) (hf : (He.Fa.glo x).ok E.K = true) (ht : He.tupB E.K x vs = true)
    (hr : ∀ p S H, Rps E.K p S H (vs.map (He.Dv.v E.K)) ds) : Cst E x (.tup ds) :=
  ⟨.ref (He.ga E.K x), _, He.glo_ok X G hf, rfl, fun p S H => .tup (.inr (He.tupB_ok ht _)) (hr p S H)⟩
theorem cst_str {E : En} {x z : Str} {h : Heap} (X : E.K.In h) (G : h.Ns mainGlobals E.mg) (hf : (He.Fa.str x z).ok E.K = true) : Cst E x (.str z) := by
  obtain ⟨t, e⟩ := He.str_ok X G hf
  exact ⟨.str z, _, e, ⟨t, rfl⟩, fun _ _ _ => .str z⟩
theorem cst_int {E : En} {x : Str} {i : Int} {h : Heap} (X : E.K.In h) (G : h.Ns mainGlobals E.mg) (hf : (He.Fa.int x i).ok E.K = true) : Cst E x (.int i) := by
  obtain ⟨t, e⟩ := He.int_ok X G hf
  exact ⟨.int i, _, e, ⟨t, rfl⟩, fun _ _ _ => .int i⟩
/-- none of these keys is in the table -/
def absB (K : PySem.W.Frag) (a : Addr) (ks : List Str) : Bool := ks.all fun z => match PySem.W.nsIn K a z with
  | some none => true
  | _ => false
theorem absB_ok {K : PySem.W.Frag} {a : Addr} {ks : List Str} (h : absB K a ks = true) {z : Str} (m : z ∈ ks) : PySem.W.nsIn K a z = some none := by
  have h2 := List.all_eq_true.mp h z m
  cases e : PySem.W.nsIn K a z with
  | none => rw [e] at h2; cases h2
  | some r =>
    rw [e] at h2
    cases r with
    | none => rfl
    | some u => cases h2
/-- the law's body, for one script -/
def LawBody (E : En) (N : List Str) (st : Stmt) (k : Nat) (ns : List Int) : Prop := ∀ (fa : Addr) (cdv : Value) (A : Around) (outer : List Env) (sh : Shared) (H0 : Hp) (EX : XK) (S0 : List Addr) (p : Addr), Room k (bodyF E N "law" st none fa cdv A outer sh H0 EX S0 p).X.A →
  Bk (bodyF E N "law" st none fa cdv A outer sh H0 EX S0 p) (defBody st) (gStart N [.scr ns]) none ⟨fun _ t => D.bl true = .non ∧ t = none, fun r t => r = D.bl true ∧ t = none, fun _ _ => False, fun _ _ => False⟩
def spLaw (K : PySem.W.Frag) : Sp := fun vs H Q EX => ∃ ns : List Int, ns.length ≤ 63 ∧ spOf K [.scr ns] none (.bl true) none vs H Q EX
theorem law_ok {E : En} {st : Stmt} {fa : Addr} {fd : FuncData} {N : List Str} {k : Nat} (T : Fun E.K "law" "law" st fa fd) {x : Str} (S : FnScope N [x] (defScope st)) (body : ∀ ns : List Int, ns.length ≤ 63 → LawBody E N st k ns) :
    FnOk E.P E.w E.K E.mg E.base CX0 (k + 1) fa fd [x] (spLaw E.K) := by
  refine T.ok S (fun vs H Q EX h => ?_) fun cdv A outer sh H vs Q EX hr h => ?_
  · obtain ⟨ns, _, p, S, r, _⟩ := h
    rw [r.length]; rfl
  · obtain ⟨ns, hl, p, S0, r, tr, t, q⟩ := h
    refine ⟨_, pss_wb, body ns hl fa cdv A outer sh H EX S0 p hr [] (L2.start N vs) H (fm_start (F := bodyF E N "law" st none fa cdv A outer sh H EX S0 p) r tr t rfl) _ ⟨fun O σ H' ρ t' f st h => ?_, fun v H' r' t' rv xp ta h => ?_, fun O σ H' ρ t' f st h => h.elim, fun O σ H' ρ t' f st h => h.elim⟩⟩
    · cases h.1
    · obtain ⟨rfl, rfl⟩ := h
      exact q v H' rv xp ta
theorem law_in {K : PySem.W.Frag} {H : Hp} {a : Addr} {ns : List Int} (hl : ns.length ≤ 63) (h : SqL K H a (ns.map V.int)) : spLaw K [.ref a] H (fun v _ => v = .bl true) fun _ _ _ => False := by
  refine ⟨ns, hl, 0, [], .cons (.scr ?_) .nil, fun a m => absurd m (by simp), trivial, fun v H' r _ _ => by cases r; rfl⟩
  rcases h with h | h
  · exact .inl ⟨by simp, h⟩
  · exact .inr (.inr h)
end Gh
set_option Elab.async false
set_option linter.all false
set_option maxRecDepth 100000
set_option maxHeartbeats 4000000
/-! enumerate of a tuple, of a text; a text walked -/
namespace Es
open PySem PySem.Spec PyProof.Rows L2
section
theorem new1 {v : Value} {o : Obj} {H : Heap → Prop} (B : Begins v o H) :
    Meets (Builtin.«enumerate.__new__» ⟨[.type "enumerate", v], []⟩) (fun _ R s => H s.heap ∧
      R (.ok (.ret (.ref (s.heap.push o).objs.size))) { s with heap := (s.heap.push o).push { cls := .type "enumerate", data := .fields #[.none, .bool false, .ref s.heap.objs.size, rawInt 0, .none, .none] } }) :=
  .of_wp fun prog w A R s h => by
    obtain ⟨hp, g, d, tk, os⟩ := s; obtain ⟨h1, h⟩ := h
    have hsub := sub_enumerate
    have q1 : ∀ {A' : Around} {E : Value → Shared → Prop} {Q : Value → Shared → Prop}, Q (.ref hp.objs.size) ⟨hp.push o, g, d, tk, os⟩ → wpAny (model prog w) A' (pyIter v) Q E ⟨hp, g, d, tk, os⟩ :=
      fun q => B.iter prog w _ _ ⟨hp, g, d, tk, os⟩ _ h1 q
    wp_walk using q1
    refine wpAny_stack_any fun st => wpAny_pure ?_
    split
    · rename_i c _ _ _ _ _
      cases (c == Value.type "enumerate")
      · wp_walk using q1
        exact ⟨_, rfl, h⟩
      · wp_walk using q1
        exact ⟨_, rfl, h⟩
    · wp_walk using q1
      exact ⟨_, rfl, h⟩
variable {prog : Program} {w : World} {A : Around} {E : Value → Shared → Prop} {s : Shared}
theorem made {v : Value} {o : Obj} {H : Heap → Prop} {Q : Value → Shared → Prop} (B : Begins v o H) (h1 : H s.heap)
    (h : ∀ h', IsEnum h' (s.heap.objs.size + 1) s.heap.objs.size 0 .none → h'.get? s.heap.objs.size = some o → h'.objs.size = s.heap.objs.size + 2 →
      (∀ b o, s.heap.get? b = some o → h'.get? b = some o) → Q (.ref (s.heap.objs.size + 1)) { s with heap := h' }) :
    wpAny (model prog w) A (call (.type "enumerate") [v]) Q E s := by
  refine callType_new F.called_enumerate (by decide) (F.typeCall_enumerate_1 _) (F.newCall_enumerate_1 _) (fun obj => F.args_object_init_2 obj _) F.entry_enumerate_new (new1 B) ⟨h1, ?_⟩
  have hz : (s.heap.push o).objs.size = s.heap.objs.size + 1 := Heap.size_push ..
  show _ ∧ _
  rw [hz]
  have he : IsEnum ((s.heap.push o).push { cls := .type "enumerate", data := .fields #[.none, .bool false, .ref s.heap.objs.size, rawInt 0, .none, .none] }) (s.heap.objs.size + 1) s.heap.objs.size 0 .none := by
    have := Heap.get?_push_size (s.heap.push o) (o := { cls := .type "enumerate", data := .fields #[.none, .bool false, .ref s.heap.objs.size, rawInt 0, .none, .none] }) rfl
    rw [hz] at this; exact this
  refine ⟨⟨_, he, rfl⟩, h _ he (Heap.get?_push_of_some _ (Heap.get?_push_size _ B.free)) (by rw [Heap.size_push, hz]) fun b o x => Heap.get?_push_of_some _ (Heap.get?_push_of_some _ x)⟩
end
theorem getV : ∀ {xs : List V} {us : List Value} {i : Nat} {v : Value}, Vals xs us → us[i]? = some v → ∃ x, xs[i]? = some x ∧ RelV x v
  | _, _, _, _, .nil, h => by simp at h
  | _, _, 0, _, .cons r _, h => by simp at h; subst h; exact ⟨_, rfl, r⟩
  | _, _, i + 1, _, .cons _ rr, h => by simpa using getV (i := i) rr (by simpa using h)
/-- what is enumerated: the i-th value (where the source stands so in H) -/
structure Src (P : Program) (w : World) (K : PySem.W.Frag) where
  at_ : Hp → List V → Prop
  fp : Addr → List Addr
  st : Addr → Nat → Heap → Prop
  inj : ∀ {X : Cx} {pins : List (Addr × Obj)} {σ : L2.St} {H : Hp} {s : Shared} {xs ys : List V}, X.K = K → Inv X pins σ H s → at_ H xs → at_ H ys → xs = ys
  cell : ∀ it i h, st it i h → ∃ o vs, h.get? it = some o ∧ o.data = .fields vs
  keep : ∀ it i h h', st it i h → (∀ o, h.get? it = some o → h'.get? it = some o) → st it i h'
  draws : ∀ {X : Cx} {pins : List (Addr × Obj)} {σ : L2.St} {H : Hp} {s : Shared} {xs : List V} (it e : Addr), X.prog = P → X.w = w → X.K = K → X.calm = true → Inv X pins σ H s → at_ H xs → (∃ o vs, s.heap.get? it = some o ∧ o.data = .fields vs) → (∃ o vs, s.heap.get? e = some o ∧ o.data = .fields vs) →
    e ≠ it → ∃ (n : Nat) (Pv : Nat → Value → Prop) (fp : List Addr) (St : Nat → Heap → Prop), n = xs.length ∧ Draws P w X.A.in1 it fp n Pv St ∧ it ∈ fp ∧ e ∉ fp ∧ (∀ i, st it i s.heap → St i s.heap) ∧ (∀ i h, St i h → st it i h) ∧ ∀ i v, Pv i v → ∃ x, xs[i]? = some x ∧ RelV x v
def It (K : PySem.W.Frag) {P : Program} {w : World} (S : Src P w K) : L2.It :=
  ⟨fun i H => ∃ (xs : List V) (x : V), S.at_ H xs ∧ xs[i]? = some x, fun i H v H' => ∃ T x, v = .ref T ∧ H T = none ∧ H' = upd H T (.tup [.int (i : Nat), x]) ∧ ∀ xs, S.at_ H xs → xs[i]? = some x, fun i H => ∃ xs : List V, S.at_ H xs ∧ xs.length = i⟩
theorem turn {P : Program} {w : World} {K : PySem.W.Frag} {elts : List Expr} {kk : Nat} {tpos : Pos} (S : Src P w K) (e it : Addr) :
    Turn P w K (.Tuple elts kk tpos) (It K S) [e, it] e (fun i h => (∃ old, IsEnum h e it ((i : Nat) : Int) old) ∧ S.st it i h ∧ e ≠ it) where
  mem := by simp
  obj := fun i h st b hb => by
    obtain ⟨⟨old, he⟩, hi, _⟩ := st
    obtain ⟨o, vs, ho, hd⟩ := S.cell _ _ _ hi
    have e' : b = e ∨ b = it := by simpa using hb
    rcases e' with z | z
    · rw [z]; exact ⟨_, he, fun v q => nomatch q⟩
    · rw [z]; exact ⟨o, ho, fun v q => by rw [hd] at q; cases q⟩
  keep := fun i h h' st k => let ⟨⟨old, he⟩, hi, hne⟩ := st; ⟨⟨old, k e (by simp) _ he⟩, S.keep _ _ _ _ hi fun o q => k it (by simp) o q, hne⟩
  item := by
    intro X hP hw hK hc i pins s σ H E I hf st hg
    obtain ⟨⟨old, he⟩, hit, hne⟩ := st
    obtain ⟨xs, x, hq, hx⟩ := hg
    obtain ⟨n, Pv, fp, St, hn, D, hm, hef, h1, h2, h3⟩ := S.draws it e hP hw hK hc I hq (S.cell _ _ _ hit) ⟨_, _, he, rfl⟩ hne
    subst hP hw hK
    have hel : e < s.heap.objs.size := Heap.lt_size he
    have hil : it < s.heap.objs.size := by obtain ⟨_, _, q, _⟩ := S.cell _ _ _ hit; exact Heap.lt_size q
    have hin : i < n := by rw [hn]; exact (List.getElem?_eq_some_iff.mp hx).1
    refine wpAny_pyNext_enum_itemD D he (h1 i hit) hin hne hef fun u h' tk hP ho hit' hT hsz hk => ?_
    obtain ⟨x', hx', ru⟩ := h3 i u hP
    obtain rfl : x' = x := Option.some.inj (hx'.symm.trans hx)
    refine ⟨_, rfl, wpAny_letOwnedTupleGo_enum (s := { s with heap := h', toks := tk + 1 }) ho fun h'' he' sb => ?_⟩
    have hT2 : h''.get? s.heap.objs.size = some { cls := .type "tuple", data := .seq #[.int i tk, u] } := (sb.2 _ (Nat.ne_of_gt hel)).trans hT
    have new : ObjOk X.prog X.w (upd H s.heap.objs.size (.tup [.int (i : Nat), x'])) h'' s.heap.objs.size (.tup [.int (i : Nat), x']) :=
      ⟨by show 2 ≤ sizeLine; decide, [.int i tk, u], .cons ⟨_, rfl⟩ (.cons ru .nil), ⟨_, hT2, rfl, _, rfl⟩⟩
    have I1 : Inv X pins σ (upd H s.heap.objs.size (.tup [.int (i : Nat), x'])) { s with heap := h'', toks := tk + 1 } :=
      I.turnedNew (ch := [e, it]) (fun b ob hb q => (sb.2 b (fun z => hb (by simp [z]))).trans (hk b ob (fun z => hb (by simp [z])) (fun z => hb (by simp [z])) q)) hf (Nat.le_refl _) new
    refine ⟨.ref s.heap.objs.size, _, I1, rfl, ⟨_, x', rfl, I.hok.fresh (Nat.le_refl _), rfl, fun ys hy => by rw [S.inj rfl I hy hq]; exact hx⟩, ⟨⟨u, ?_⟩, S.keep _ _ _ _ (h2 _ _ hit') fun o q => (sb.2 it (Ne.symm hne)).trans q, hne⟩, fun b hb => ?_⟩
    · have e1 : ((i + 1 : Nat) : Int) = (i : Int) + 1 := by omega
      rw [e1]; exact he'
    · have hb' : b < s.heap.objs.size := by
        have e' : b = e ∨ b = it := by simpa using hb
        rcases e' with z | z
        · rw [z]; exact hel
        · rw [z]; exact hil
      rw [upd_ne (Nat.ne_of_lt hb')]
      exact (hf b hb).1
  done := by
    intro X hP hw hK hc i pins s σ H E I hf st hg
    obtain ⟨⟨old, he⟩, hit, hne⟩ := st
    obtain ⟨xs, hq, hx⟩ := hg
    obtain ⟨n, Pv, fp, St, hn, D, hm, hef, h1, h2, h3⟩ := S.draws it e hP hw hK hc I hq (S.cell _ _ _ hit) ⟨_, _, he, rfl⟩ hne
    subst hP hw hK
    obtain ⟨f0, f1, f2, f3, f4, f5⟩ := hf it (by simp)
    have e2 : i = n := by omega
    subst e2
    exact wpAny_pyNext_enum_endD D he (h1 _ hit) fun h' eb => ⟨rfl, I.turned (t' := s.toks) (fun b o hb q => eb b o hb q) f0 f1 f3 f4 f5⟩
  self := fun A i s Q E st h => let ⟨⟨_, he⟩, _⟩ := st; wpAny_pyIter_enum he h
def srcT (P : Program) (w : World) (K : PySem.W.Frag) (a : Addr) : Src P w K where
  at_ := fun H xs => SqT K H a xs
  fp := fun it => [it, a]
  st := fun it i h => h.IsTupleIter it a i
  inj := fun hK I h1 h2 => by subst hK; exact Zm.Sq.inj (t := true) I h1 h2
  cell := fun it i h st => by obtain ⟨o, e, _, d⟩ := st; exact ⟨o, _, e, d⟩
  keep := fun it i h h' st k => st.at k
  draws := fun {X pins σ H s xs} it e hP hw hK hc I hq c1 c2 hne => by
    subst hP hw hK
    obtain ⟨its, rv, p, hz⟩ := Zm.Sq.get (t := true) I hq
    have p : s.heap.IsTuple a its.toArray := p
    have nt : ∀ b, (∃ o vs, s.heap.get? b = some o ∧ o.data = .fields vs) → b ≠ a := fun b hb z => by
      obtain ⟨o, vs, e1, d1⟩ := hb
      obtain ⟨o2, e2, _, n, d2⟩ := p
      rw [z] at e1
      rw [e1] at e2
      cases e2
      rw [d1] at d2
      cases d2
    refine ⟨its.toArray.size, _, _, _, ?_, Draws.tuple (A := X.A.in1) (I.ok.hd hc) it a (Ne.symm (nt it c1)) its.toArray, by simp, ?_, fun i st => ⟨st, p⟩, fun i h st => st.1, fun i v hv => ?_⟩
    · rw [rv.length]; simp
    · simp only [List.mem_cons, List.not_mem_nil, or_false, not_or]
      exact ⟨hne, nt e c2⟩
    · exact getV rv (by simpa using hv)
def srcS (P : Program) (w : World) (K : PySem.W.Frag) (x : Str) (t : Tok) : Src P w K where
  at_ := fun _ xs => xs = x.cps.toList.map fun c => .str ⟨#[c]⟩
  fp := fun it => [it]
  st := fun it i h => h.IsStrIter it (strIterType x) x t i
  inj := fun hK I h1 h2 => by rw [h1, h2]
  cell := fun it i h st => by obtain ⟨o, e, _, d⟩ := st; exact ⟨o, _, e, d⟩
  keep := fun it i h h' st k => by obtain ⟨o, ho, r⟩ := st; exact ⟨o, k o ho, r⟩
  draws := fun {X pins σ H s xs} it e hP hw hK hc I hq c1 c2 hne => by
    subst hP hw hK hq
    refine ⟨x.cps.size, _, _, _, by simp, Draws.text (A := X.A.in1) (I.ok.hd hc) it x t, by simp, by simpa using hne, fun i st => st, fun i h st => st, fun i v hv => ?_⟩
    obtain ⟨c, u, h1, h2⟩ := hv
    exact ⟨.str ⟨#[c]⟩, by simp [h1], u, h2⟩
def iEn (K : PySem.W.Frag) (P : Program) (w : World) (ta : TA) : TI := fun σ H R => ta σ H fun vs H1 => (∃ a xs, vs = [.ref a] ∧ SqT K H1 a xs ∧ R (It K (srcT P w K a)) H1) ∨ ∃ x, vs = [.str x] ∧ ∀ t, R (It K (srcS P w K x t)) H1
theorem pi_en {X : Cx} {e : Expr} {ta : TA} {p pos tpos : Pos} {elts : List Expr} {kk : Nat} (hg : Gl X "enumerate") (hm : X.mg "enumerate" = none) (ha : PA X [e] ta) (hs : starEach [e] X.env = [(false, eval e X.env)] := by rfl) :
    PI X (.Tuple elts kk tpos) (.Call (.Name "enumerate" p) [e] [] pos) (iEn X.K X.prog X.w ta) := by
  refine ⟨fun pins s σ H R I h => ?_⟩
  refine Call_ (ld_blt I hg hm boot_enumerate (PyProof.Rows.callWith_type1 (thn (ha.run pos pins s σ H _ I h) fun us s1 ⟨vs, H1, I1, r1, q1⟩ => ?_) hs rfl))
  have fin : ∀ {h' : Heap} {t' : Nat} {S : Src X.prog X.w X.K}, IsEnum h' (s1.heap.objs.size + 1) s1.heap.objs.size 0 .none → S.st s1.heap.objs.size 0 h' → (∀ b o, s1.heap.get? b = some o → h'.get? b = some o) → R (It X.K S) H1 →
      wpAny (model X.prog X.w) X.A (pyIter (.ref (s1.heap.objs.size + 1))) (PIE X pins σ (.Tuple elts kk tpos) R) X.xe { s1 with heap := h' } := fun {h' t' S} he hit hk q => by
    refine wpAny_pyIter_enum he ?_
    have I2 : Inv X pins σ H1 { s1 with heap := h' } := I1.kept (t' := s1.toks) hk
    refine ⟨s1.heap.objs.size + 1, [s1.heap.objs.size + 1, s1.heap.objs.size], _, _, H1, rfl, I2, turn S (s1.heap.objs.size + 1) s1.heap.objs.size, ⟨⟨.none, he⟩, hit, Nat.succ_ne_self _⟩, fun b hb => ?_, q⟩
    have e' : b = s1.heap.objs.size + 1 ∨ b = s1.heap.objs.size := by simpa using hb
    have hle : s1.heap.objs.size ≤ b := by
      rcases e' with z | z
      · rw [z]; exact Nat.le_add_right _ _
      · rw [z]; exact Nat.le_refl _
    exact I1.fpOk hle (I1.hok.fresh hle)
  rcases q1 with ⟨a, xs, ex, hq, q⟩ | ⟨x, ex, q⟩
  · subst ex
    cases r1 with
    | cons r rr =>
      cases rr
      cases r
      obtain ⟨its, rv, p', hz⟩ := Zm.Sq.get (t := true) I1 hq
      have p' : s1.heap.IsTuple a its.toArray := p'
      exact made (begins_tuple a its.toArray) p' fun h' he hit hsz hk => fin (t' := s1.toks) (S := srcT X.prog X.w X.K a) he ⟨_, hit, rfl, rfl⟩ hk q
  · subst ex
    cases r1 with
    | cons r rr =>
      cases rr
      obtain ⟨t, rfl⟩ := r
      exact made (begins_text x t) trivial fun h' he hit hsz hk => fin (t' := s1.toks) (S := srcS X.prog X.w X.K x t) he ⟨_, hit, rfl, rfl⟩ hk (q t)
theorem walkT {P : Program} {w : World} {K : PySem.W.Frag} {a : Addr} {xs : List V} : Walk (It K (srcT P w K a)) xs.length (fun H => SqT K H a xs) (YPair (fun i => some (.int (i : Nat))) (fun i => xs[i]?)) := by
  refine ⟨fun i _ hi q => ⟨xs, xs[i], q, by simp [hi]⟩, fun _ q => ⟨xs, q, rfl⟩, fun i H v H' _ q y => ?_⟩
  obtain ⟨T, x, h1, h2, h3, h4⟩ := y
  exact ⟨T, .int (i : Nat), x, h1, h2, h3, rfl, h4 xs q⟩
theorem walkS {P : Program} {w : World} {K : PySem.W.Frag} {x : Str} {t : Tok} : Walk (It K (srcS P w K x t)) x.cps.size (fun _ => True) (YPair (fun i => some (.int (i : Nat))) (fun i => (x.cps.toList.map fun c => (V.str ⟨#[c]⟩))[i]?)) := by
  refine ⟨fun i _ hi q => ⟨_, .str ⟨#[x.cps[i]]⟩, rfl, by simp [hi]⟩, fun _ q => ⟨_, rfl, by simp⟩, fun i H v H' _ q y => ?_⟩
  obtain ⟨T, z, h1, h2, h3, h4⟩ := y
  exact ⟨T, .int (i : Nat), z, h1, h2, h3, rfl, h4 _ rfl⟩
end Es
set_option Elab.async false
set_option linter.all false
set_option maxRecDepth 100000
set_option maxHeartbeats 4000000
/-! list(zip(xs, ys)), xs and ys lists -/
namespace Lz
open PySem PySem.Spec PyProof.Rows L2
theorem no_len : typeLookup (.type "zip") "__len__" = pure none := am_miss_of_fast (by decide +kernel)
theorem no_hint : typeLookup (.type "zip") "__length_hint__" = pure none := am_miss_of_fast (by decide +kernel)
section
variable {prog : Program} {w : World} {A : Around} {E : Value → Shared → Prop} {s : Shared}
theorem hint {r : Addr} (hT : s.TypeIs (.ref r) "zip") {Q : Bool → Shared → Prop} (h : Q true s) : wpAny (model prog w) A (Builtin.List.listLengthHint (.ref r)) Q E s := by
  unfold Builtin.List.listLengthHint
  refine wpAny_bind (wpAny_specialOf hT no_len ?_)
  dsimp only
  refine wpAny_ite_split (fun hab => absurd hab (by decide)) (fun _ => ?_)
  refine wpAny_ite_split (fun hab => absurd hab (by decide)) (fun _ => ?_)
  exact wpAny_bind (wpAny_specialOf hT no_hint (wpAny_pure h))
/-- the pairs that have been given -/
structure Ps (xs ys : Array Value) (lo : Addr) (h : Heap) (as : List Addr) : Prop where
  nd : as.Nodup
  above : ∀ a ∈ as, lo < a
  pairs : ∀ (j : Nat) (a : Addr), as[j]? = some a → ∃ x y, xs[j]? = some x ∧ ys[j]? = some y ∧ h.get? a = some { cls := .type "tuple", data := .seq #[x, y] }
structure Zs (xs ys : Array Value) (z TI TO i1 i2 l1 l2 S : Addr) (i : Nat) (h : Heap) : Prop where
  tI : IsPair h TI (.ref i1) (.ref i2)
  r1 : h.IsListIter i1 l1 i
  r2 : h.IsListIter i2 l2 i
  s1 : h.IsList l1 xs
  s2 : h.IsList l2 ys
  z : (i = 0 ∧ IsZip h z TI TO .none ∧ ∃ x y, IsPair h TO x y) ∨ ∃ T f oT, IsZipHeld h z TI TO T f ∧ h.get? T = some oT ∧ S < T
theorem Zs.keep {xs ys : Array Value} {z TI TO i1 i2 l1 l2 S : Addr} {i : Nat} {h h' : Heap} (x : Zs xs ys z TI TO i1 i2 l1 l2 S i h) (k : ∀ b o, b ≠ S → h.get? b = some o → h'.get? b = some o) (n : z ≠ S ∧ TI ≠ S ∧ TO ≠ S ∧ i1 ≠ S ∧ i2 ≠ S ∧ l1 ≠ S ∧ l2 ≠ S) : Zs xs ys z TI TO i1 i2 l1 l2 S i h' := by
  obtain ⟨n1, n2, n3, n4, n5, n6, n7⟩ := n
  refine ⟨k _ _ n2 x.tI, x.r1.at fun o e => k _ o n4 e, x.r2.at fun o e => k _ o n5 e, x.s1.at fun o e => k _ o n6 e, x.s2.at fun o e => k _ o n7 e, ?_⟩
  rcases x.z with ⟨e, q, u, v, p⟩ | ⟨T, f, oT, q, e, lt⟩
  · exact .inl ⟨e, k _ _ n1 q, u, v, k _ _ n3 p⟩
  · exact .inr ⟨T, f, oT, k _ _ n1 q, k _ _ (Nat.ne_of_gt lt) e, lt⟩
theorem item {xs ys : Array Value} {z TI TO i1 i2 l1 l2 S : Addr} {i : Nat} {x y : Value} {Q : Option Value → Shared → Prop} (D : ZipApart z TI TO i1 i2 l1 l2) (st : Zs xs ys z TI TO i1 i2 l1 l2 S i s.heap) (hS : S < s.heap.objs.size) (lt : z < S ∧ i1 < S ∧ i2 < S ∧ TO < S ∧ l1 < S ∧ l2 < S ∧ TI < S) (n : l1 ≠ i2 ∧ l1 ≠ i1 ∧ l2 ≠ i1 ∧ l2 ≠ i2 ∧ l1 ≠ z ∧ l2 ≠ z ∧ l1 ≠ TO ∧ l2 ≠ TO)
    (hx : xs[i]? = some x) (hy : ys[i]? = some y)
    (hQ : ∀ h', Zs xs ys z TI TO i1 i2 l1 l2 S (i + 1) h' → h'.get? s.heap.objs.size = some { cls := .type "tuple", data := .seq #[x, y] } → h'.objs.size = s.heap.objs.size + 1 →
      (∀ b o, b ≠ z → b ≠ TO → b ≠ i1 → b ≠ i2 → s.heap.get? b = some o → h'.get? b = some o) → Q (some (.ref s.heap.objs.size)) { s with heap := h' }) : wpAny (model prog w) A (pyNext (.ref z)) Q E s := by
  obtain ⟨m1, m2, m3, m4, m5, m6, m7, m8⟩ := n
  rcases st.z with ⟨e, q, u, v, p⟩ | ⟨T, f, oT, q, e, ltT⟩
  · refine Zm.py_item (t := false) (u := false) D q st.tI p st.r1 st.r2 st.s1 st.s2 hx hy fun h' z' TO' h1' h2' hT hsz hk => hQ h' ⟨hk _ _ D.TIz D.TITO D.TIi1 D.TIi2 st.tI, h1', h2', st.s1.at fun o e => hk _ o m5 m7 m2 m1 e, st.s2.at fun o e => hk _ o m6 m8 m3 m4 e, .inr ⟨_, false, _, z', hT, hS⟩⟩ hT hsz hk
  · obtain ⟨o1, o2, o3, o4, o5, o6, o7⟩ := lt
    refine wpAny_pyNext_zip_item_held D q e st.tI st.r1 st.r2 st.s1 st.s2 hx hy fun h' z' h1' h2' hT hsz hk => hQ h' ⟨hk _ _ D.TIz D.TIi1 D.TIi2 st.tI, h1', h2', st.s1.at fun o e => hk _ o m5 m2 m1 e, st.s2.at fun o e => hk _ o m6 m3 m4 e, .inr ⟨T, true, oT, z', hk _ _ ?_ ?_ ?_ e, ltT⟩⟩ hT hsz fun b o c1 _ c3 c4 e => hk b o c1 c3 c4 e
    · exact Nat.ne_of_gt (Nat.lt_trans o1 ltT)
    · exact Nat.ne_of_gt (Nat.lt_trans o2 ltT)
    · exact Nat.ne_of_gt (Nat.lt_trans o3 ltT)
theorem done {xs ys : Array Value} {z TI TO i1 i2 l1 l2 S : Addr} {i : Nat} {Q : Option Value → Shared → Prop} (hh : A.handled = none) (D : ZipApart z TI TO i1 i2 l1 l2) (st : Zs xs ys z TI TO i1 i2 l1 l2 S i s.heap) (he : xs[i]? = none ∨ ys[i]? = none)
    (hQ : ∀ h', (∀ b o, b ≠ z → b ≠ TO → b ≠ i1 → b ≠ i2 → s.heap.get? b = some o → h'.get? b = some o) → Q none { s with heap := h' }) : wpAny (model prog w) A (pyNext (.ref z)) Q E s := by
  rcases st.z with ⟨e, q, u, v, p⟩ | ⟨T, f, oT, q, e, ltT⟩
  · exact Zm.py_end (t := false) (u := false) hh D q st.tI p st.r1 st.r2 st.s1 st.s2 he fun h' hk => hQ h' hk
  · exact wpAny_pyNext_zip_end_held hh D q e st.tI st.r1 st.r2 st.s1 st.s2 he fun h' hk => hQ h' fun b o c1 _ c3 c4 e => hk b o c1 c3 c4 e
/-- how the cells lie -/
structure Lie (z TI TO i1 i2 l1 l2 S : Addr) : Prop where
  D : ZipApart z TI TO i1 i2 l1 l2
  lt : z < S ∧ i1 < S ∧ i2 < S ∧ TO < S ∧ l1 < S ∧ l2 < S ∧ TI < S
  n : l1 ≠ i2 ∧ l1 ≠ i1 ∧ l2 ≠ i1 ∧ l2 ≠ i2 ∧ l1 ≠ z ∧ l2 ≠ z ∧ l1 ≠ TO ∧ l2 ≠ TO
theorem Lie.ne {z TI TO i1 i2 l1 l2 S : Addr} (L : Lie z TI TO i1 i2 l1 l2 S) : z ≠ S ∧ TI ≠ S ∧ TO ≠ S ∧ i1 ≠ S ∧ i2 ≠ S ∧ l1 ≠ S ∧ l2 ≠ S := by
  obtain ⟨o1, o2, o3, o4, o5, o6, o7⟩ := L.lt
  exact ⟨Nat.ne_of_lt o1, Nat.ne_of_lt o7, Nat.ne_of_lt o4, Nat.ne_of_lt o2, Nat.ne_of_lt o3, Nat.ne_of_lt o5, Nat.ne_of_lt o6⟩
theorem Lie.over {z TI TO i1 i2 l1 l2 S b : Addr} (L : Lie z TI TO i1 i2 l1 l2 S) (h : S < b) : b ≠ z ∧ b ≠ TO ∧ b ≠ i1 ∧ b ≠ i2 := by
  obtain ⟨o1, o2, o3, o4, o5, o6, o7⟩ := L.lt
  exact ⟨Nat.ne_of_gt (Nat.lt_trans o1 h), Nat.ne_of_gt (Nat.lt_trans o4 h), Nat.ne_of_gt (Nat.lt_trans o2 h), Nat.ne_of_gt (Nat.lt_trans o3 h)⟩
theorem loop {xs ys : Array Value} {z TI TO i1 i2 l1 l2 S : Addr} {R : Result → Shared → Prop} (hh : A.handled = none) (L : Lie z TI TO i1 i2 l1 l2 S) {n : Nat} (hnx : n = min xs.size ys.size) (hn : n ≤ sizeLine) (res : Value) {h₁ : Heap}
    (hR : ∀ h' acc c as, (∀ b o, b ≠ S → b ≠ z → b ≠ TO → b ≠ i1 → b ≠ i2 → h₁.get? b = some o → h'.get? b = some o) → h'.get? S = some { cls := .type "list", dict := none, data := .seq acc c, slots := #[] } → as.length = n → Ps xs ys S h' as →
      acc.toList = as.map Value.ref → R (.ok (.ret res)) { s with heap := h' }) :
    ∀ (k i : Nat) (h : Heap) (c : Nat) (acc : Array Value) (as : List Addr), n - i = k → i ≤ n → Zs xs ys z TI TO i1 i2 l1 l2 S i h → (∀ b o, b ≠ S → b ≠ z → b ≠ TO → b ≠ i1 → b ≠ i2 → h₁.get? b = some o → h.get? b = some o) →
      h.get? S = some { cls := .type "list", dict := none, data := .seq acc c, slots := #[] } → acc.toList = as.map Value.ref → as.length = i → Ps xs ys S h as →
      codeAny (model prog w) A (.builtin "list.extend.loop" ⟨[.ref S, .ref z, res], []⟩) R { s with heap := h } := by
  obtain ⟨e1, e2, e3, e4, e5, e6, e7⟩ := L.ne
  intro k
  induction k with
  | zero =>
    intro i h c acc as hk hi hst hkeep hS hacc hal hG
    have hin : i = n := by omega
    refine codeAny_builtin PySem.F.entry_extend_loop ?_
    rw [Around.under_plainId PySem.F.plain_extend_loop _]
    show wpAny _ A.in1 (pyNext (.ref z) >>= _) _ _ _
    have hend : xs[i]? = none ∨ ys[i]? = none := by
      rcases Nat.le_total xs.size ys.size with q | q
      · exact .inl (Array.getElem?_eq_none (by omega))
      · exact .inr (Array.getElem?_eq_none (by omega))
    refine wpAny_bind (done (s := { s with heap := h }) (A := A.in1) hh L.D hst hend fun h' he => ?_)
    refine wpAny_pure (hR h' acc c as (fun b o h1 h2 h3 h4 h5 e => he b o h2 h3 h4 h5 (hkeep b o h1 h2 h3 h4 h5 e)) (he S _ (Ne.symm e1) (Ne.symm e3) (Ne.symm e4) (Ne.symm e5) hS) (by omega) ⟨hG.nd, hG.above, fun j a hj => ?_⟩ hacc)
    obtain ⟨x, y, q1, q2, q3⟩ := hG.pairs j a hj
    obtain ⟨n1, n2, n3, n4⟩ := L.over (hG.above a (List.mem_of_getElem? hj))
    exact ⟨x, y, q1, q2, he a _ n1 n2 n3 n4 q3⟩
  | succ k ih =>
    intro i h c acc as hk hi hst hkeep hS hacc hal hG
    have hlt : i < n := by omega
    obtain ⟨x, hx⟩ : ∃ p, xs[i]? = some p := ⟨xs[i]'(by omega), Array.getElem?_eq_getElem _⟩
    obtain ⟨y, hy⟩ : ∃ p, ys[i]? = some p := ⟨ys[i]'(by omega), Array.getElem?_eq_getElem _⟩
    have hsz : acc.size = i := by rw [← Array.length_toList, hacc, List.length_map, hal]
    have hSl : S < h.objs.size := Heap.lt_size hS
    refine codeAny_builtin PySem.F.entry_extend_loop ?_
    rw [Around.under_plainId PySem.F.plain_extend_loop _]
    show wpAny _ A.in1 (pyNext (.ref z) >>= _) _ _ _
    refine wpAny_bind (item (s := { s with heap := h }) L.D hst hSl L.lt L.n hx hy fun h' hst' ht hz hkp => ?_)
    dsimp only at ht hz hkp ⊢
    have hS' := hkp S _ (Ne.symm e1) (Ne.symm e3) (Ne.symm e4) (Ne.symm e5) hS
    have up : ∀ b o, b ≠ S → h'.get? b = some o → (h'.update S (Obj.mapSeq (·.push (Value.ref h.objs.size)))).get? b = some o := fun b o hb e => (Heap.get?_update_other _ _ (Ne.symm hb)).trans e
    show wpAny _ A.in1 (updateSeq S (·.push (Value.ref h.objs.size)) >>= _) _ _ _
    refine wpAny_bind ?_
    refine wpAny_updateSeq hS' rfl (wpAny_pure ⟨plainId_quiet PySem.F.plain_extend_loop _, ih (i + 1) _ _ (acc.push (Value.ref h.objs.size)) (as ++ [h.objs.size]) (by omega) hlt (hst'.keep up L.ne)
      (fun b o h1 h2 h3 h4 h5 e => up b o h1 (hkp b o h2 h3 h4 h5 (hkeep b o h1 h2 h3 h4 h5 e))) (Heap.get?_update_self _ hS' rfl) (by rw [Array.toList_push, hacc, List.map_append]; rfl) (by rw [List.length_append, hal]; rfl) ⟨?_, ?_, ?_⟩⟩) (by rw [hsz]; omega) (by show (acc.push (Value.ref h.objs.size)).size ≤ sizeLine + 1; rw [Array.size_push, hsz]; omega)
    · refine List.nodup_append.mpr ⟨hG.nd, by simp, fun a ha b hb e => ?_⟩
      rw [List.mem_singleton.mp hb] at e
      obtain ⟨j, hj⟩ := List.mem_iff_getElem?.mp ha
      obtain ⟨_, _, _, _, q⟩ := hG.pairs j a hj
      rw [e] at q
      exact Nat.lt_irrefl _ (Heap.lt_size q)
    · intro a ha
      rcases List.mem_append.mp ha with ha | ha
      · exact hG.above a ha
      · rw [List.mem_singleton.mp ha]; exact hSl
    · intro j b hj
      rcases Nat.lt_trichotomy j as.length with h1 | h1 | h1
      · rw [List.getElem?_append_left h1] at hj
        obtain ⟨x', y', q1, q2, q3⟩ := hG.pairs j b hj
        have hb := hG.above b (List.mem_of_getElem? hj)
        obtain ⟨n1, n2, n3, n4⟩ := L.over hb
        exact ⟨x', y', q1, q2, up b _ (Nat.ne_of_gt hb) (hkp b _ n1 n2 n3 n4 q3)⟩
      · subst h1
        have hb : h.objs.size = b := by simpa using hj
        subst hb
        exact ⟨x, y, by rw [hal]; exact hx, by rw [hal]; exact hy, up _ _ (Nat.ne_of_gt hSl) ht⟩
      · have hnone : (as ++ [h.objs.size])[j]? = none := List.getElem?_eq_none (by rw [List.length_append, List.length_singleton]; omega)
        rw [hnone] at hj; cases hj
theorem extend {xs ys : Array Value} {z TI TO i1 i2 l1 l2 S : Addr} {R : Result → Shared → Prop} (hh : A.handled = none) (L : Lie z TI TO i1 i2 l1 l2 S) {n : Nat} (hnx : n = min xs.size ys.size) (hn : n ≤ sizeLine) (res : Value) (c₀ : Nat) (hS : s.heap.get? S = some { cls := .type "list", data := .seq #[] c₀ })
    (st : Zs xs ys z TI TO i1 i2 l1 l2 S 0 s.heap) (hT : s.TypeIs (.ref z) "zip") (hself : ∀ {A' : Around} {Q : Value → Shared → Prop} {E : Value → Shared → Prop}, Q (.ref z) s → wpAny (model prog w) A' (pyIter (.ref z)) Q E s)
    (hR : ∀ h' acc c as, (∀ b o, b ≠ S → b ≠ z → b ≠ TO → b ≠ i1 → b ≠ i2 → s.heap.get? b = some o → h'.get? b = some o) → h'.get? S = some { cls := .type "list", dict := none, data := .seq acc c, slots := #[] } → as.length = n → Ps xs ys S h' as →
      acc.toList = as.map Value.ref → R (.ok (.ret res)) { s with heap := h' }) :
    wpAny (model prog w) A.in1 (Builtin.List.listExtendWith (.ref S) (.ref z) res)
      (fun fin s' => match fin with | .done f => R (.ok f) s' | .again c' => c'.quiet = true ∧ codeAny (model prog w) A c' R s') (fun e s' => R (.error e) s') s := by
  have key : ∀ (h : Heap) (c₁ : Nat), (∀ b o, b ≠ S → s.heap.get? b = some o → h.get? b = some o) → h.get? S = some { cls := .type "list", data := .seq #[] c₁ } →
      codeAny (model prog w) A (.builtin "list.extend.loop" ⟨[.ref S, .ref z, res], []⟩) R { s with heap := h } := fun h c₁ hk hS₁ =>
    loop (s := s) (h₁ := s.heap) hh L hnx hn res hR n 0 h c₁ #[] [] (Nat.sub_zero _) (Nat.zero_le _) (st.keep hk L.ne) (fun b o hb _ _ _ _ e => hk b o hb e) hS₁ rfl rfl ⟨List.nodup_nil, (fun _ ha => nomatch ha), (fun j a hj => by simp at hj)⟩
  unfold Builtin.List.listExtendWith
  refine wpAny_bind (wpAny_typeOf (T := "zip") hT ?_)
  have h1 : Builtin.List.listSameRef (.ref S) (.ref z) = false := by simp [Builtin.List.listSameRef, Ne.symm L.ne.1]
  have h2 : (Value.type "zip" == Value.type "list") = false := by decide
  have h3 : (Value.type "zip" == Value.type "tuple") = false := by decide
  simp only [h1, h2, h3, Bool.or_false, Bool.false_eq_true, if_false]
  refine wpAny_bind (hself ?_)
  refine wpAny_bind (wpAny_holding (hint hT ?_))
  refine wpAny_ite_split (fun _ => ?_) (fun _ => wpAny_pure ⟨plainId_quiet PySem.F.plain_extend_loop _, key _ c₀ (fun b o _ e => e) hS⟩)
  refine wpAny_bind (wpAny_rule ?_)
  refine wpAny_bind ?_
  show wpAny _ _ (updateSeq S (·.push .none) >>= fun _ => updateSeq S (·.pop)) _ _ _
  refine wpAny_bind (wpAny_updateSeq hS rfl ?_)
  have hS₂ := Heap.get?_update_self (Obj.mapSeq (·.push Value.none)) hS rfl
  refine wpAny_updateSeq (hz := by seq_fits) hS₂ rfl ?_
  have hS₃ := Heap.get?_update_self (Obj.mapSeq (·.pop)) hS₂ rfl
  refine wpAny_pure ⟨plainId_quiet PySem.F.plain_extend_loop _, key _ _ (fun b o hb e => ?_) hS₃⟩
  exact (Heap.get?_update_other _ _ (Ne.symm hb)).trans ((Heap.get?_update_other _ _ (Ne.symm hb)).trans e)
theorem init {xs ys : Array Value} {z TI TO i1 i2 l1 l2 S : Addr} {R : Result → Shared → Prop} (hh : A.handled = none) (L : Lie z TI TO i1 i2 l1 l2 S) {n : Nat} (hnx : n = min xs.size ys.size) (hn : n ≤ sizeLine) (hS : s.heap.get? S = some { cls := .type "list", data := .seq #[] })
    (st : Zs xs ys z TI TO i1 i2 l1 l2 S 0 s.heap) (hzz : IsZip s.heap z TI TO .none)
    (hR : ∀ h' acc c as, (∀ b o, b ≠ S → b ≠ z → b ≠ TO → b ≠ i1 → b ≠ i2 → s.heap.get? b = some o → h'.get? b = some o) → h'.get? S = some { cls := .type "list", dict := none, data := .seq acc c, slots := #[] } → as.length = n → Ps xs ys S h' as →
      acc.toList = as.map Value.ref → R (.ok (.ret .none)) { s with heap := h' }) :
    wpAny (model prog w) A.in1 (Builtin.«list.__init__» ⟨[.ref S, .ref z], []⟩)
      (fun fin s' => match fin with | .done f => R (.ok f) s' | .again c' => c'.quiet = true ∧ codeAny (model prog w) A c' R s') (fun e s' => R (.error e) s') s := by
  show wpAny _ _ (do let old ← Builtin.List.listItems (.ref S); Builtin.List.listUpdate (.ref S) (fun _ => #[]); letGo old.toList.reverse; Builtin.List.listExtendWith (.ref S) (.ref z) .none) _ _ s
  refine wpAny_bind ?_
  unfold Builtin.List.listItems
  refine wpAny_bind (wpAny_seqItems hS rfl (wpAny_pure ?_))
  show wpAny _ _ (updateSeq S (fun _ => #[]) >>= fun _ => letGo (#[] : Array Value).toList.reverse >>= fun _ => Builtin.List.listExtendWith (.ref S) (.ref z) .none) _ _ s
  refine wpAny_bind (wpAny_updateSeq hS rfl ?_)
  have hS₂ := Heap.get?_update_self (Obj.mapSeq (fun _ => (#[] : Array Value))) hS rfl
  have oth : ∀ b o, b ≠ S → s.heap.get? b = some o → (s.heap.update S (Obj.mapSeq (fun _ => (#[] : Array Value)))).get? b = some o :=
    fun b o hb e => (Heap.get?_update_other _ _ (Ne.symm hb)).trans e
  refine wpAny_bind (wpAny_letGo ?_)
  have hz2 := oth _ _ L.ne.1 hzz
  refine extend (s := { s with heap := s.heap.update S (Obj.mapSeq (fun _ => (#[] : Array Value))) }) hh L hnx hn .none _ hS₂ (st.keep oth L.ne) ⟨_, hz2, rfl⟩ (fun q => wpAny_pyIter_zip hz2 q) (fun h' acc c as hk hS' hl hG hacc => ?_)
  exact hR h' acc c as (fun b o hb h2 h3 h4 h5 e => hk b o hb h2 h3 h4 h5 (oth b o hb e)) hS' hl hG hacc
theorem call_ {xs ys : Array Value} {z TI TO i1 i2 l1 l2 : Addr} {Q : Value → Shared → Prop} (hh : A.handled = none) (L : Lie z TI TO i1 i2 l1 l2 s.heap.objs.size) {n : Nat} (hnx : n = min xs.size ys.size) (hn : n ≤ sizeLine)
    (st : ∀ S, Zs xs ys z TI TO i1 i2 l1 l2 S 0 s.heap) (hzz : IsZip s.heap z TI TO .none)
    (hQ : ∀ h' acc c as, (∀ b o, b ≠ z → b ≠ TO → b ≠ i1 → b ≠ i2 → s.heap.get? b = some o → h'.get? b = some o) → h'.get? s.heap.objs.size = some { cls := .type "list", dict := none, data := .seq acc c, slots := #[] } → as.length = n → Ps xs ys s.heap.objs.size h' as →
      acc.toList = as.map Value.ref → Q (.ref s.heap.objs.size) { s with heap := h' }) :
    wpAny (model prog w) A (call (.type "list") [.ref z]) Q E s := by
  refine callType_codes (Q₁ := fun obj s₁ => obj = .ref s.heap.objs.size ∧ s₁ = { s with heap := s.heap.push { cls := .type "list", data := .seq #[] } }) PySem.F.called_list (PySem.F.typeCall_list_1 _) PySem.F.entry_list_init
    (code_list_new _ ⟨rfl, rfl⟩) fun obj s₁ h₁ => ?_
  obtain ⟨rfl, rfl⟩ := h₁
  have hS : (s.heap.push { cls := .type "list", data := .seq #[] }).get? s.heap.objs.size = some { cls := .type "list", data := .seq #[] } := Heap.get?_push_size _ rfl
  refine ⟨⟨_, hS, rfl⟩, PySem.F.args_list_init_2 _ _, init (s := { s with heap := s.heap.push { cls := .type "list", data := .seq #[] } }) (A := A.in1) hh L hnx hn hS ((st _).keep (fun b o _ e => Heap.get?_push_of_some _ e) L.ne) (Heap.get?_push_of_some _ hzz) (fun h' acc c as hk hS' hl hG hacc => ?_)⟩
  exact ⟨rfl, hQ h' acc c as (fun b o h2 h3 h4 h5 e => hk b o (Nat.ne_of_lt (Heap.lt_size e)) h2 h3 h4 h5 (Heap.get?_push_of_some _ e)) hS' hl hG hacc⟩
end
/-! over the layer -/
section
variable {X : Cx} {pins : List (Addr × Obj)} {σ : L2.St}
theorem pairsH {h' : Heap} {xs ys : List V} {us ws : List Value} (rx : Vals xs us) (ry : Vals ys ws) : ∀ (as : List Addr) (k : Nat) (H : Hp) (s : Shared), s.heap = h' → Inv X pins σ H s → as.Nodup → (∀ a ∈ as, FpOk X pins H a) →
    (∀ (j : Nat) (a : Addr), as[j]? = some a → ∃ u w, us[k + j]? = some u ∧ ws[k + j]? = some w ∧ h'.get? a = some { cls := .type "tuple", data := .seq #[u, w] }) →
    ∃ H2, Inv X pins σ H2 s ∧ (∀ b, b ∉ as → H2 b = H b) ∧ ∀ (j : Nat) (a : Addr), as[j]? = some a → ∃ x y, xs[k + j]? = some x ∧ ys[k + j]? = some y ∧ H2 a = some (.tup [x, y])
  | [], k, H, s, e, I, nd, f, p => ⟨H, I, fun _ _ => rfl, fun j a h => by simp at h⟩
  | a :: as, k, H, s, e, I, nd, f, p => by
    obtain ⟨u, w, h1, h2, h3⟩ := p 0 a rfl
    obtain ⟨x, e1, r1⟩ := Es.getV rx h1
    obtain ⟨y, e2, r2⟩ := Es.getV ry h2
    have fa := f a List.mem_cons_self
    have I1 : Inv X pins σ (upd H a (.tup [x, y])) { s with heap := s.heap, toks := s.toks } := I.take (fun b ob _ q => q) fa ⟨by show 2 ≤ sizeLine; decide, [u, w], .cons r1 (.cons r2 .nil), ⟨_, by rw [e]; exact h3, rfl, _, rfl⟩⟩
    have nd2 := List.nodup_cons.mp nd
    obtain ⟨H2, I2, k2, g2⟩ := pairsH rx ry as (k + 1) (upd H a (.tup [x, y])) s e I1 nd2.2 (fun b m => by
      have ne : b ≠ a := fun z => nd2.1 (z ▸ m)
      obtain ⟨q0, q⟩ := f b (List.mem_cons_of_mem _ m)
      exact ⟨by rw [upd_ne ne]; exact q0, q⟩) (fun j b h => by
      have := p (j + 1) b (by simpa using h)
      rw [show k + 1 + j = k + (j + 1) by omega]; exact this)
    refine ⟨H2, I2, fun b hb => ?_, fun j b h => ?_⟩
    · rw [k2 b (fun m => hb (List.mem_cons_of_mem _ m)), upd_ne (fun z => hb (by rw [z]; exact List.mem_cons_self))]
    · cases j with
      | zero =>
        simp at h; subst h
        exact ⟨x, y, e1, e2, by rw [k2 _ nd2.1, upd_same]⟩
      | succ j =>
        obtain ⟨x', y', q1, q2, q3⟩ := g2 j b (by simpa using h)
        exact ⟨x', y', by rw [show k + (j + 1) = k + 1 + j by omega]; exact q1, by rw [show k + (j + 1) = k + 1 + j by omega]; exact q2, q3⟩
end
def tLz (K : PySem.W.Frag) (ta : TA) : TE := fun σ H Q => ta σ H fun vs H1 => ∃ a b xs ys, vs = [.ref a, .ref b] ∧ SqL K H1 a xs ∧ SqL K H1 b ys ∧ ∀ (S : Addr) (as : List Addr) (H2 : Hp), H1 S = none → as.length = min xs.length ys.length → as.Nodup → (∀ a ∈ as, H1 a = none ∧ a ≠ S) →
  (∀ b, b ∉ as → b ≠ S → H2 b = H1 b) → (∀ (j : Nat) (a : Addr), as[j]? = some a → ∃ x y, xs[j]? = some x ∧ ys[j]? = some y ∧ H2 a = some (.tup [x, y])) → H2 S = some (.lst (as.map V.ref)) → Q (.ref S) H2
theorem vals_refs : ∀ as : List Addr, Vals (as.map V.ref) (as.map Value.ref)
  | [] => .nil
  | a :: as => .cons rfl (vals_refs as)
theorem pe_lz {X : Cx} {e e2 : Expr} {ta : TA} {p p2 pos pos2 : Pos} (hc : X.calm = true) (hg : Gl X "zip") (hm : X.mg "zip" = none) (hgl : Gl X "list") (hml : X.mg "list" = none) (ha : PA X [e, e2] ta)
    (hs : starEach [e, e2] X.env = (false, eval e X.env) :: starEach [e2] X.env := by rfl) (hpl : (backTo pos2 (starEach [e2] X.env)).any (·.1) = false := by rfl)
    (na : starEach [.Call (.Name "zip" p2) [e, e2] [] pos2] X.env = (false, eval (.Call (.Name "zip" p2) [e, e2] [] pos2) X.env) :: starEach [] X.env := by rfl) :
    PE X (.Call (.Name "list" p) [.Call (.Name "zip" p2) [e, e2] [] pos2] [] pos) (tLz X.K ta) := by
  refine ⟨fun pins s σ H Q I h => ?_⟩
  refine Call_ (ld_blt I hgl hml boot_list (PyProof.Rows.callWith_type1 (args_cons ?_ na) na))
  refine Call_ (ld_blt I hg hm PyProof.Rows.boot_zip (PyProof.Rows.callWith_type1 (thn (ha.run pos2 pins s σ H _ I h) fun us s1 ⟨vs, H1, I1, r1, q1⟩ => ?_) hs hpl))
  obtain ⟨a, b, xs, ys, ex, hqx, hqy, q⟩ := q1
  subst ex
  cases r1 with
  | cons r rr =>
    cases rr with
    | cons r' rr =>
      cases rr; cases r; cases r'
      obtain ⟨its, rv, p1, la⟩ := Zm.Sq.get (t := false) I1 hqx
      obtain ⟨its2, rv2, p2', lb⟩ := Zm.Sq.get (t := false) I1 hqy
      obtain ⟨_, _, _, zx⟩ := I1.list hqx
      have l1 := rv.length
      have l2 := rv2.length
      have p1 : s1.heap.IsList a its.toArray := p1
      have p2' : s1.heap.IsList b its2.toArray := p2'
      refine Zm.call_zip (t := false) (u := false) p1 p2' fun h' hz hTI hTO h1 h2 hsz hk => args_nil ?_
      have na1 : s1.heap.objs.size ≤ s1.heap.objs.size := Nat.le_refl _
      have L : Lie (s1.heap.objs.size + 4) (s1.heap.objs.size + 2) (s1.heap.objs.size + 3) s1.heap.objs.size (s1.heap.objs.size + 1) a b h'.objs.size := by
        refine ⟨PySem.W.ktu_apart s1.heap.objs.size a b la lb, ?_, ?_⟩
        · rw [hsz]; refine ⟨?_, ?_, ?_, ?_, ?_, ?_, ?_⟩ <;> first | exact Nat.add_lt_add_left (by decide) _ | exact Nat.lt_add_of_pos_right (by decide) | exact Nat.lt_of_lt_of_le la (Nat.le_add_right _ _) | exact Nat.lt_of_lt_of_le lb (Nat.le_add_right _ _)
        · refine ⟨?_, ?_, ?_, ?_, ?_, ?_, ?_, ?_⟩ <;> first | exact Nat.ne_of_lt la | exact Nat.ne_of_lt lb | exact Nat.ne_of_lt (Nat.lt_of_lt_of_le la (Nat.le_add_right _ _)) | exact Nat.ne_of_lt (Nat.lt_of_lt_of_le lb (Nat.le_add_right _ _))
      refine call_ (s := { s1 with heap := h' }) (xs := its.toArray) (ys := its2.toArray) (I1.ok.hd hc) L rfl ?_ (fun S => ⟨hTI, h1, h2, p1.at fun o e => hk _ o e, p2'.at fun o e => hk _ o e, .inl ⟨rfl, hz, _, _, hTO⟩⟩) hz fun h3 acc c as k3 hS hl hP hacc => ?_
      · simp only [List.size_toArray]
        exact Nat.le_trans (Nat.min_le_left _ _) (by rw [← l1]; exact zx)
      dsimp only at hS hP k3
      have k4 : ∀ b o, s1.heap.get? b = some o → h3.get? b = some o := fun b o e => by
        have hb := Heap.lt_size e
        exact k3 b o (Nat.ne_of_lt (Nat.lt_of_lt_of_le hb (Nat.le_add_right _ _))) (Nat.ne_of_lt (Nat.lt_of_lt_of_le hb (Nat.le_add_right _ _))) (Nat.ne_of_lt hb) (Nat.ne_of_lt (Nat.lt_of_lt_of_le hb (Nat.le_add_right _ _))) (hk b o e)
      have I2 : Inv X pins σ H1 { s1 with heap := h3 } := I1.kept (t' := s1.toks) k4
      have ge : ∀ a ∈ as, s1.heap.objs.size ≤ a := fun a m => by
        have := hP.above a m
        rw [hsz] at this
        exact Nat.le_trans (Nat.le_add_right _ _) (Nat.le_of_lt this)
      have gS : s1.heap.objs.size ≤ h'.objs.size := by rw [hsz]; exact Nat.le_add_right _ _
      have nS : ∀ a ∈ as, a ≠ h'.objs.size := fun a m => Nat.ne_of_gt (hP.above a m)
      obtain ⟨H2, I3, kb, gp⟩ := pairsH rv rv2 as 0 H1 { s1 with heap := h3 } rfl I2 hP.nd (fun a m => I1.fpOk (ge a m) (I1.hok.fresh (ge a m))) (fun j a hj => by
        obtain ⟨x, y, q1, q2, q3⟩ := hP.pairs j a hj
        exact ⟨x, y, by simpa using q1, by simpa using q2, q3⟩)
      have nSa : h'.objs.size ∉ as := fun m => nS _ m rfl
      have fS := I1.fpOk gS (I1.hok.fresh gS)
      obtain ⟨q0, q6⟩ := fS
      have I4 : Inv X pins σ (upd H2 h'.objs.size (.lst (as.map V.ref))) { s1 with heap := h3, toks := s1.toks } := I3.take (fun b ob _ q => q) ⟨by rw [kb _ nSa]; exact q0, q6⟩ ⟨?_, acc.toList, c, ?_, ?_⟩
      · refine ⟨.ref h'.objs.size, _, I4, rfl, q _ as _ (I1.hok.fresh gS) ?_ hP.nd (fun a m => ⟨I1.hok.fresh (ge a m), nS a m⟩) (fun b hb hb2 => by rw [upd_ne hb2]; exact kb b hb) (fun j a hj => ?_) upd_same⟩
        · rw [hl, l1, l2]; simp
        · obtain ⟨x, y, w1, w2, w3⟩ := gp j a hj
          rw [Nat.zero_add] at w1 w2
          exact ⟨x, y, w1, w2, by rw [upd_ne (nS a (List.mem_of_getElem? hj))]; exact w3⟩
      · rw [List.length_map, hl]
        simp only [List.size_toArray]
        exact Nat.le_trans (Nat.min_le_left _ _) (by rw [← l1]; exact zx)
      · rw [hacc]; exact vals_refs as
      · rw [Array.toArray_toList]; exact hS
end Lz
set_option Elab.async false
set_option linter.all false
set_option maxRecDepth 100000
set_option maxHeartbeats 4000000
namespace Gh
open PySem PySem.Spec PyProof.Rows L2
/-- a text, sign by sign -/
def sgns (x : Str) : List D := x.cps.toList.map fun c => D.str ⟨#[c]⟩
theorem sgns_length (x : Str) : (sgns x).length = x.cps.size := by simp [sgns]
section
variable {F : Fx} {ρ : List G} {s s1 s2 s3 : Sx} {tg a b e : Expr} {es : List Expr} {x y d : D} {xs ys ds items : List D} {pos p : Pos} {k : GE}
theorem ei_str {z : Str} (ha : Ed F ρ s a (.str z) s1) : Ei F ρ s tg a (sgns z) s1 := by
  refine ⟨ha.1, fun O σ H f R q => wi (pi_str pe_we) (ha.2 O σ H f _ fun v H1 f1 x1 r1 => ?_)⟩
  cases r1
  refine ⟨z, rfl, q _ _ f1 x1 ?_⟩
  rw [sgns_length]
  refine walk_str.mono (fun _ _ => trivial) fun i H2 v H3 hi x2 y => ?_
  obtain ⟨e, c, hc, rfl⟩ := y
  subst e
  exact ⟨fun _ _ h => h, .str ⟨#[c]⟩, by simp [sgns, hc], fun _ _ => .str _⟩
theorem ei_pairs {J : It} {n : Nat} {G : Hp → Prop} {f : Nat → Option V} {O : List Addr} {H1 : Hp} {σ : L2.St} (w : Walk J n G (YPair (fun i => some (.int (i : Nat))) f)) (hn : n = xs.length) (hG : ∀ H2, XT (O ++ F.S0) H1 H2 → G H2) (f1 : Fm F O σ H1 ρ s1)
    (hv : ∀ i v, f i = some v → ∃ d, xs[i]? = some d ∧ Rp F.X.K F.p (O ++ F.S0) H1 v d) : Walk J (enumD xs).length (fun H2 => XT (O ++ F.S0) H1 H2) (Yd F O H1 (enumD xs)) := by
  rw [enumD_length, ← hn]
  refine w.mono (fun H3 x3 => hG H3 x3) fun i H3 z H4 hi x3 y => ?_
  obtain ⟨T, u, t, rfl, n, rfl, e1, e2⟩ := y
  cases e1
  obtain ⟨d2, g2, k2⟩ := hv i t e2
  refine ⟨fun c o h => by rw [upd_ne (ne_of_none h n)]; exact h, _, enumD_get g2, fun O' g => ?_⟩
  have nT : T ∉ O' ++ F.S0 := fun m => by
    rcases List.mem_append.mp m with m | m
    · obtain ⟨_, o, ho⟩ := g T m
      rw [n] at ho; cases ho
    · exact f1.fresh (x3.2 T n) (List.mem_append_right _ m)
  exact .tup (.inl ⟨nT, .inl upd_same⟩) (.cons (.int _) (.cons ((rp_later k2 x3 fun a m => (g a m).1).ext (.new n)) .nil))
theorem ei_enumT {kk : Nat} {tpos : Pos} {elts : List Expr} (B : Bf F.X.mg) (ha : Ed F ρ s a (.tup xs) s1) (hg : Gl F.X "enumerate" := by rfl) (he : starEach [a] F.X.env = [(false, eval a F.X.env)] := by rfl) :
    Ei F ρ s (.Tuple elts kk tpos) (.Call (.Name "enumerate" p) [a] [] pos) (enumD xs) s1 := by
  refine ⟨ha.1, fun O σ H f R q => wi (Es.pi_en hg B.enum (pa_cons pe_we pa_nil (by rw [he]; rfl)) he) (ha.2 O σ H f _ fun v H1 f1 x1 r1 => ?_)⟩
  obtain ⟨t, c, vs, rfl, rv, h1, h2⟩ := rp_sq r1 (.inr rfl)
  cases r1 with
  | tup g1 g2 =>
    refine .inl ⟨_, _, rfl, g1.sq, q _ _ f1 x1 (ei_pairs (f1 := f1) Es.walkT g2.length (fun H2 x2 => ?_) fun i v hv => g2.getV hv)⟩
    rcases g1 with ⟨m, g1⟩ | g1
    · exact .inl (rd_ext x2 m g1)
    · rcases g1 with g1 | g1
      · exact (rd_none g1).elim
      · exact .inr g1
theorem ei_enumS {kk : Nat} {tpos : Pos} {elts : List Expr} {z : Str} (B : Bf F.X.mg) (ha : Ed F ρ s a (.str z) s1) (hg : Gl F.X "enumerate" := by rfl) (he : starEach [a] F.X.env = [(false, eval a F.X.env)] := by rfl) :
    Ei F ρ s (.Tuple elts kk tpos) (.Call (.Name "enumerate" p) [a] [] pos) (enumD (sgns z)) s1 := by
  refine ⟨ha.1, fun O σ H f R q => wi (Es.pi_en hg B.enum (pa_cons pe_we pa_nil (by rw [he]; rfl)) he) (ha.2 O σ H f _ fun v H1 f1 x1 r1 => ?_)⟩
  cases r1
  refine .inr ⟨z, rfl, fun t => q _ _ f1 x1 (ei_pairs (f1 := f1) Es.walkS (by rw [sgns_length]) (fun _ _ => trivial) fun i v hv => ?_)⟩
  rw [List.getElem?_map] at hv
  cases e : z.cps.toList[i]? with
  | none => rw [e] at hv; cases hv
  | some c => rw [e] at hv; cases hv; exact ⟨.str ⟨#[c]⟩, by simp only [sgns, List.getElem?_map, e]; rfl, .str _⟩
/-- enumerate of a list or a tuple -/
theorem ei_enumA {kk : Nat} {tpos : Pos} {elts : List Expr} (B : Bf F.X.mg) (ha : Ed F ρ s a x s1) (hx : x = .lst xs ∨ x = .tup xs) (hg : Gl F.X "enumerate" := by rfl) (he : starEach [a] F.X.env = [(false, eval a F.X.env)] := by rfl) :
    Ei F ρ s (.Tuple elts kk tpos) (.Call (.Name "enumerate" p) [a] [] pos) (enumD xs) s1 := by
  rcases hx with rfl | rfl
  · exact ei_enum B ha hg he
  · exact ei_enumT B ha hg he
theorem cp_inSign {c : Nat} {z : Str} (ha : Ed F ρ s a (.str ⟨#[c]⟩) s1) (hb : Ed F ρ s1 b (.str z) s2) (hm : behindInMarks .In b = false := by rfl) : Cp F ρ s .In a b (decide (c ∈ z.cps.toList)) s2 :=
  cp_of op_in_sign ha hb (fun O σ H f v w r1 r2 Q q => by cases r1; cases r2; exact ⟨c, z, rfl, rfl, q _ _ f .refl (.bl _)⟩) hm
theorem cp_isB {k l : Bool} (ha : Ed F ρ s a (.bl k) s1) (hb : Ed F ρ s1 b (.bl l) s2) : Cp F ρ s .Is a b (decide (k = l)) s2 :=
  cp_of op_is_bl ha hb (fun O σ H f v w r1 r2 Q q => by cases r1; cases r2; exact ⟨k, l, rfl, rfl, q _ _ f .refl (.bl _)⟩) (nomark _)
/-! max, min of a list of ints -/
theorem ed_maxL {ns : List Int} {m : Int} (B : Bf F.X.mg) (hc : F.X.calm = true) (ha : Ed F ρ s a (.lst (ns.map D.int)) s1) (hm : m ∈ ns) (hx : ∀ y ∈ ns, y ≤ m) (hg : Gl F.X "max" := by rfl) (he : starEach [a] F.X.env = (false, eval a F.X.env) :: starEach [] F.X.env := by rfl) : Ed F ρ s (.Call (.Name "max" p) [a] [] pos) (.int m) s1 :=
  ed_callB (cr_max hc) B.max boot_max' (ea_cons ha ea_nil he) (fun O σ H f vs r Q q => by
    cases r with
    | cons r1 r2 =>
      cases r2
      cases r1 with
      | lst m1 h1 h2 =>
        have e := h2.ints
        subst e
        refine ⟨_, ns, rfl, .inl (.inl h1), List.length_pos_of_mem hm, fun m' g1 g2 => ?_⟩
        have e : m' = m := Int.le_antisymm (hx m' g1) (g2 m hm)
        subst e
        exact q _ _ f .refl (.int _)) hg (by decide) (by decide) he rfl
theorem ed_minL {ns : List Int} {m : Int} (B : Bf F.X.mg) (hc : F.X.calm = true) (ha : Ed F ρ s a (.lst (ns.map D.int)) s1) (hm : m ∈ ns) (hx : ∀ y ∈ ns, m ≤ y) (hg : Gl F.X "min" := by rfl) (he : starEach [a] F.X.env = (false, eval a F.X.env) :: starEach [] F.X.env := by rfl) : Ed F ρ s (.Call (.Name "min" p) [a] [] pos) (.int m) s1 :=
  ed_callB (cr_min hc) B.min boot_min' (ea_cons ha ea_nil he) (fun O σ H f vs r Q q => by
    cases r with
    | cons r1 r2 =>
      cases r2
      cases r1 with
      | lst m1 h1 h2 =>
        have e := h2.ints
        subst e
        refine ⟨_, ns, rfl, .inl (.inl h1), List.length_pos_of_mem hm, fun m' g1 g2 => ?_⟩
        have e : m' = m := Int.le_antisymm (g2 m hm) (hx m' g1)
        subst e
        exact q _ _ f .refl (.int _)) hg (by decide) (by decide) he rfl
/-- x += e, ints -/
theorem bs_aug (i : Nat) {x : Str} {pos' : Pos} {n m : Int} (hN : F.X.N.Nodup) (hi : F.X.N[i]? = some x) (hx : Loc F.X.env.scope x) (hρ : ρ[i]? = some (.val (.int n))) (h : Ed F ρ s e (.int m) s1) (hk : k.nx (ρ.set i (.val (.int (n + m)))) s1) (hf : F.X.fn x = true ∨ F.X.env.scope.names.lookup x = some .local := by first | exact .inl rfl | exact .inr rfl | assumption) : Bs F (.AugAssign (.Name x pos') .Add e pos) ρ s k :=
  fun O σ H f E q => ws (ps_aug hN hi hx pe_we ip_add (hf := hf)) (by
    obtain ⟨o, ho, v, eo, r⟩ := f.slot i _ hρ
    subst eo
    cases r
    refine ⟨_, ho, h.2 O σ H f _ fun w H1 f1 x1 r1 => ?_⟩
    cases r1
    exact ⟨n, m, rfl, rfl, q.nx O _ H1 _ s1 (f1.set (.int _)) (.of x1.xt) hk⟩)
/-! targets that turn owned lists -/
def Egm (F : Fx) (tg : Expr) (d : D) (ρ ρ' : List G) (s : Sx) : Prop := ∀ O σ H v, Fm F O σ H ρ s → Rp F.X.K F.p (O ++ F.S0) H v d → ∀ Q : L2.St → Hp → Prop,
  (∀ σ' H', Fm F O σ' H' ρ' s → XT (O ++ F.S0) H H' → Q σ' H') → WG F.X tg v σ H Q
def Egms (F : Fx) (ts : List Expr) (ds : List D) (ρ ρ' : List G) (s : Sx) : Prop := ∀ O σ H vs, Fm F O σ H ρ s → Rps F.X.K F.p (O ++ F.S0) H vs ds → ∀ Q : L2.St → Hp → Prop,
  (∀ σ' H', Fm F O σ' H' ρ' s → XT (O ++ F.S0) H H' → Q σ' H') → WGs F.X ts vs σ H Q
theorem Eg.m {ρ' : List G} {js : List Nat} (h : Eg F tg d ρ ρ' js) : Egm F tg d ρ ρ' s := fun O σ H v f r Q q => h O σ H v s f r Q fun σ' f' _ _ => q σ' H f' .refl
theorem egm_name (i : Nat) {x : Str} (hN : F.X.N.Nodup) (hi : F.X.N[i]? = some x) (hx : Loc F.X.env.scope x) (hf : F.X.fn x = true ∨ F.X.env.scope.names.lookup x = some .local := by first | exact .inl rfl | exact .inr rfl | assumption) : Egm F (.Name x pos) d ρ (ρ.set i (.val d)) s := (eg_name i hN hi hx hf).m
theorem egm_sub (i : Nat) {x : Str} {px ps : Pos} {ix : Expr} {n : Int} {j : Nat} (hN : F.X.N[i]? = some x) (hv : Vis F.X.env.scope x) (hρ : ρ[i]? = some (.own xs)) (hi : Ed F ρ s ix (.int n) s) (hj : ixN xs.length n = some j)
    (hd : (x == ("__debug__" : Str)) = false := by decide) (hcd : (x == ("__classdict__" : Str)) = false := by decide)
    (ha : ∀ v, assign (.Subscript (.Name x px) ix ps) F.X.env v = (do
      let ov ← holding [v] (eval (.Name x px) F.X.env)
      let iv ← holding [v, ov] (eval ix F.X.env)
      standAt ps
      holding [v, ov, iv] (setItem ov iv v)
      release [v, ov, iv] []) := by intro _; rfl) : Egm F (.Subscript (.Name x px) ix ps) d ρ (ρ.set i (.own (xs.set j d))) s :=
  fun O σ H v f r Q q => wg_setOwn i f hN hv hρ hi hj r (fun H' f' x' => q σ H' f' x') hd hcd ha
theorem egms_nil : Egms F [] [] ρ ρ s := fun O σ H vs f r Q q => by
  cases r
  exact wgs pgs_nil ⟨rfl, q σ H f .refl⟩
theorem egms_cons {t : Expr} {ts : List Expr} {ρ1 ρ2 : List G} (h1 : Egm F t d ρ ρ1 s) (h2 : Egms F ts ds ρ1 ρ2 s) (hs : (assignEach (t :: ts) F.X.env).map (·.2) = assign t F.X.env :: (assignEach ts F.X.env).map (·.2) := by rfl) : Egms F (t :: ts) (d :: ds) ρ ρ2 s := fun O σ H vs f r Q q => by
  cases r with
  | cons r1 r2 => exact wgs (pgs_cons pg_wg pgs_wgs hs) ⟨_, _, rfl, h1 O σ H _ f r1 _ fun σ1 H1 f1 x1 => h2 O σ1 H1 _ f1 (r2.ext x1) _ fun σ2 H2 f2 x2 => q σ2 H2 f2 (x1.trans x2)⟩
theorem egm_tup {ts : List Expr} {kk : Nat} {ρ' : List G} (hc : F.X.calm = true) (h : Egms F ts ds ρ ρ' s) (hn : (assignEach ts F.X.env).length = ds.length := by rfl) (hst : (assignEach ts F.X.env).findIdx? (·.1) = none := by rfl) : Egm F (.Tuple ts kk pos) (.tup ds) ρ ρ' s := fun O σ H v f r Q q => by
  cases r with
  | tup h1 h2 => exact wg (pg_tup hc pgs_wgs hn hst) ⟨_, _, rfl, h1.sq, h2.length, h O σ H _ f h2 Q q⟩
theorem bs_asgM {ρ' : List G} (h : Ed F ρ s e d s1) (hg : Egm F tg d ρ ρ' s1) (hk : k.nx ρ' s1) (hs : swapsWithSole [tg] e pos.line F.X.env = pure false := by rfl) (hw : swappedStores [tg] e F.X.env = pure none := by rfl)
    (h1 : (assignEach [tg] F.X.env).map (·.2) = [assign tg F.X.env] := by rfl) : Bs F (.Assign [tg] e pos) ρ s k :=
  fun O σ H f E q => ws (ps_asg pe_we pg_wg hs hw h1) (h.2 O σ H f _ fun v H1 f1 x1 r1 => hg O σ H1 v f1 r1 _ fun σ' H' f' x' => q.nx O σ' H' ρ' s1 f' (.of (x1.xt.trans x')) hk)
/-- list(range(n)), list(range(i, j)) -/
def rgD (a b : Int) : List D := (List.range (b - a).toNat).map fun i => D.int (a + (i : Nat))
theorem rps_rg {K : PySem.W.Frag} {q : Addr} {S : List Addr} {H : Hp} (a : Int) : ∀ l : List Nat, Rps K q S H (l.map fun i => V.int (a + (i : Nat))) (l.map fun i => D.int (a + (i : Nat)))
  | [] => .nil
  | i :: l => .cons (.int _) (rps_rg a l)
theorem el_listRg1 {p2 pos2 : Pos} {n : Int} (B : Bf F.X.mg) (hc : F.X.calm = true) (ha : Ed F ρ s a (.int n) s1) (h : RgOk 0 n) (hg : Gl F.X "list" := by rfl) (hg2 : Gl F.X "range" := by rfl) (na : starEach [a] F.X.env = (false, eval a F.X.env) :: starEach [] F.X.env := by rfl)
    (nb : starEach [.Call (.Name "range" p2) [a] [] pos2] F.X.env = (false, eval (.Call (.Name "range" p2) [a] [] pos2) F.X.env) :: starEach [] F.X.env := by rfl) : El F ρ s (.Call (.Name "list" p) [.Call (.Name "range" p2) [a] [] pos2] [] pos) (rgD 0 n) s1 :=
  ⟨ha.1, fun O σ H f Q q => we (pe_listRg hc hg B.list (prg_1 hg2 B.range pe_we na) nb) (ha.2 O σ H f _ fun v H1 f1 x1 r1 => by
    cases r1
    exact ⟨n, rfl, h, fun c nc => q c _ _ (f1.newO nc) (x1.trans (.new nc)) (x1.2 c nc) upd_same (rps_rg 0 _)⟩)⟩
end
/-! len(set(xs)), ints -/
def setLen (ns : List Int) : Nat := (firstMet (fun i => ns.getD i 0) ns.length).length
def tLenSet (K : PySem.W.Frag) (ta : TE) : TE := fun σ H Q => ta σ H fun x H1 => ∃ (l : Addr) (ns : List Int), x = .ref l ∧ SqL K H1 l (ns.map V.int) ∧ ns.length ≤ 4000 ∧ Q (.int (setLen ns : Nat)) H1
theorem pe_lenSet {X : Cx} {a : Expr} {ta : TE} {p p2 q pos : Pos} (hg : Gl X "len") (hm : X.mg "len" = none) (hg2 : Gl X "set") (hm2 : X.mg "set" = none) (ha : PE X a ta) (hc : X.calm = true := by rfl)
    (na : starEach [a] X.env = (false, eval a X.env) :: starEach [] X.env := by rfl) (nb : starEach [.Call (.Name "set" p2) [a] [] q] X.env = (false, eval (.Call (.Name "set" p2) [a] [] q) X.env) :: starEach [] X.env := by rfl) : PE X (.Call (.Name "len" p) [.Call (.Name "set" p2) [a] [] q] [] pos) (tLenSet X.K ta) := by
  refine ⟨fun pins s σ H Q I h => ?_⟩
  refine Call_ (ld_blt I hg hm boot_len ?_)
  refine PyProof.Rows.callWith_builtin1 (PyProof.Rows.args_cons ?_ nb) nb rfl
  refine Call_ (ld_blt I hg2 hm2 boot_set ?_)
  refine PyProof.Rows.callWith_type1 (PyProof.Rows.args_cons (thn (ha.run pins s σ H _ I h) fun v s1 ⟨x, H1, I1, r1, q1⟩ => PyProof.Rows.args_nil ?_) na) na rfl
  obtain ⟨l, ns, rfl, hq, hl, q1⟩ := q1
  cases r1
  obtain ⟨its, r, pl, hz⟩ := I1.list hq
  have hlen : its.toArray.size = ns.length := by rw [List.size_toArray, ← r.length, List.length_map]
  refine call_set_list (I1.ok.hd hc) pl.isList (by simpa using RZ.intsAre_vals r) (by rw [hlen]; unfold scanBound; omega) fun h' tk hS hk => ?_
  refine PyProof.Rows.args_nil ?_
  rw [hlen] at hS
  have hle := firstMet_length_le (fun i => ns.getD i 0) ns.length
  obtain ⟨o, es, ep, t, ho, hex, hd, _, _, _, hf, hn⟩ := hS
  have I2 : Inv X pins σ H1 { s1 with heap := h', toks := tk } := I1.kept fun b o e => hk b o (Heap.lt_size e) e
  exact call_len_set ho hex hd hf (by rw [hn] <;> omega) ⟨.int (setLen ns : Nat), H1, I2.tok _, ⟨_, by rw [hn]; rfl⟩, q1⟩
section
variable {F : Fx} {ρ : List G} {s s1 : Sx} {a : Expr} {p p2 pos pos2 : Pos}
theorem ed_lenSet {ns : List Int} (B : Bf F.X.mg) (hc : F.X.calm = true) (ha : Ed F ρ s a (.lst (ns.map D.int)) s1) (hl : ns.length ≤ 4000) (hg : Gl F.X "len" := by rfl) (hg2 : Gl F.X "set" := by rfl) (na : starEach [a] F.X.env = (false, eval a F.X.env) :: starEach [] F.X.env := by rfl)
    (nb : starEach [.Call (.Name "set" p2) [a] [] pos2] F.X.env = (false, eval (.Call (.Name "set" p2) [a] [] pos2) F.X.env) :: starEach [] F.X.env := by rfl) : Ed F ρ s (.Call (.Name "len" p) [.Call (.Name "set" p2) [a] [] pos2] [] pos) (.int (setLen ns : Nat)) s1 :=
  ⟨ha.1, fun O σ H f Q q => we (pe_lenSet hg B.len hg2 B.set pe_we hc na nb) (ha.2 O σ H f _ fun v H1 f1 x1 r1 => by
    cases r1 with
    | lst m1 h1 h2 =>
      have e := h2.ints
      subst e
      exact ⟨_, ns, rfl, .inl (.inl h1), hl, q _ _ f1 x1 (.int _)⟩)⟩
theorem setLen_one {ns : List Int} (h : setLen ns < 2) : ∀ x ∈ ns, ∀ y ∈ ns, x = y := by
  have key : ∀ n, n ≤ ns.length → ∀ j, j < n → ns.getD j 0 ∈ firstMet (fun i => ns.getD i 0) n := by
    intro n
    induction n with
    | zero => intro _ j hj; omega
    | succ n ih =>
      intro hn j hj
      rw [firstMet_succ]; unfold step_dedup
      rcases Nat.lt_or_ge j n with hj' | hj'
      · have := ih (by omega) j hj'
        split
        · exact this
        · exact List.mem_append_left _ this
      · have e : j = n := by omega
        subst e
        split
        · rename_i hb
          obtain ⟨y, hy, ey⟩ := List.any_eq_true.mp hb
          have ey2 : y = ns.getD j 0 := eq_of_beq ey
          rw [← ey2]; exact hy
        · simp
  have all : ∀ x ∈ ns, x ∈ firstMet (fun i => ns.getD i 0) ns.length := by
    intro x hx
    obtain ⟨j, hj, e⟩ := List.mem_iff_getElem.mp hx
    have := key ns.length (Nat.le_refl _) j hj
    rw [List.getD_eq_getElem?_getD, List.getElem?_eq_getElem hj] at this
    simpa [e] using this
  intro x hx y hy
  have h1 := all x hx
  have h2 := all y hy
  unfold setLen at h
  revert h h1 h2
  generalize firstMet (fun i => ns.getD i 0) ns.length = l
  intro h h1 h2
  match l, h with
  | [z], _ => rw [List.mem_singleton.mp h1, List.mem_singleton.mp h2]
  | [], _ => cases h1
end
end Gh
set_option Elab.async false
set_option linter.all false
set_option maxRecDepth 100000
set_option maxHeartbeats 4000000
namespace Gh
open PySem PySem.Spec PyProof.Rows L2
section
variable {F : Fx} {ρ : List G} {s s1 s2 s3 : Sx} {tg a b c e : Expr} {es : List Expr} {x y d : D} {xs ys ds zs items : List D} {pos p : Pos} {k : GE}
/-! list(zip(a, b)), both lists -/
theorem el_listZip {p2 pos2 : Pos} (B : Bf F.X.mg) (hc : F.X.calm = true) (ha : Ed F ρ s a (.lst xs) s1) (hb : Ed F ρ s1 b (.lst ys) s2) (hg : Gl F.X "zip" := by rfl) (hgl : Gl F.X "list" := by rfl)
    (he : starEach [a, b] F.X.env = (false, eval a F.X.env) :: starEach [b] F.X.env := by rfl) (he2 : starEach [b] F.X.env = (false, eval b F.X.env) :: starEach [] F.X.env := by rfl) (hpl : (backTo pos2 (starEach [b] F.X.env)).any (·.1) = false := by rfl)
    (na : starEach [.Call (.Name "zip" p2) [a, b] [] pos2] F.X.env = (false, eval (.Call (.Name "zip" p2) [a, b] [] pos2) F.X.env) :: starEach [] F.X.env := by rfl) : El F ρ s (.Call (.Name "list" p) [.Call (.Name "zip" p2) [a, b] [] pos2] [] pos) (zipD xs ys) s2 := by
  refine ⟨ha.1.trans hb.1, fun O σ H f Q q => we (Lz.pe_lz hc hg B.zip hgl B.list (pa_cons pe_we (pa_cons pe_we pa_nil he2) he) he hpl na) (ha.2 O σ H f _ fun v H1 f1 x1 r1 => hb.2 O σ H1 f1 _ fun w H2 f2 x2 r2 => ?_)⟩
  cases r1.ext x2.xt with
  | lst m1 h1 h2 =>
    cases r2 with
    | lst m3 h3 h4 =>
      refine ⟨_, _, _, _, rfl, .inl (.inl h1), .inl (.inl h3), fun S as H3 nS hl nd na kb gp hS => ?_⟩
      have kp : ∀ b o, H2 b = some o → H3 b = some o := fun b o hb => by
        rw [kb b (fun m => by rw [(na b m).1] at hb; cases hb) (fun z => by rw [z, nS] at hb; cases hb)]
        exact hb
      have xp : XP F.p s2 H2 H3 := ⟨fun a o h _ => kp a o h, fun a h => by
        cases e : H2 a with
        | none => rfl
        | some o => rw [kp a o e] at h; cases h⟩
      have st : StA F.p F.S0 H3 s2 := (f2.all kp).st
      have f3 : Fm F (S :: O) σ H3 ρ s2 := f2.addO xp rfl st nS hS
      have xe : XE F H2 H3 := ⟨fun a o _ h => kp a o h, xp.2⟩
      refine q S _ H3 f3 ((x1.trans x2).trans xe) (x1.2 S (x2.2 S nS)) hS ?_
      have xt3 : XT (S :: (O ++ F.S0)) H2 H3 := xt_all kp
      have e2 := h2.length
      have e4 := h4.length
      have key : ∀ (l : List Addr) (j : Nat), (∀ (i : Nat) (a : Addr), l[i]? = some a → as[j + i]? = some a) → l.length + j = min xs.length ys.length → Rps F.X.K F.p (S :: (O ++ F.S0)) H3 (l.map V.ref) ((zipD xs ys).drop j) := by
        intro l
        induction l with
        | nil =>
          intro j _ hj
          rw [List.drop_eq_nil_of_le (by simp [zipD]; simp at hj; omega)]
          exact .nil
        | cons a l ih =>
          intro j hi hj
          have ha := hi 0 a rfl
          rw [Nat.add_zero] at ha
          obtain ⟨x, y, g1, g2, g3⟩ := gp j a ha
          obtain ⟨dx, e1, r1⟩ := h2.getV g1
          obtain ⟨dy, e2, r2⟩ := h4.getV g2
          have ez : (zipD xs ys)[j]? = some (.tup [dx, dy]) := by simp [zipD, List.getElem?_zipWith, e1, e2]
          obtain ⟨hlt, ez2⟩ := List.getElem?_eq_some_iff.mp ez
          rw [List.drop_eq_getElem_cons hlt, ez2]
          have ma := List.mem_of_getElem? ha
          refine .cons (.tup (.inl ⟨fun m => ?_, .inl g3⟩) (.cons ((r1.fresh nS).ext xt3) (.cons ((r2.fresh nS).ext xt3) .nil))) (ih (j + 1) (fun i b h => ?_) (by simp only [List.length_cons] at hj; omega))
          · rcases List.mem_cons.mp m with m | m
            · exact (na a ma).2 m
            · exact f2.fresh (na a ma).1 m
          · rw [show j + 1 + i = j + (i + 1) by omega]
            exact hi (i + 1) b (by simpa using h)
      have := key as 0 (fun i a h => by rw [Nat.zero_add]; exact h) (by rw [hl, e2, e4, Nat.add_zero])
      simpa using this
/-! several names at once, new lists among them -/
inductive GV (K : PySem.W.Frag) (p : Addr) (S : List Addr) (H : Hp) : List V → List G → List Addr → Prop
  | nil : GV K p S H [] [] []
  | val {v : V} {d : D} {vs : List V} {gs : List G} {A : List Addr} : Rp K p S H v d → GV K p S H vs gs A → GV K p S H (v :: vs) (.val d :: gs) A
  | own {a : Addr} {ws : List V} {ds : List D} {vs : List V} {gs : List G} {A : List Addr} : H a = some (.lst ws) → Rps K p S H ws ds → a ∉ A → GV K p S H vs gs A → GV K p S H (.ref a :: vs) (.own ds :: gs) (a :: A)
theorem GV.to {K : PySem.W.Frag} {p : Addr} {S S' : List Addr} {H H' : Hp} {vs : List V} {gs : List G} {A : List Addr} (g : GV K p S H vs gs A) (hr : ∀ v d, Rp K p S H v d → Rp K p S' H' v d) (hrs : ∀ vs ds, Rps K p S H vs ds → Rps K p S' H' vs ds) (ha : ∀ a ∈ A, ∀ o, H a = some o → H' a = some o) : GV K p S' H' vs gs A := by
  induction g with
  | nil => exact .nil
  | val r g ih => exact .val (hr _ _ r) (ih ha)
  | own h r n g ih => exact .own (ha _ List.mem_cons_self _ h) (hrs _ _ r) n (ih fun a m => ha a (List.mem_cons_of_mem _ m))
theorem GV.length {K : PySem.W.Frag} {p : Addr} {S : List Addr} {H : Hp} {vs : List V} {gs : List G} {A : List Addr} (g : GV K p S H vs gs A) : vs.length = gs.length := by
  induction g with
  | nil => rfl
  | val r g ih => simp [ih]
  | own h r n g ih => simp [ih]
def Eag (F : Fx) (ρ : List G) (s : Sx) (es : List Expr) (gs : List G) (s' : Sx) : Prop :=
  s.isSome = s'.isSome ∧ ∀ O σ H, Fm F O σ H ρ s → ∀ Q : List V → Hp → Prop, (∀ A O' vs H', Fm F O' σ H' ρ s' → XE F H H' → (∀ a ∈ A, a ∈ O' ∧ H a = none) → (∀ a ∈ O', a ∈ O ∨ H a = none) → (∀ a ∈ O, a ∈ O') → GV F.X.K F.p (O' ++ F.S0) H' vs gs A → Q vs H') → WA F.X es σ H Q
theorem eag_nil : Eag F ρ s [] [] s := ⟨rfl, fun O σ H f Q q => wa pa_nil (q [] O [] H f .refl (fun _ m => absurd m (by simp)) (fun a m => .inl m) (fun a m => m) .nil)⟩
theorem eag_val {gs : List G} (ha : Ed F ρ s e d s1) (hr : Eag F ρ s1 es gs s2) (hs : starEach (e :: es) F.X.env = (false, eval e F.X.env) :: starEach es F.X.env := by rfl) : Eag F ρ s (e :: es) (.val d :: gs) s2 :=
  ⟨ha.1.trans hr.1, fun O σ H f Q q => wa (pa_cons pe_we pa_wa hs) (ha.2 O σ H f _ fun v H1 f1 x1 r1 => hr.2 O σ H1 f1 _ fun A O' vs H2 f2 x2 hA hO hO2 g => q A O' _ H2 f2 (x1.trans x2) (fun a m => ⟨(hA a m).1, x1.2 a (hA a m).2⟩) (fun a m => (hO a m).imp id fun z => x1.2 a z) hO2
    (.val ((r1.to (S' := O' ++ F.S0) fun b m => by
      rcases List.mem_append.mp m with m | m
      · exact (hO b m).imp (fun m => List.mem_append_left _ m) id
      · exact .inl (List.mem_append_right _ m)).ext x2.xt) g))⟩
theorem eag_own {gs : List G} (ha : El F ρ s e ds s1) (hr : Eag F ρ s1 es gs s2) (hs : starEach (e :: es) F.X.env = (false, eval e F.X.env) :: starEach es F.X.env := by rfl) : Eag F ρ s (e :: es) (.own ds :: gs) s2 :=
  ⟨ha.1.trans hr.1, fun O σ H f Q q => wa (pa_cons pe_we pa_wa hs) (ha.2 O σ H f _ fun a vs H1 f1 x1 n1 h1 r1 => hr.2 (a :: O) σ H1 f1 _ fun A O' ws H2 f2 x2 hA hO hO2 g => by
    have na : ¬ (F.act = true ∧ a = F.p ∧ a ∈ F.S0) := fun z => (f1.fre a List.mem_cons_self).2 z.2.2
    have nA : a ∉ A := fun m => by
      have := (hA a m).2
      rw [h1] at this; cases this
    refine q (a :: A) O' _ H2 f2 (x1.trans x2) (fun b m => ?_) (fun b m => ?_) (fun b m => hO2 b (List.mem_cons_of_mem _ m)) (.own (x2.1 _ _ na h1) ((r1.to (S' := O' ++ F.S0) fun b m => ?_).ext x2.xt) nA g)
    · rcases List.mem_cons.mp m with rfl | m
      · exact ⟨hO2 _ List.mem_cons_self, n1⟩
      · exact ⟨(hA b m).1, x1.2 b (hA b m).2⟩
    · rcases hO b m with z | z
      · rcases List.mem_cons.mp z with rfl | z
        · exact .inr n1
        · exact .inl z
      · exact .inr (x1.2 b z)
    · rcases List.mem_append.mp m with m | m
      · exact (hO b m).imp (fun m => List.mem_append_left _ m) id
      · exact .inl (List.mem_cons_of_mem _ (List.mem_append_right _ m)))⟩
def setG : List G → List Nat → List G → List G
  | ρ, i :: is, g :: gs => setG (ρ.set i g) is gs
  | ρ, _, _ => ρ
/-- names, by their slots -/
inductive Nms (F : Fx) : List Expr → List Nat → Prop
  | nil : Nms F [] []
  | cons {x : Str} {pos : Pos} {i : Nat} {ts : List Expr} {is : List Nat} : F.X.N[i]? = some x → Loc F.X.env.scope x → (F.X.fn x = true ∨ F.X.env.scope.names.lookup x = some .local) → (assignEach (.Name x pos :: ts) F.X.env).map (·.2) = assign (.Name x pos) F.X.env :: (assignEach ts F.X.env).map (·.2) → Nms F ts is → Nms F (.Name x pos :: ts) (i :: is)
theorem nms_nil : Nms F [] [] := .nil
theorem nms_cons {x : Str} {pos : Pos} {i : Nat} {ts : List Expr} {is : List Nat} (h1 : F.X.N[i]? = some x) (h2 : Loc F.X.env.scope x) (r : Nms F ts is) (h3 : F.X.fn x = true ∨ F.X.env.scope.names.lookup x = some .local := by first | exact .inl rfl | exact .inr rfl | assumption) (h4 : (assignEach (.Name x pos :: ts) F.X.env).map (·.2) = assign (.Name x pos) F.X.env :: (assignEach ts F.X.env).map (·.2) := by rfl) : Nms F (.Name x pos :: ts) (i :: is) := .cons h1 h2 h3 h4 r
theorem store_gv {O : List Addr} {H : Hp} (hN : F.X.N.Nodup) {ts : List Expr} {is : List Nat} (nm : Nms F ts is) : ∀ {vs : List V} {gs : List G} {A : List Addr} {σ : L2.St} {ρ : List G} {Q : L2.St → Hp → Prop}, is.length = gs.length → Fm F O σ H ρ s → GV F.X.K F.p (O ++ F.S0) H vs gs A → (∀ a ∈ A, a ∈ O) →
    (∀ (j : Nat) (es : List D) (a : Addr), ρ[j]? = some (.own es) → a ∈ A → σ[j]? ≠ some (some (.ref a))) → (∀ σ', Fm F O σ' H (setG ρ is gs) s → Q σ' H) → WGs F.X ts vs σ H Q := by
  induction nm with
  | nil =>
    intro vs gs A σ ρ Q hl f g hA hn q
    cases g with
    | nil => exact wgs pgs_nil ⟨rfl, q σ f⟩
    | val => cases hl
    | own => cases hl
  | @cons x pos i ts is h1 h2 h3 h4 r ih =>
    intro vs gs A σ ρ Q hl f g hA hn q
    cases g with
    | nil => cases hl
    | val rv g =>
      refine wgs (pgs_cons (pg_name hN h1 h2 h3) pgs_wgs h4) ⟨_, _, rfl, ih (Nat.succ.inj hl) (f.set rv) g hA (fun j es a hg m z => ?_) q⟩
      by_cases e : i = j
      · subst e
        by_cases hl : i < ρ.length
        · rw [List.getElem?_set_self hl] at hg; cases hg
        · rw [List.getElem?_eq_none (by simpa using hl)] at hg; cases hg
      · rw [List.getElem?_set_ne e] at hg z
        exact hn j es a hg m z
    | @own a ws ds vs gs A h0 rs na g =>
      refine wgs (pgs_cons (pg_name hN h1 h2 h3) pgs_wgs h4) ⟨_, _, rfl, ih (Nat.succ.inj hl) (f.setOwn (hA a List.mem_cons_self) (fun j es hg z => hn j es a hg List.mem_cons_self z) h0 rs) g (fun b m => hA b (List.mem_cons_of_mem _ m)) (fun j es b hg m z => ?_) q⟩
      by_cases e : i = j
      · subst e
        by_cases hl : i < σ.length
        · rw [List.getElem?_set_self hl] at z; cases z; exact na m
        · rw [List.getElem?_eq_none (by simpa using hl)] at z; cases z
      · rw [List.getElem?_set_ne e] at hg z
        exact hn j es b hg (List.mem_cons_of_mem _ m) z
/-- a, b, c, d, .. = e1, e2, e3, e4, .. -/
theorem bs_unpack {ts : List Expr} {is : List Nat} {gs : List G} {kt k2} {pt pt2 : Pos} (hc : F.X.calm = true) (hN : F.X.N.Nodup) (nm : Nms F ts is) (h : Eag F ρ s es gs s1) (hl : is.length = gs.length) (hk : k.nx (setG ρ is gs) s1)
    (hn : (assignEach ts F.X.env).length = gs.length := by rfl) (hst : (assignEach ts F.X.env).findIdx? (·.1) = none := by rfl) (hz : gs.length ≤ sizeLine := by exact Nat.le_of_ble_eq_true rfl)
    (hs : swapsWithSole [.Tuple ts kt pt] (.Tuple es k2 pt2) pos.line F.X.env = pure false := by rfl) (hw : swappedStores [.Tuple ts kt pt] (.Tuple es k2 pt2) F.X.env = pure none := by rfl)
    (h1 : (assignEach [.Tuple ts kt pt] F.X.env).map (·.2) = [assign (.Tuple ts kt pt) F.X.env] := by rfl) : Bs F (.Assign [.Tuple ts kt pt] (.Tuple es k2 pt2) pos) ρ s k :=
  fun O σ H f E q => ws (ps_asg (pe_tup pa_wa) (pg_tup hc pgs_wgs hn hst) hs hw h1) (h.2 O σ H f _ fun A O' vs H1 f1 x1 hA hO hO2 g => by
    refine ⟨by rw [g.length]; exact hz, fun t n => ⟨_, _, rfl, .inl (.inl upd_same), g.length, ?_⟩⟩
    have f2 := f1.new (o := .tup vs) n
    have xn : XT (O' ++ F.S0) H1 (upd H1 t (.tup vs)) := .new n
    refine store_gv hN nm hl f2 (g.to (fun v d r => r.ext xn) (fun v d r => r.ext xn) (fun a m o e => by rw [upd_ne (ne_of_none e n)]; exact e)) (fun a m => (hA a m).1) (fun j es a hg m z => ?_) fun σ' f' => q.nx O' σ' _ _ s1 f' ⟨(x1.trans (.new n)).xt, fun a m => hO a m⟩ hk
    exact f.notOwn (hA a m).2 j es hg z)
def setV : L2.St → List Nat → List V → L2.St
  | σ, i :: is, v :: vs => setV (σ.set i (some v)) is vs
  | σ, _, _ => σ
theorem fm_gv {O : List Addr} {H : Hp} : ∀ {is : List Nat} {vs : List V} {gs : List G} {A : List Addr} {σ : L2.St} {ρ : List G}, is.length = gs.length → Fm F O σ H ρ s → GV F.X.K F.p (O ++ F.S0) H vs gs A → (∀ a ∈ A, a ∈ O) →
    (∀ (j : Nat) (es : List D) (a : Addr), ρ[j]? = some (.own es) → a ∈ A → σ[j]? ≠ some (some (.ref a))) → Fm F O (setV σ is vs) H (setG ρ is gs) s
  | [], _, _, _, _, _, hl, f, g, _, _ => by
    cases g with
    | nil => exact f
    | val => cases hl
    | own => cases hl
  | i :: is, _, _, _, σ, ρ, hl, f, g, hA, hn => by
    cases g with
    | nil => cases hl
    | val rv g =>
      refine fm_gv (is := is) (σ := σ.set i (some _)) (ρ := ρ.set i (.val _)) (Nat.succ.inj hl) (f.set rv) g hA fun j es a hg m z => ?_
      by_cases e : i = j
      · subst e
        by_cases hl : i < ρ.length
        · rw [List.getElem?_set_self hl] at hg; cases hg
        · rw [List.getElem?_eq_none (by simpa using hl)] at hg; cases hg
      · rw [List.getElem?_set_ne e] at hg z
        exact hn j es a hg m z
    | @own a ws ds vs gs A h0 rs na g =>
      refine fm_gv (is := is) (σ := σ.set i (some (.ref a))) (ρ := ρ.set i (.own ds)) (Nat.succ.inj hl) (f.setOwn (hA a List.mem_cons_self) (fun j es hg z => hn j es a hg List.mem_cons_self z) h0 rs) g (fun b m => hA b (List.mem_cons_of_mem _ m)) fun j es b hg m z => ?_
      by_cases e : i = j
      · subst e
        by_cases hl : i < σ.length
        · rw [List.getElem?_set_self hl] at z; cases z; exact na m
        · rw [List.getElem?_eq_none (by simpa using hl)] at z; cases z
      · rw [List.getElem?_set_ne e] at hg z
        exact hn j es b hg (List.mem_cons_of_mem _ m) z
/-- a, b, c = e1, e2, e3, new lists among them -/
theorem bs_par3G (i j l : Nat) {x y z : Str} {px py pz pt : Pos} {kt k2} {pt2 : Pos} {g1 g2 g3 : G} (hc : F.X.calm = true) (hN : F.X.N.Nodup) (hi : F.X.N[i]? = some x) (hj : F.X.N[j]? = some y) (hl : F.X.N[l]? = some z) (hij : i ≠ j) (hil : i ≠ l) (hjl : j ≠ l) (hx : F.X.env.scope.names.lookup x = some .local) (hy : F.X.env.scope.names.lookup y = some .local) (hz : F.X.env.scope.names.lookup z = some .local)
    (ha : Eag F ρ s [a, b, c] [g1, g2, g3] s1) (hk : k.nx (((ρ.set i g1).set j g2).set l g3) s1) (hw : swappedStores [.Tuple [.Name x px, .Name y py, .Name z pz] kt pt] (.Tuple [a, b, c] k2 pt2) F.X.env = pure (some [x, y, z]) := by rfl) (hs : swapsWithSole [.Tuple [.Name x px, .Name y py, .Name z pz] kt pt] (.Tuple [a, b, c] k2 pt2) pos.line F.X.env = pure false := by rfl) :
    Bs F (.Assign [.Tuple [.Name x px, .Name y py, .Name z pz] kt pt] (.Tuple [a, b, c] k2 pt2) pos) ρ s k :=
  fun O σ H f E q => ws (ps_par3 hc hN hi hj hl hij hil hjl hx hy hz pa_wa hw hs) (ha.2 O σ H f _ fun A O' vs H1 f1 x1 hA hO hO2 g => by
    have f2 := fm_gv (is := [i, j, l]) rfl f1 g (fun a m => (hA a m).1) fun j es a hg m z => f.notOwn (hA a m).2 j es hg z
    have e := g.length
    match vs, e, f2 with
    | [v1, v2, v3], _, f2 => exact ⟨_, _, _, rfl, q.nx O' _ H1 _ s1 f2 ⟨x1.xt, fun a m => hO a m⟩ hk⟩)
/-! e.append(c), e a new list that nobody holds -/
theorem Fm.loose {O : List Addr} {σ : L2.St} {H H2 : Hp} {a : Addr} {o : HO} (f : Fm F O σ H ρ s) (n : H a = none) (g : Fm F (a :: O) σ H2 ρ s2) : Fm F O σ (upd H2 a o) ρ s2 := by
  have g1 := f.drop g
  have nH0 : F.H0 a = none := f.ext.2 a n
  have np : ∀ b, (∃ o, H b = some o) → b ≠ a := fun b ⟨o, h⟩ z => by rw [z, n] at h; cases h
  have xt : XT (a :: O ++ F.S0) H2 (upd H2 a o) := ⟨fun b u m e => by
    rw [upd_ne (fun z => m (by rw [z]; exact List.mem_cons_self))]; exact e, fun b h => upd_none h⟩
  refine ⟨⟨fun b u h c => ?_, fun b h => g1.ext.2 b (upd_none h)⟩, fun i q hq => ?_, g1.own, g1.dis, g1.fre, fun b m => ?_, ?_, g1.kd⟩
  · rw [upd_ne (fun z => by rw [z, nH0] at h; cases h)]
    exact g1.ext.1 b u h c
  · obtain ⟨o', ho, k'⟩ := g.slot i q hq
    refine ⟨o', ho, ?_⟩
    cases q with
    | no => trivial
    | val d =>
      obtain ⟨v, e, r⟩ := k'
      exact ⟨v, e, (r.ext xt).weak fun b m => List.mem_cons_of_mem _ m⟩
    | own ds =>
      obtain ⟨b, ws, e, m, hb, r⟩ := k'
      subst e
      have mb := f.own i ds b hq ho
      refine ⟨b, ws, rfl, List.mem_append_left _ mb, ?_, (r.ext xt).weak fun b m => List.mem_cons_of_mem _ m⟩
      rw [upd_ne (np b (f.trk b (List.mem_append_left _ mb)))]; exact hb
  · obtain ⟨o', e⟩ := g1.trk b m
    exact ⟨o', by rw [upd_ne (np b (f.trk b m))]; exact e⟩
  · have q := g1.st
    cases s2 with
    | none => trivial
    | some ys => exact ⟨q.1, by rw [upd_ne (np _ (f.trk _ (List.mem_append_right _ q.1)))]; exact q.2⟩
theorem bs_appendNew {pa cpos : Pos} (h : El F ρ s e ds s1) (hcx : Ed F ρ s1 c d s2) (hl : ds.length < sizeLine) (hk : k.nx ρ s2) (he : starEach [c] F.X.env = (false, eval c F.X.env) :: starEach [] F.X.env := by rfl)
    (hb : attributeBase e "append" F.X.env (eval e F.X.env) = eval e F.X.env := by rfl) (hline : (pa.endLine == cpos.line) = true := by rfl) (hpl : (backTo cpos (starEach [] F.X.env)).any (·.1) = false := by rfl)
    (hfew : ((backTo cpos (starEach [c] F.X.env)).all (fun x => !x.1) && (backToKw cpos (keywordEach [] F.X.env)).all (fun x => x.1.isSome) && decide ([c].length + ([] : List Keyword).length + (if ([] : List Keyword).isEmpty then 0 else 1) < 30)) = true := by rfl)
    (hs : swapsWith (.Call (.Attribute e "append" pa) [c] [] cpos) none pos.line F.X.env = pure false := by rfl) : Bs F (.Expr (.Call (.Attribute e "append" pa) [c] [] cpos) pos) ρ s k :=
  fun O σ H f E q => ws (ps_expr (pe_bm PySem.F.plainAttrs_list PySem.F.slot_list_append PySem.F.type_list_append mt_append pe_we (pa_cons pe_we pa_nil he) hb hfew hline he hpl) hs) (h.2 O σ H f _ fun a vs H1 f1 x1 n1 h1 r1 => by
    have na : ¬ (F.act = true ∧ a = F.p ∧ a ∈ F.S0) := fun z => (f1.fre a List.mem_cons_self).2 z.2.2
    refine ⟨.inl ⟨rfl, _, .inl (.inl h1)⟩, hcx.2 (a :: O) σ H1 f1 _ fun w H2 f2 x2 r2 => ?_⟩
    refine ⟨a, vs, w, rfl, rfl, x2.1 _ _ na h1, by rw [r1.length]; exact hl, ?_⟩
    refine q.nx O σ _ ρ s2 (f.loose n1 f2) (.of ⟨fun b u m e => ?_, fun b z => x1.2 b (x2.2 b (upd_none z))⟩) hk
    rw [upd_ne (ne_of_none e n1)]
    exact (x1.trans x2).xt.1 b u m e)
end
end Gh
set_option Elab.async false
set_option linter.all false
set_option maxRecDepth 100000
set_option maxHeartbeats 4000000
namespace Gh
open PySem PySem.Spec PyProof.Rows L2
theorem RnL.rn {E : En} {k : Nat} {f : Str} {ds zs : List D} {s s' : Sx} (r : RnL E k f ds s zs s') : Rn E k f ds s (.lst zs) s' := by
  obtain ⟨kd, fa, fd, ps, h1, h2, h3, h4⟩ := r
  refine ⟨kd, fa, fd, ps, h1, h2, h3, h4.imp fun vs H Q EX h => ?_⟩
  obtain ⟨p, S, r, tr, t, q⟩ := h
  refine ⟨p, S, r, tr, t, fun a ws H' n h' rs x t' => q _ _ (.lst (fun m => ?_) h' (rs.weak fun b m => List.mem_cons_of_mem _ m)) x t'⟩
  obtain ⟨o, ho⟩ := tr a m
  rw [n] at ho; cases ho
section
variable {F : Fx} {ρ : List G} {s : Sx} {sts : List Stmt} {ds : List D} {pos p : Pos}
/-- return x, x owned -/
theorem bkl_retOwn (i : Nat) {x : Str} (hN : F.X.N[i]? = some x) (hv : Vis F.X.env.scope x) (hρ : ρ[i]? = some (.own ds)) (hd : (x == ("__debug__" : Str)) = false := by decide) (hcd : (x == ("__classdict__" : Str)) = false := by decide) : BkL F (.Return (some (.Name x p)) pos :: sts) ρ s ds s :=
  fun O σ H f E q => wb (pss_cons (ps_ret (pe_var hN hv hd hcd)) pss_wb) (by
    obtain ⟨o, ho, a, vs, eo, m, h1, r⟩ := f.slot i _ hρ
    subst eo
    have ma := f.own i ds a hρ ho
    refine ⟨_, ho, q a vs H (f.fre a ma).1 (f.fre a ma).2 h1 (r.weak fun b m => ?_) f.ext f.st⟩
    rcases List.mem_cons.mp m with rfl | m
    · exact List.mem_append_left _ ma
    · exact List.mem_append_right _ m)
end
end Gh
set_option Elab.async false
set_option linter.all false
set_option maxRecDepth 100000
set_option maxHeartbeats 4000000
namespace Gh
open PySem PySem.Spec PyProof.Rows L2
section
variable {F : Fx} {ρ : List G} {s s1 s2 s3 : Sx} {a b c e : Expr} {es rest : List Expr} {x y z d : D} {xs ys zs ds : List D} {pos p p2 : Pos} {tg : Expr}
/-- sorted(list of ints) -/
theorem el_sortedI {ns out : List Int} (B : Bf F.X.mg) (ha : Ed F ρ s a (.lst (ns.map D.int)) s1) (hp : out.Perm ns) (hs : out.Pairwise (· ≤ ·)) (hg : Gl F.X "sorted" := by rfl) (he : starEach [a] F.X.env = (false, eval a F.X.env) :: starEach [] F.X.env := by rfl) : El F ρ s (.Call (.Name "sorted" p) [a] [] pos) (out.map D.int) s1 :=
  ⟨ha.1, fun O σ H f Q q => we (pe_callB cr_sortedI hg B.sorted boot_sorted' (pa_cons pe_we pa_nil he) (by decide) (by decide) he rfl) (ha.2 O σ H f _ fun v H1 f1 x1 r1 => by
    cases r1 with
    | lst m1 h1 h2 =>
      have e := h2.ints
      subst e
      refine ⟨_, ns, rfl, .inl (.inl h1), fun ns' t hp' hs' n => ?_⟩
      have e2 : ns' = out := List.Perm.eq_of_pairwise (le := fun a b : Int => a ≤ b) (fun a b _ _ h1 h2 => Int.le_antisymm h1 h2) hs' hs (hp'.trans hp.symm)
      subst e2
      exact q t _ _ (f1.newO n) (x1.trans (.new n)) (x1.2 t n) upd_same (.ofInts _))⟩
/-- range(i, j, -1) -/
def rangeU (i : Int) (n : Nat) : List D := (List.range n).map fun k => D.int (i - (k : Nat))
theorem rangeU_length {i : Int} {n : Nat} : (rangeU i n).length = n := by simp [rangeU]
theorem rangeU_get {i : Int} {n k : Nat} (h : k < n) : (rangeU i n)[k]? = some (.int (i - (k : Nat))) := by
  unfold rangeU
  rw [List.getElem?_map, List.getElem?_range h]
  rfl
theorem ei_rangeU {i j : Int} (B : Bf F.X.mg) (ha : Ed F ρ s a (.int i) s1) (hb : Ed F ρ s1 b (.int j) s2) (hc : Ed F ρ s2 c (.int (-1)) s3) (h : -(2 ^ 62) ≤ i ∧ i < 2 ^ 62 ∧ -(2 ^ 62) ≤ j ∧ j < 2 ^ 62) (hg : Gl F.X "range" := by rfl)
    (he : starEach [a, b, c] F.X.env = (false, eval a F.X.env) :: starEach [b, c] F.X.env := by rfl) (he2 : starEach [b, c] F.X.env = (false, eval b F.X.env) :: starEach [c] F.X.env := by rfl) (he3 : starEach [c] F.X.env = (false, eval c F.X.env) :: starEach [] F.X.env := by rfl)
    (hpl : (backTo pos (starEach [b, c] F.X.env)).any (·.1) = false := by rfl) :
    Ei F ρ s tg (.Call (.Name "range" p) [a, b, c] [] pos) (rangeU i (i - j).toNat) s3 := by
  refine ⟨(ha.1.trans hb.1).trans hc.1, fun O σ H f R q => wi (pi_range3 hg B.range (pa_cons pe_we (pa_cons pe_we (pa_cons pe_we pa_nil he3) he2) he) he hpl) (ha.2 O σ H f _ fun v H1 f1 x1 r1 => hb.2 O σ H1 f1 _ fun w H2 f2 x2 r2 => hc.2 O σ H2 f2 _ fun u H3 f3 x3 r3 => ?_)⟩
  cases r1
  cases r2
  cases r3
  refine ⟨i, j, -1, _, rfl, RgC.neg h.1 h.2.1 h.2.2.1 h.2.2.2, q _ _ f3 ((x1.trans x2).trans x3) ?_⟩
  rw [rangeU_length]
  refine walk_rangeC.mono (fun _ _ => trivial) fun k H2 z H3 hi x2 y => ?_
  obtain ⟨e, rfl⟩ := y
  subst e
  exact ⟨fun _ _ h => h, _, (rangeU_get hi).trans (congrArg some (congrArg D.int (by omega))), fun _ _ => .int _⟩
/-- a op b op c, as a test -/
theorem et_chainII {op op' : CmpOp} {c : Expr} {i j l : Int} {g g' : Int → Int → Bool} (ho : OpR F.X (compareOp op) (rI0 fun i j => .bl (g i j))) (ho' : OpR F.X (compareOp op') (rI0 fun i j => .bl (g' i j))) (ha : Ed F ρ s a (.int i) s) (hb : Ed F ρ s b (.int j) s) (hc : Ed F ρ s c (.int l) s)
    (hm : lastMarks [op, op'] [b, c] = false := by with_unfolding_all rfl) : Et F ρ s (.Compare a [op, op'] [b, c] pos) (g i j && g' j l) s :=
  ⟨rfl, fun O σ H f Q q => wt (pt_chain ho ho' pe_we pe_we pe_we hm) (ha.2 O σ H f _ fun v H1 f1 x1 r1 => hb.2 O σ H1 f1 _ fun w H2 f2 x2 r2 => by
    cases r1; cases r2
    refine ⟨i, j, rfl, rfl, g i j, rfl, ?_⟩
    cases e : g i j with
    | true => exact iteT (hc.2 O σ H2 f2 _ fun u H3 f3 x3 r3 => by cases r3; exact ⟨j, l, rfl, rfl, _, rfl, by have := q H3 f3 ((x1.trans x2).trans x3); rw [e] at this; exact this⟩)
    | false => exact iteF ⟨_, rfl, by have := q H2 f2 (x1.trans x2); rw [e] at this; exact this⟩)⟩
/-- len of a text -/
theorem ed_lenS {z : Str} (B : Bf F.X.mg) (ha : Ed F ρ s a (.str z) s1) (hz : z.length ≤ sizeLine) (hg : Gl F.X "len" := by rfl) (he : starEach [a] F.X.env = (false, eval a F.X.env) :: starEach [] F.X.env := by rfl) : Ed F ρ s (.Call (.Name "len" p) [a] [] pos) (.int z.length) s1 :=
  ed_callB call_len_str B.len boot_len (ea_cons ha ea_nil he) (fun O σ H f vs r Q q => by
    cases r with
    | cons r1 r2 =>
      cases r2
      cases r1
      exact ⟨z, rfl, hz, q _ _ f .refl (.int _)⟩) hg (by decide) (by decide) he rfl
/-- a slice of a text -/
theorem ed_cutS {lo hi : Option Expr} {i j : Option Int} {z : Str} (ha : Ed F ρ s a (.str z) s1) (hl : Eo F ρ s1 lo i s2) (hh : Eo F ρ s2 hi j s3) (hz : z.length ≤ sizeLine) : Ed F ρ s (.Subscript a (.Slice lo hi none p2) pos) (.str (cutS z i j)) s3 := by
  cases hl with
  | none =>
    cases hh with
    | none => exact ⟨ha.1, fun O σ H f Q q => we (pe_slice sl_str pe_we po_none po_none) (ha.2 O σ H f _ fun v H1 f1 x1 r1 => by
        cases r1; exact ⟨_, rfl, hz, q _ _ f1 x1 (.str _)⟩)⟩
    | some hb => exact ⟨ha.1.trans hb.1, fun O σ H f Q q => we (pe_slice sl_str pe_we po_none (po_some pe_we)) (ha.2 O σ H f _ fun v H1 f1 x1 r1 => hb.2 O σ H1 f1 _ fun w H2 f2 x2 r2 => by
        cases r1; cases r2; exact ⟨_, rfl, _, rfl, hz, q _ _ f2 (x1.trans x2) (.str _)⟩)⟩
  | some hc =>
    cases hh with
    | none => exact ⟨ha.1.trans hc.1, fun O σ H f Q q => we (pe_slice sl_str pe_we (po_some pe_we) po_none) (ha.2 O σ H f _ fun v H1 f1 x1 r1 => hc.2 O σ H1 f1 _ fun w H2 f2 x2 r2 => by
        cases r1; cases r2; exact ⟨_, rfl, _, rfl, hz, q _ _ f2 (x1.trans x2) (.str _)⟩)⟩
    | some hb => exact ⟨(ha.1.trans hc.1).trans hb.1, fun O σ H f Q q => we (pe_slice sl_str pe_we (po_some pe_we) (po_some pe_we)) (ha.2 O σ H f _ fun v H1 f1 x1 r1 => hc.2 O σ H1 f1 _ fun w H2 f2 x2 r2 => by
        cases r1; cases r2
        exact ⟨_, rfl, hb.2 O σ H2 f2 _ fun w H3 f3 x3 r3 => by cases r3; exact ⟨_, rfl, _, rfl, hz, q _ _ f3 ((x1.trans x2).trans x3) (.str _)⟩⟩)⟩
end
end Gh
set_option Elab.async false
set_option linter.all false
set_option maxRecDepth 100000
set_option maxHeartbeats 4000000
namespace Gh
open PySem PySem.Spec PyProof.Rows L2
section
variable {F : Fx} {ρ : List G} {s s1 s2 s3 : Sx} {a b c e : Expr} {es rest : List Expr} {x y z d : D} {xs ys zs ds : List D} {pos p p2 : Pos} {tg : Expr}
/-- a, b = a list -/
theorem eg_lst {ts : List Expr} {kk : Nat} {ρ ρ' : List G} {js : List Nat} (hc : F.X.calm = true) (h : Egs F ts ds ρ ρ' js) (hn : (assignEach ts F.X.env).length = ds.length := by rfl) (hst : (assignEach ts F.X.env).findIdx? (·.1) = none := by rfl) : Eg F (.Tuple ts kk pos) (.lst ds) ρ ρ' js := fun O σ H v s f r Q q => by
  cases r with
  | lst m1 h1 h2 => exact wg (pg_unl hc pgs_wgs hn hst) ⟨_, _, rfl, .inl (.inl h1), h2.length, h O σ H _ s f h2 Q q⟩
/-- int(bool) -/
theorem ed_intB {k : Bool} (B : Bf F.X.mg) (ha : Ed F ρ s a (.bl k) s1) (hg : Gl F.X "int" := by rfl) (he : starEach [a] F.X.env = (false, eval a F.X.env) :: starEach [] F.X.env := by rfl) : Ed F ρ s (.Call (.Name "int" p) [a] [] pos) (.int (if k then 1 else 0)) s1 :=
  ed_callTy call_int1 B.int boot_int' (ea_cons ha ea_nil he) (fun O σ H f vs r Q q => by
    cases r with
    | cons r1 r2 => cases r2; cases r1; exact .inr ⟨k, rfl, q _ _ f .refl (.int _)⟩) hg (by decide) (by decide) he rfl
/-- list * int -/
theorem el_rep {k : Int} (ha : Ed F ρ s a (.lst xs) s1) (hb : Ed F ρ s1 b (.int k) s2) (hk : -(2 ^ 63) ≤ k ∧ k < 2 ^ 63) (hl : xs.length * k.toNat ≤ sizeLine) : El F ρ s (.BinOp a .Mult b pos) (List.replicate k.toNat xs).flatten s2 :=
  el_op op_rep ha hb fun O σ H f v w r1 r2 Q q => by
    cases r1 with
    | lst m1 h1 h2 =>
      cases r2
      exact ⟨_, k, _, rfl, rfl, h1, hk.1, hk.2, by rw [h2.length]; exact hl, fun t n => q t _ _ (f.newO n) (.new n) n upd_same (((rps_rep h2 _).fresh n).ext (.new n))⟩
end
end Gh
set_option Elab.async false
set_option linter.all false
set_option maxRecDepth 100000
set_option maxHeartbeats 4000000
/-! xs[::-1] of a list -/
namespace Gt
open PySem PySem.Spec PyProof.Rows HT L2
theorem pick_revL (its : List Value) : slicePick its.toArray none none (some (-1)) = its.reverse.toArray := by
  have h := pick_rev its
  unfold slicePick
  have e1 : sliceBounds none none (some (-1)) its.toArray.size = (((its.length : Nat) : Int) - 1, -1, -1) := by
    simp [sliceBounds]
  rw [e1]
  have e2 : sliceRange (((its.length : Nat) : Int) - 1) (-1) (-1) = (List.range its.toArray.size).map fun (k : Nat) => (((its.toArray.size : Int) - 1) + (k : Int) * (-1)).toNat := by
    unfold sliceRange
    have c : (if (-1 : Int) > 0 then (if (((its.length : Nat) : Int) - 1) < -1 then ((-1) - (((its.length : Nat) : Int) - 1) + (-1) - 1) / (-1) else 0) else (if (((its.length : Nat) : Int) - 1) > -1 then ((((its.length : Nat) : Int) - 1) - (-1) - (-1) - 1) / (-(-1)) else 0)).toNat = its.length := by
      rw [if_neg (by decide)]
      rw [show (-(-1) : Int) = 1 by decide, Int.ediv_one]
      split <;> omega
    simp only [c, List.size_toArray]
    refine List.map_congr_left fun k hk => ?_
    have := List.mem_range.mp hk
    omega
  simp only [e2]
  rw [List.filterMap_map]
  exact h
section
variable {X : Cx}
def tRevL (K : PySem.W.Frag) (te : TE) : TE := fun σ H Q => te σ H fun x H1 => ∃ a xs, x = .ref a ∧ SqL K H1 a xs ∧ ∀ p, H1 p = none → Q (.ref p) (upd H1 p (.lst xs.reverse))
theorem pe_revL {e : Expr} {te : TE} {k : Nat} {p1 p2 p3 pos : Pos} (he : PE X e te) : PE X (.Subscript e (.Slice none none (some (.UnaryOp .USub (.Constant (.int 1) k p1) p2)) p3) pos) (tRevL X.K te) := by
  refine ⟨fun pins s σ H Q I h => ?_⟩
  refine Subscript_ (thn (he.run pins s σ H _ I h) fun v s1 ⟨x, H1, I1, r1, q1⟩ => ?_)
  obtain ⟨a, xs, ex, hx, q⟩ := q1
  subst ex
  cases r1
  have hst : PO X (some (.UnaryOp .USub (.Constant (.int 1) k p1) p2)) (tPart (tUn (rU fun i => .int (-i)) (tC (.int 1)))) := po_some (pe_un un_neg pe_int)
  refine wpAny_Slice (thn (po_none.run pins s1 σ H1 (fun o H2 => o = none ∧ H2 = H1) I1 ⟨rfl, rfl⟩) fun vl s2 ⟨l, H2, I2, pl, el, e2⟩ => ?_)
  subst el e2
  refine thn (po_none.run pins s2 σ H2 (fun o H3 => o = none ∧ H3 = H2) I2 ⟨rfl, rfl⟩) fun vu s3 ⟨u, H3, I3, pu, eu, e3⟩ => ?_
  subst eu e3
  refine thn (hst.run pins s3 σ H3 (fun o H4 => o = some (-1) ∧ H4 = H3) I3 ⟨1, rfl, -1, rfl, rfl, rfl⟩) fun vs s4 ⟨o, H4, I4, ps, eo, e4⟩ => ?_
  subst eo e4
  have I5 : Inv X pins σ H4 { s4 with heap := s4.heap.push { cls := .type "slice", data := .fields #[vl, vu, vs] } } := I4.kept (t' := s4.toks) fun b ob q => Heap.get?_push_of_some _ q
  obtain ⟨its, r, ht, hz⟩ := I5.list hx
  have hlen := r.length
  show wpAny (model X.prog X.w) X.A (subscriptTail e (.Slice none none (some (.UnaryOp .USub (.Constant (.int 1) k p1) p2)) p3) (.ref a) (.ref s4.heap.objs.size)) (EP X pins σ Q) X.xe { s4 with heap := s4.heap.push { cls := .type "slice", data := .fields #[vl, vu, vs] } }
  refine tail_any (ops := [.ref a, .ref s4.heap.objs.size]) ht.isList.typeIs (slot_list_getitem.lookup) ?_ (by with_unfolding_all rfl)
  refine wpAny_getItem_list_slice ht.isList (Heap.IsSliceOf.new _ vl vu vs) pl pu ps (by decide) ?_ (by rw [List.size_toArray] <;> omega)
  rw [pick_revL]
  refine ⟨.ref _, _, I5.laid (t' := s4.toks) (o := .lst xs.reverse) (fun b ob q => Heap.get?_push_of_some _ q) (Nat.le_refl _) ?_, rfl, q _ (I5.hok.fresh (Nat.le_refl _))⟩
  exact ⟨by rw [List.length_reverse]; exact hz, _, 0, r.reverse, Heap.get?_push_size _ rfl⟩
end
end Gt
namespace Gh
open PySem PySem.Spec PyProof.Rows L2
section
variable {F : Fx} {ρ : List G} {s s1 : Sx} {a : Expr} {xs : List D} {pos p p1 p2 p3 : Pos}
theorem el_revL {k : Nat} (ha : Ed F ρ s a (.lst xs) s1) : El F ρ s (.Subscript a (.Slice none none (some (.UnaryOp .USub (.Constant (.int 1) k p1) p2)) p3) pos) xs.reverse s1 :=
  ⟨ha.1, fun O σ H f Q q => we (Gt.pe_revL pe_we) (ha.2 O σ H f _ fun v H1 f1 x1 r1 => by
    cases r1 with
    | lst m1 h1 h2 => exact ⟨_, _, rfl, .inl (.inl h1), fun t n => q t _ _ (f1.newO n) (x1.trans (.new n)) (x1.2 t n) upd_same ((h2.reverse.fresh n).ext (.new n))⟩)⟩
end
end Gh
set_option Elab.async false
set_option linter.all false
set_option maxRecDepth 100000
set_option maxHeartbeats 4000000
/-! list(zip(xs, ys)), xs and ys lists or tuples -/
namespace Lm
open PySem PySem.Spec PyProof.Rows L2
theorem no_len : typeLookup (.type "zip") "__len__" = pure none := am_miss_of_fast (by decide +kernel)
theorem no_hint : typeLookup (.type "zip") "__length_hint__" = pure none := am_miss_of_fast (by decide +kernel)
section
variable {prog : Program} {w : World} {A : Around} {E : Value → Shared → Prop} {s : Shared}
theorem hint {r : Addr} (hT : s.TypeIs (.ref r) "zip") {Q : Bool → Shared → Prop} (h : Q true s) : wpAny (model prog w) A (Builtin.List.listLengthHint (.ref r)) Q E s := by
  unfold Builtin.List.listLengthHint
  refine wpAny_bind (wpAny_specialOf hT no_len ?_)
  dsimp only
  refine wpAny_ite_split (fun hab => absurd hab (by decide)) (fun _ => ?_)
  refine wpAny_ite_split (fun hab => absurd hab (by decide)) (fun _ => ?_)
  exact wpAny_bind (wpAny_specialOf hT no_hint (wpAny_pure h))
theorem Src_to {t : Bool} {h h' : Heap} {l : Addr} {xs : Array Value} (x : Zm.Src t h l xs) (e : ∀ o, h.get? l = some o → h'.get? l = some o) : Zm.Src t h' l xs := by
  cases t with
  | true => exact Heap.IsTuple.at x e
  | false => exact Heap.IsList.at x e
theorem held_item {t u : Bool} {z TI TO T i1 i2 l1 l2 : Addr} {f : Bool} {oT : Obj} {k1 k2 : Nat} {xs ys : Array Value} {x y : Value} {Q : Option Value → Shared → Prop} (D : ZipApart z TI TO i1 i2 l1 l2)
    (hz : IsZipHeld s.heap z TI TO T f) (hT : s.heap.get? T = some oT) (hTI : IsPair s.heap TI (.ref i1) (.ref i2))
    (h1 : Zm.Run t s.heap i1 l1 k1) (h2 : Zm.Run u s.heap i2 l2 k2) (hl1 : Zm.Src t s.heap l1 xs) (hl2 : Zm.Src u s.heap l2 ys) (hx : xs[k1]? = some x) (hy : ys[k2]? = some y)
    (hQ : ∀ h', IsZipHeld h' z TI TO T true → Zm.Run t h' i1 l1 (k1 + 1) → Zm.Run u h' i2 l2 (k2 + 1) → IsPair h' s.heap.objs.size x y → h'.objs.size = s.heap.objs.size + 1 →
      (∀ c o, c ≠ z → c ≠ i1 → c ≠ i2 → s.heap.get? c = some o → h'.get? c = some o) → Q (some (.ref s.heap.objs.size)) { s with heap := h' }) : wpAny (model prog w) A (pyNext (.ref z)) Q E s := by
  have hTy : s.TypeIs (.ref z) "zip" := ⟨_, hz, rfl⟩
  unfold pyNext
  refine wpAny_bind (wpAny_attempt (wpAny_callSpecial?_slot (name := Str.ofString "__next__") hTy F.slot_zip_next (wpAny_call_entry (Q := fun v s' => wpAny (model prog w) A (pure (some v)) Q E s') F.slot_zip_next hTy F.entry_zip_next ?_ (F.args_zip_next_1 _))))
  show wpAny _ _ (field (.ref z) 2 >>= _) _ _ _
  refine wpAny_bind (wpAny_field hz rfl (x := .bool false) rfl ?_)
  show wpAny _ _ (field (.ref z) 3 >>= _) _ _ _
  refine wpAny_bind (wpAny_field hz rfl (x := .ref TI) rfl (wpAny_bind (wpAny_seqItems hTI rfl ?_)))
  show wpAny _ _ (Builtin.SmallTypes.ownedTupleIsFree (.ref z) >>= _) _ _ _
  refine wpAny_bind (wpAny_tupleHeld_zip hz hT fun ha za sa => ?_)
  simp only [Bool.false_eq_true, if_false]
  refine wpAny_bind ?_
  rw [← Array.forIn_toList]
  simp only [List.forIn_cons, List.forIn_nil]
  refine wpAny_bind (wpAny_bind (wpAny_holding ?_))
  show wpAny _ _ (Builtin.SmallTypes.nextOf (.ref i1) >>= _) _ _ _
  refine wpAny_bind (Zm.next_item (s := { s with heap := ha }) (h1.but sa.extBut D.i1z) (hl1.but sa.extBut D.l1z) hx fun hb r1 sb => wpAny_pure (wpAny_pure ?_))
  refine wpAny_bind (wpAny_bind (wpAny_holding ?_))
  show wpAny _ _ (Builtin.SmallTypes.nextOf (.ref i2) >>= _) _ _ _
  refine wpAny_bind (Zm.next_item (s := { s with heap := hb }) ((h2.but sa.extBut D.i2z).but sb.extBut D.i12.symm) ((hl2.but sa.extBut D.l2z).but sb.extBut D.l2i1) hy fun hc r2 sc => wpAny_pure (wpAny_pure (wpAny_pure ?_)))
  show wpAny _ _ (newTuple [x, y] >>= _) _ _ _
  refine wpAny_bind (wpAny_newTuple (wpAny_pure ⟨_, rfl, ?_⟩))
  have hsz : hc.objs.size = s.heap.objs.size := by rw [sc.1, sb.1, sa.1]
  have hp : IsPair (hc.push { cls := .type "tuple", data := .seq #[x, y] }) hc.objs.size x y := Heap.get?_push_size _ rfl
  have h4 : (hc.push { cls := .type "tuple", data := .seq #[x, y] }).objs.size = hc.objs.size + 1 := Heap.size_push ..
  show wpAny _ _ (pure (some (Value.ref hc.objs.size))) _ _ _
  rw [hsz] at hp h4 ⊢
  exact wpAny_pure (hQ _ (Heap.get?_push_of_some _ (sc.extBut _ _ D.i2z.symm (sb.extBut _ _ D.i1z.symm za))) ((r1.but sc.extBut D.i12).to fun o e => Heap.get?_push_of_some _ e) (r2.to fun o e => Heap.get?_push_of_some _ e) hp h4
    fun c o c1 c2 c3 e => Heap.get?_push_of_some _ (sc.extBut _ _ c3 (sb.extBut _ _ c2 (sa.extBut _ _ c1 e))))
theorem held_end {t u : Bool} {z TI TO T i1 i2 l1 l2 : Addr} {f : Bool} {oT : Obj} {k1 k2 : Nat} {xs ys : Array Value} {Q : Option Value → Shared → Prop} (hh : A.handled = none) (D : ZipApart z TI TO i1 i2 l1 l2)
    (hz : IsZipHeld s.heap z TI TO T f) (hT : s.heap.get? T = some oT) (hTI : IsPair s.heap TI (.ref i1) (.ref i2))
    (h1 : Zm.Run t s.heap i1 l1 k1) (h2 : Zm.Run u s.heap i2 l2 k2) (hl1 : Zm.Src t s.heap l1 xs) (hl2 : Zm.Src u s.heap l2 ys) (hend : xs[k1]? = none ∨ ys[k2]? = none)
    (hQ : ∀ h', (∀ c o, c ≠ z → c ≠ i1 → c ≠ i2 → s.heap.get? c = some o → h'.get? c = some o) → Q none { s with heap := h' }) : wpAny (model prog w) A (pyNext (.ref z)) Q E s := by
  have hTy : s.TypeIs (.ref z) "zip" := ⟨_, hz, rfl⟩
  unfold pyNext
  refine wpAny_bind (wpAny_attempt (wpAny_callSpecial?_slot (name := Str.ofString "__next__") hTy F.slot_zip_next (wpAny_call_entry F.slot_zip_next hTy F.entry_zip_next ?_ (F.args_zip_next_1 _))))
  have key : ∀ (E' : Value → Shared → Prop) (Q' : Fin → Shared → Prop), (∀ (h' : Heap) (e : Addr), (∀ c o, c ≠ z → c ≠ i1 → c ≠ i2 → s.heap.get? c = some o → h'.get? c = some o) → (∃ o, h'.get? e = some o ∧ o.cls = .type "StopIteration") → E' (.ref e) { s with heap := h' }) →
      wpAny (model prog w) A.in1 (Builtin.«zip.__next__» ⟨[.ref z], []⟩) Q' E' s := fun E' Q' hE => by
    show wpAny _ _ (field (.ref z) 2 >>= _) _ _ _
    refine wpAny_bind (wpAny_field hz rfl (x := .bool false) rfl ?_)
    show wpAny _ _ (field (.ref z) 3 >>= _) _ _ _
    refine wpAny_bind (wpAny_field hz rfl (x := .ref TI) rfl (wpAny_bind (wpAny_seqItems hTI rfl ?_)))
    show wpAny _ _ (Builtin.SmallTypes.ownedTupleIsFree (.ref z) >>= _) _ _ _
    refine wpAny_bind (wpAny_tupleHeld_zip hz hT fun ha za sa => ?_)
    simp only [Bool.false_eq_true, if_false]
    refine wpAny_bind ?_
    rw [← Array.forIn_toList]
    simp only [List.forIn_cons, List.forIn_nil]
    refine wpAny_bind (wpAny_bind (wpAny_holding ?_))
    show wpAny _ _ (Builtin.SmallTypes.nextOf (.ref i1) >>= _) _ _ _
    cases hx : xs[k1]? with
    | none => exact wpAny_bind (Zm.next_end (s := { s with heap := ha }) hh (h1.but sa.extBut D.i1z) (hl1.but sa.extBut D.l1z) hx fun hb e sb he => hE hb e (fun c o c1 c2 _ x => sb _ _ c2 (sa.extBut _ _ c1 x)) he)
    | some x =>
      have hy : ys[k2]? = none := by
        rcases hend with h | h
        · rw [hx] at h; cases h
        · exact h
      refine wpAny_bind (Zm.next_item (s := { s with heap := ha }) (h1.but sa.extBut D.i1z) (hl1.but sa.extBut D.l1z) hx fun hb r1 sb => wpAny_pure (wpAny_pure ?_))
      refine wpAny_bind (wpAny_bind (wpAny_holding ?_))
      show wpAny _ _ (Builtin.SmallTypes.nextOf (.ref i2) >>= _) _ _ _
      exact wpAny_bind (Zm.next_end (s := { s with heap := hb }) hh ((h2.but sa.extBut D.i2z).but sb.extBut D.i12.symm) ((hl2.but sa.extBut D.l2z).but sb.extBut D.l2i1) hy fun hc e sc he => hE hc e (fun c o c1 c2 c3 x => sc _ _ c3 (sb.extBut _ _ c2 (sa.extBut _ _ c1 x))) he)
  refine key _ _ fun h' e hk he => ?_
  obtain ⟨o, ho, hc⟩ := he
  refine wpAny_bind (wpAny_isInstance (T := "StopIteration") (b := true) ⟨o, ho, hc⟩ isSubtype_stop ?_)
  exact wpAny_pure (hQ _ hk)
/-- the pairs that have been given -/
structure Ps (xs ys : Array Value) (lo : Addr) (h : Heap) (as : List Addr) : Prop where
  nd : as.Nodup
  above : ∀ a ∈ as, lo < a
  pairs : ∀ (j : Nat) (a : Addr), as[j]? = some a → ∃ x y, xs[j]? = some x ∧ ys[j]? = some y ∧ h.get? a = some { cls := .type "tuple", data := .seq #[x, y] }
structure Zs (ta tb : Bool) (xs ys : Array Value) (z TI TO i1 i2 l1 l2 S : Addr) (i : Nat) (h : Heap) : Prop where
  tI : IsPair h TI (.ref i1) (.ref i2)
  r1 : Zm.Run ta h i1 l1 i
  r2 : Zm.Run tb h i2 l2 i
  s1 : Zm.Src ta h l1 xs
  s2 : Zm.Src tb h l2 ys
  z : (i = 0 ∧ IsZip h z TI TO .none ∧ ∃ x y, IsPair h TO x y) ∨ ∃ T f oT, IsZipHeld h z TI TO T f ∧ h.get? T = some oT ∧ S < T
theorem Zs.keep {ta tb : Bool} {xs ys : Array Value} {z TI TO i1 i2 l1 l2 S : Addr} {i : Nat} {h h' : Heap} (x : Zs ta tb xs ys z TI TO i1 i2 l1 l2 S i h) (k : ∀ b o, b ≠ S → h.get? b = some o → h'.get? b = some o) (n : z ≠ S ∧ TI ≠ S ∧ TO ≠ S ∧ i1 ≠ S ∧ i2 ≠ S ∧ l1 ≠ S ∧ l2 ≠ S) : Zs ta tb xs ys z TI TO i1 i2 l1 l2 S i h' := by
  obtain ⟨n1, n2, n3, n4, n5, n6, n7⟩ := n
  refine ⟨k _ _ n2 x.tI, x.r1.to fun o e => k _ o n4 e, x.r2.to fun o e => k _ o n5 e, Src_to x.s1 fun o e => k _ o n6 e, Src_to x.s2 fun o e => k _ o n7 e, ?_⟩
  rcases x.z with ⟨e, q, u, v, p⟩ | ⟨T, f, oT, q, e, lt⟩
  · exact .inl ⟨e, k _ _ n1 q, u, v, k _ _ n3 p⟩
  · exact .inr ⟨T, f, oT, k _ _ n1 q, k _ _ (Nat.ne_of_gt lt) e, lt⟩
theorem item {ta tb : Bool} {xs ys : Array Value} {z TI TO i1 i2 l1 l2 S : Addr} {i : Nat} {x y : Value} {Q : Option Value → Shared → Prop} (D : ZipApart z TI TO i1 i2 l1 l2) (st : Zs ta tb xs ys z TI TO i1 i2 l1 l2 S i s.heap) (hS : S < s.heap.objs.size) (lt : z < S ∧ i1 < S ∧ i2 < S ∧ TO < S ∧ l1 < S ∧ l2 < S ∧ TI < S) (n : l1 ≠ i2 ∧ l1 ≠ i1 ∧ l2 ≠ i1 ∧ l2 ≠ i2 ∧ l1 ≠ z ∧ l2 ≠ z ∧ l1 ≠ TO ∧ l2 ≠ TO)
    (hx : xs[i]? = some x) (hy : ys[i]? = some y)
    (hQ : ∀ h', Zs ta tb xs ys z TI TO i1 i2 l1 l2 S (i + 1) h' → h'.get? s.heap.objs.size = some { cls := .type "tuple", data := .seq #[x, y] } → h'.objs.size = s.heap.objs.size + 1 →
      (∀ b o, b ≠ z → b ≠ TO → b ≠ i1 → b ≠ i2 → s.heap.get? b = some o → h'.get? b = some o) → Q (some (.ref s.heap.objs.size)) { s with heap := h' }) : wpAny (model prog w) A (pyNext (.ref z)) Q E s := by
  obtain ⟨m1, m2, m3, m4, m5, m6, m7, m8⟩ := n
  rcases st.z with ⟨e, q, u, v, p⟩ | ⟨T, f, oT, q, e, ltT⟩
  · refine Zm.py_item (t := ta) (u := tb) D q st.tI p st.r1 st.r2 st.s1 st.s2 hx hy fun h' z' TO' h1' h2' hT hsz hk => hQ h' ⟨hk _ _ D.TIz D.TITO D.TIi1 D.TIi2 st.tI, h1', h2', Src_to st.s1 fun o e => hk _ o m5 m7 m2 m1 e, Src_to st.s2 fun o e => hk _ o m6 m8 m3 m4 e, .inr ⟨_, false, _, z', hT, hS⟩⟩ hT hsz hk
  · obtain ⟨o1, o2, o3, o4, o5, o6, o7⟩ := lt
    refine held_item (t := ta) (u := tb) D q e st.tI st.r1 st.r2 st.s1 st.s2 hx hy fun h' z' h1' h2' hT hsz hk => hQ h' ⟨hk _ _ D.TIz D.TIi1 D.TIi2 st.tI, h1', h2', Src_to st.s1 fun o e => hk _ o m5 m2 m1 e, Src_to st.s2 fun o e => hk _ o m6 m3 m4 e, .inr ⟨T, true, oT, z', hk _ _ ?_ ?_ ?_ e, ltT⟩⟩ hT hsz fun b o c1 _ c3 c4 e => hk b o c1 c3 c4 e
    · exact Nat.ne_of_gt (Nat.lt_trans o1 ltT)
    · exact Nat.ne_of_gt (Nat.lt_trans o2 ltT)
    · exact Nat.ne_of_gt (Nat.lt_trans o3 ltT)
theorem done {ta tb : Bool} {xs ys : Array Value} {z TI TO i1 i2 l1 l2 S : Addr} {i : Nat} {Q : Option Value → Shared → Prop} (hh : A.handled = none) (D : ZipApart z TI TO i1 i2 l1 l2) (st : Zs ta tb xs ys z TI TO i1 i2 l1 l2 S i s.heap) (he : xs[i]? = none ∨ ys[i]? = none)
    (hQ : ∀ h', (∀ b o, b ≠ z → b ≠ TO → b ≠ i1 → b ≠ i2 → s.heap.get? b = some o → h'.get? b = some o) → Q none { s with heap := h' }) : wpAny (model prog w) A (pyNext (.ref z)) Q E s := by
  rcases st.z with ⟨e, q, u, v, p⟩ | ⟨T, f, oT, q, e, ltT⟩
  · exact Zm.py_end (t := ta) (u := tb) hh D q st.tI p st.r1 st.r2 st.s1 st.s2 he fun h' hk => hQ h' hk
  · exact held_end (t := ta) (u := tb) hh D q e st.tI st.r1 st.r2 st.s1 st.s2 he fun h' hk => hQ h' fun b o c1 _ c3 c4 e => hk b o c1 c3 c4 e
/-- how the cells lie -/
structure Lie (z TI TO i1 i2 l1 l2 S : Addr) : Prop where
  D : ZipApart z TI TO i1 i2 l1 l2
  lt : z < S ∧ i1 < S ∧ i2 < S ∧ TO < S ∧ l1 < S ∧ l2 < S ∧ TI < S
  n : l1 ≠ i2 ∧ l1 ≠ i1 ∧ l2 ≠ i1 ∧ l2 ≠ i2 ∧ l1 ≠ z ∧ l2 ≠ z ∧ l1 ≠ TO ∧ l2 ≠ TO
theorem Lie.ne {z TI TO i1 i2 l1 l2 S : Addr} (L : Lie z TI TO i1 i2 l1 l2 S) : z ≠ S ∧ TI ≠ S ∧ TO ≠ S ∧ i1 ≠ S ∧ i2 ≠ S ∧ l1 ≠ S ∧ l2 ≠ S := by
  obtain ⟨o1, o2, o3, o4, o5, o6, o7⟩ := L.lt
  exact ⟨Nat.ne_of_lt o1, Nat.ne_of_lt o7, Nat.ne_of_lt o4, Nat.ne_of_lt o2, Nat.ne_of_lt o3, Nat.ne_of_lt o5, Nat.ne_of_lt o6⟩
theorem Lie.over {z TI TO i1 i2 l1 l2 S b : Addr} (L : Lie z TI TO i1 i2 l1 l2 S) (h : S < b) : b ≠ z ∧ b ≠ TO ∧ b ≠ i1 ∧ b ≠ i2 := by
  obtain ⟨o1, o2, o3, o4, o5, o6, o7⟩ := L.lt
  exact ⟨Nat.ne_of_gt (Nat.lt_trans o1 h), Nat.ne_of_gt (Nat.lt_trans o4 h), Nat.ne_of_gt (Nat.lt_trans o2 h), Nat.ne_of_gt (Nat.lt_trans o3 h)⟩
theorem loop {ta tb : Bool} {xs ys : Array Value} {z TI TO i1 i2 l1 l2 S : Addr} {R : Result → Shared → Prop} (hh : A.handled = none) (L : Lie z TI TO i1 i2 l1 l2 S) {n : Nat} (hnx : n = min xs.size ys.size) (hn : n ≤ sizeLine) (res : Value) {h₁ : Heap}
    (hR : ∀ h' acc c as, (∀ b o, b ≠ S → b ≠ z → b ≠ TO → b ≠ i1 → b ≠ i2 → h₁.get? b = some o → h'.get? b = some o) → h'.get? S = some { cls := .type "list", dict := none, data := .seq acc c, slots := #[] } → as.length = n → Ps xs ys S h' as →
      acc.toList = as.map Value.ref → R (.ok (.ret res)) { s with heap := h' }) :
    ∀ (k i : Nat) (h : Heap) (c : Nat) (acc : Array Value) (as : List Addr), n - i = k → i ≤ n → Zs ta tb xs ys z TI TO i1 i2 l1 l2 S i h → (∀ b o, b ≠ S → b ≠ z → b ≠ TO → b ≠ i1 → b ≠ i2 → h₁.get? b = some o → h.get? b = some o) →
      h.get? S = some { cls := .type "list", dict := none, data := .seq acc c, slots := #[] } → acc.toList = as.map Value.ref → as.length = i → Ps xs ys S h as →
      codeAny (model prog w) A (.builtin "list.extend.loop" ⟨[.ref S, .ref z, res], []⟩) R { s with heap := h } := by
  obtain ⟨e1, e2, e3, e4, e5, e6, e7⟩ := L.ne
  intro k
  induction k with
  | zero =>
    intro i h c acc as hk hi hst hkeep hS hacc hal hG
    have hin : i = n := by omega
    refine codeAny_builtin PySem.F.entry_extend_loop ?_
    rw [Around.under_plainId PySem.F.plain_extend_loop _]
    show wpAny _ A.in1 (pyNext (.ref z) >>= _) _ _ _
    have hend : xs[i]? = none ∨ ys[i]? = none := by
      rcases Nat.le_total xs.size ys.size with q | q
      · exact .inl (Array.getElem?_eq_none (by omega))
      · exact .inr (Array.getElem?_eq_none (by omega))
    refine wpAny_bind (done (s := { s with heap := h }) (A := A.in1) hh L.D hst hend fun h' he => ?_)
    refine wpAny_pure (hR h' acc c as (fun b o h1 h2 h3 h4 h5 e => he b o h2 h3 h4 h5 (hkeep b o h1 h2 h3 h4 h5 e)) (he S _ (Ne.symm e1) (Ne.symm e3) (Ne.symm e4) (Ne.symm e5) hS) (by omega) ⟨hG.nd, hG.above, fun j a hj => ?_⟩ hacc)
    obtain ⟨x, y, q1, q2, q3⟩ := hG.pairs j a hj
    obtain ⟨n1, n2, n3, n4⟩ := L.over (hG.above a (List.mem_of_getElem? hj))
    exact ⟨x, y, q1, q2, he a _ n1 n2 n3 n4 q3⟩
  | succ k ih =>
    intro i h c acc as hk hi hst hkeep hS hacc hal hG
    have hlt : i < n := by omega
    obtain ⟨x, hx⟩ : ∃ p, xs[i]? = some p := ⟨xs[i]'(by omega), Array.getElem?_eq_getElem _⟩
    obtain ⟨y, hy⟩ : ∃ p, ys[i]? = some p := ⟨ys[i]'(by omega), Array.getElem?_eq_getElem _⟩
    have hsz : acc.size = i := by rw [← Array.length_toList, hacc, List.length_map, hal]
    have hSl : S < h.objs.size := Heap.lt_size hS
    refine codeAny_builtin PySem.F.entry_extend_loop ?_
    rw [Around.under_plainId PySem.F.plain_extend_loop _]
    show wpAny _ A.in1 (pyNext (.ref z) >>= _) _ _ _
    refine wpAny_bind (item (s := { s with heap := h }) L.D hst hSl L.lt L.n hx hy fun h' hst' ht hz hkp => ?_)
    dsimp only at ht hz hkp ⊢
    have hS' := hkp S _ (Ne.symm e1) (Ne.symm e3) (Ne.symm e4) (Ne.symm e5) hS
    have up : ∀ b o, b ≠ S → h'.get? b = some o → (h'.update S (Obj.mapSeq (·.push (Value.ref h.objs.size)))).get? b = some o := fun b o hb e => (Heap.get?_update_other _ _ (Ne.symm hb)).trans e
    show wpAny _ A.in1 (updateSeq S (·.push (Value.ref h.objs.size)) >>= _) _ _ _
    refine wpAny_bind ?_
    refine wpAny_updateSeq hS' rfl (wpAny_pure ⟨plainId_quiet PySem.F.plain_extend_loop _, ih (i + 1) _ _ (acc.push (Value.ref h.objs.size)) (as ++ [h.objs.size]) (by omega) hlt (hst'.keep up L.ne)
      (fun b o h1 h2 h3 h4 h5 e => up b o h1 (hkp b o h2 h3 h4 h5 (hkeep b o h1 h2 h3 h4 h5 e))) (Heap.get?_update_self _ hS' rfl) (by rw [Array.toList_push, hacc, List.map_append]; rfl) (by rw [List.length_append, hal]; rfl) ⟨?_, ?_, ?_⟩⟩) (by rw [hsz]; omega) (by show (acc.push (Value.ref h.objs.size)).size ≤ sizeLine + 1; rw [Array.size_push, hsz]; omega)
    · refine List.nodup_append.mpr ⟨hG.nd, by simp, fun a ha b hb e => ?_⟩
      rw [List.mem_singleton.mp hb] at e
      obtain ⟨j, hj⟩ := List.mem_iff_getElem?.mp ha
      obtain ⟨_, _, _, _, q⟩ := hG.pairs j a hj
      rw [e] at q
      exact Nat.lt_irrefl _ (Heap.lt_size q)
    · intro a ha
      rcases List.mem_append.mp ha with ha | ha
      · exact hG.above a ha
      · rw [List.mem_singleton.mp ha]; exact hSl
    · intro j b hj
      rcases Nat.lt_trichotomy j as.length with h1 | h1 | h1
      · rw [List.getElem?_append_left h1] at hj
        obtain ⟨x', y', q1, q2, q3⟩ := hG.pairs j b hj
        have hb := hG.above b (List.mem_of_getElem? hj)
        obtain ⟨n1, n2, n3, n4⟩ := L.over hb
        exact ⟨x', y', q1, q2, up b _ (Nat.ne_of_gt hb) (hkp b _ n1 n2 n3 n4 q3)⟩
      · subst h1
        have hb : h.objs.size = b := by simpa using hj
        subst hb
        exact ⟨x, y, by rw [hal]; exact hx, by rw [hal]; exact hy, up _ _ (Nat.ne_of_gt hSl) ht⟩
      · have hnone : (as ++ [h.objs.size])[j]? = none := List.getElem?_eq_none (by rw [List.length_append, List.length_singleton]; omega)
        rw [hnone] at hj; cases hj
theorem extend {ta tb : Bool} {xs ys : Array Value} {z TI TO i1 i2 l1 l2 S : Addr} {R : Result → Shared → Prop} (hh : A.handled = none) (L : Lie z TI TO i1 i2 l1 l2 S) {n : Nat} (hnx : n = min xs.size ys.size) (hn : n ≤ sizeLine) (res : Value) (c₀ : Nat) (hS : s.heap.get? S = some { cls := .type "list", data := .seq #[] c₀ })
    (st : Zs ta tb xs ys z TI TO i1 i2 l1 l2 S 0 s.heap) (hT : s.TypeIs (.ref z) "zip") (hself : ∀ {A' : Around} {Q : Value → Shared → Prop} {E : Value → Shared → Prop}, Q (.ref z) s → wpAny (model prog w) A' (pyIter (.ref z)) Q E s)
    (hR : ∀ h' acc c as, (∀ b o, b ≠ S → b ≠ z → b ≠ TO → b ≠ i1 → b ≠ i2 → s.heap.get? b = some o → h'.get? b = some o) → h'.get? S = some { cls := .type "list", dict := none, data := .seq acc c, slots := #[] } → as.length = n → Ps xs ys S h' as →
      acc.toList = as.map Value.ref → R (.ok (.ret res)) { s with heap := h' }) :
    wpAny (model prog w) A.in1 (Builtin.List.listExtendWith (.ref S) (.ref z) res)
      (fun fin s' => match fin with | .done f => R (.ok f) s' | .again c' => c'.quiet = true ∧ codeAny (model prog w) A c' R s') (fun e s' => R (.error e) s') s := by
  have key : ∀ (h : Heap) (c₁ : Nat), (∀ b o, b ≠ S → s.heap.get? b = some o → h.get? b = some o) → h.get? S = some { cls := .type "list", data := .seq #[] c₁ } →
      codeAny (model prog w) A (.builtin "list.extend.loop" ⟨[.ref S, .ref z, res], []⟩) R { s with heap := h } := fun h c₁ hk hS₁ =>
    loop (s := s) (h₁ := s.heap) hh L hnx hn res hR n 0 h c₁ #[] [] (Nat.sub_zero _) (Nat.zero_le _) (st.keep hk L.ne) (fun b o hb _ _ _ _ e => hk b o hb e) hS₁ rfl rfl ⟨List.nodup_nil, (fun _ ha => nomatch ha), (fun j a hj => by simp at hj)⟩
  unfold Builtin.List.listExtendWith
  refine wpAny_bind (wpAny_typeOf (T := "zip") hT ?_)
  have h1 : Builtin.List.listSameRef (.ref S) (.ref z) = false := by simp [Builtin.List.listSameRef, Ne.symm L.ne.1]
  have h2 : (Value.type "zip" == Value.type "list") = false := by decide
  have h3 : (Value.type "zip" == Value.type "tuple") = false := by decide
  simp only [h1, h2, h3, Bool.or_false, Bool.false_eq_true, if_false]
  refine wpAny_bind (hself ?_)
  refine wpAny_bind (wpAny_holding (hint hT ?_))
  refine wpAny_ite_split (fun _ => ?_) (fun _ => wpAny_pure ⟨plainId_quiet PySem.F.plain_extend_loop _, key _ c₀ (fun b o _ e => e) hS⟩)
  refine wpAny_bind (wpAny_rule ?_)
  refine wpAny_bind ?_
  show wpAny _ _ (updateSeq S (·.push .none) >>= fun _ => updateSeq S (·.pop)) _ _ _
  refine wpAny_bind (wpAny_updateSeq hS rfl ?_)
  have hS₂ := Heap.get?_update_self (Obj.mapSeq (·.push Value.none)) hS rfl
  refine wpAny_updateSeq (hz := by seq_fits) hS₂ rfl ?_
  have hS₃ := Heap.get?_update_self (Obj.mapSeq (·.pop)) hS₂ rfl
  refine wpAny_pure ⟨plainId_quiet PySem.F.plain_extend_loop _, key _ _ (fun b o hb e => ?_) hS₃⟩
  exact (Heap.get?_update_other _ _ (Ne.symm hb)).trans ((Heap.get?_update_other _ _ (Ne.symm hb)).trans e)
theorem init {ta tb : Bool} {xs ys : Array Value} {z TI TO i1 i2 l1 l2 S : Addr} {R : Result → Shared → Prop} (hh : A.handled = none) (L : Lie z TI TO i1 i2 l1 l2 S) {n : Nat} (hnx : n = min xs.size ys.size) (hn : n ≤ sizeLine) (hS : s.heap.get? S = some { cls := .type "list", data := .seq #[] })
    (st : Zs ta tb xs ys z TI TO i1 i2 l1 l2 S 0 s.heap) (hzz : IsZip s.heap z TI TO .none)
    (hR : ∀ h' acc c as, (∀ b o, b ≠ S → b ≠ z → b ≠ TO → b ≠ i1 → b ≠ i2 → s.heap.get? b = some o → h'.get? b = some o) → h'.get? S = some { cls := .type "list", dict := none, data := .seq acc c, slots := #[] } → as.length = n → Ps xs ys S h' as →
      acc.toList = as.map Value.ref → R (.ok (.ret .none)) { s with heap := h' }) :
    wpAny (model prog w) A.in1 (Builtin.«list.__init__» ⟨[.ref S, .ref z], []⟩)
      (fun fin s' => match fin with | .done f => R (.ok f) s' | .again c' => c'.quiet = true ∧ codeAny (model prog w) A c' R s') (fun e s' => R (.error e) s') s := by
  show wpAny _ _ (do let old ← Builtin.List.listItems (.ref S); Builtin.List.listUpdate (.ref S) (fun _ => #[]); letGo old.toList.reverse; Builtin.List.listExtendWith (.ref S) (.ref z) .none) _ _ s
  refine wpAny_bind ?_
  unfold Builtin.List.listItems
  refine wpAny_bind (wpAny_seqItems hS rfl (wpAny_pure ?_))
  show wpAny _ _ (updateSeq S (fun _ => #[]) >>= fun _ => letGo (#[] : Array Value).toList.reverse >>= fun _ => Builtin.List.listExtendWith (.ref S) (.ref z) .none) _ _ s
  refine wpAny_bind (wpAny_updateSeq hS rfl ?_)
  have hS₂ := Heap.get?_update_self (Obj.mapSeq (fun _ => (#[] : Array Value))) hS rfl
  have oth : ∀ b o, b ≠ S → s.heap.get? b = some o → (s.heap.update S (Obj.mapSeq (fun _ => (#[] : Array Value)))).get? b = some o :=
    fun b o hb e => (Heap.get?_update_other _ _ (Ne.symm hb)).trans e
  refine wpAny_bind (wpAny_letGo ?_)
  have hz2 := oth _ _ L.ne.1 hzz
  refine extend (s := { s with heap := s.heap.update S (Obj.mapSeq (fun _ => (#[] : Array Value))) }) hh L hnx hn .none _ hS₂ (st.keep oth L.ne) ⟨_, hz2, rfl⟩ (fun q => wpAny_pyIter_zip hz2 q) (fun h' acc c as hk hS' hl hG hacc => ?_)
  exact hR h' acc c as (fun b o hb h2 h3 h4 h5 e => hk b o hb h2 h3 h4 h5 (oth b o hb e)) hS' hl hG hacc
theorem call_ {ta tb : Bool} {xs ys : Array Value} {z TI TO i1 i2 l1 l2 : Addr} {Q : Value → Shared → Prop} (hh : A.handled = none) (L : Lie z TI TO i1 i2 l1 l2 s.heap.objs.size) {n : Nat} (hnx : n = min xs.size ys.size) (hn : n ≤ sizeLine)
    (st : ∀ S, Zs ta tb xs ys z TI TO i1 i2 l1 l2 S 0 s.heap) (hzz : IsZip s.heap z TI TO .none)
    (hQ : ∀ h' acc c as, (∀ b o, b ≠ z → b ≠ TO → b ≠ i1 → b ≠ i2 → s.heap.get? b = some o → h'.get? b = some o) → h'.get? s.heap.objs.size = some { cls := .type "list", dict := none, data := .seq acc c, slots := #[] } → as.length = n → Ps xs ys s.heap.objs.size h' as →
      acc.toList = as.map Value.ref → Q (.ref s.heap.objs.size) { s with heap := h' }) :
    wpAny (model prog w) A (call (.type "list") [.ref z]) Q E s := by
  refine callType_codes (Q₁ := fun obj s₁ => obj = .ref s.heap.objs.size ∧ s₁ = { s with heap := s.heap.push { cls := .type "list", data := .seq #[] } }) PySem.F.called_list (PySem.F.typeCall_list_1 _) PySem.F.entry_list_init
    (code_list_new _ ⟨rfl, rfl⟩) fun obj s₁ h₁ => ?_
  obtain ⟨rfl, rfl⟩ := h₁
  have hS : (s.heap.push { cls := .type "list", data := .seq #[] }).get? s.heap.objs.size = some { cls := .type "list", data := .seq #[] } := Heap.get?_push_size _ rfl
  refine ⟨⟨_, hS, rfl⟩, PySem.F.args_list_init_2 _ _, init (s := { s with heap := s.heap.push { cls := .type "list", data := .seq #[] } }) (A := A.in1) hh L hnx hn hS ((st _).keep (fun b o _ e => Heap.get?_push_of_some _ e) L.ne) (Heap.get?_push_of_some _ hzz) (fun h' acc c as hk hS' hl hG hacc => ?_)⟩
  exact ⟨rfl, hQ h' acc c as (fun b o h2 h3 h4 h5 e => hk b o (Nat.ne_of_lt (Heap.lt_size e)) h2 h3 h4 h5 (Heap.get?_push_of_some _ e)) hS' hl hG hacc⟩
end
def tLm (b1 b2 : Bool) (K : PySem.W.Frag) (ta : TA) : TE := fun σ H Q => ta σ H fun vs H1 => ∃ a b xs ys, vs = [.ref a, .ref b] ∧ Zm.Sq b1 K H1 a xs ∧ Zm.Sq b2 K H1 b ys ∧ xs.length ≤ sizeLine ∧ ∀ (S : Addr) (as : List Addr) (H2 : Hp), H1 S = none → as.length = min xs.length ys.length → as.Nodup → (∀ a ∈ as, H1 a = none ∧ a ≠ S) →
  (∀ b, b ∉ as → b ≠ S → H2 b = H1 b) → (∀ (j : Nat) (a : Addr), as[j]? = some a → ∃ x y, xs[j]? = some x ∧ ys[j]? = some y ∧ H2 a = some (.tup [x, y])) → H2 S = some (.lst (as.map V.ref)) → Q (.ref S) H2
theorem pe_lm {b1 b2 : Bool} {X : Cx} {e e2 : Expr} {ta : TA} {p p2 pos pos2 : Pos} (hc : X.calm = true) (hg : Gl X "zip") (hm : X.mg "zip" = none) (hgl : Gl X "list") (hml : X.mg "list" = none) (ha : PA X [e, e2] ta)
    (hs : starEach [e, e2] X.env = (false, eval e X.env) :: starEach [e2] X.env := by rfl) (hpl : (backTo pos2 (starEach [e2] X.env)).any (·.1) = false := by rfl)
    (na : starEach [.Call (.Name "zip" p2) [e, e2] [] pos2] X.env = (false, eval (.Call (.Name "zip" p2) [e, e2] [] pos2) X.env) :: starEach [] X.env := by rfl) :
    PE X (.Call (.Name "list" p) [.Call (.Name "zip" p2) [e, e2] [] pos2] [] pos) (tLm b1 b2 X.K ta) := by
  refine ⟨fun pins s σ H Q I h => ?_⟩
  refine Call_ (ld_blt I hgl hml boot_list (PyProof.Rows.callWith_type1 (args_cons ?_ na) na))
  refine Call_ (ld_blt I hg hm PyProof.Rows.boot_zip (PyProof.Rows.callWith_type1 (thn (ha.run pos2 pins s σ H _ I h) fun us s1 ⟨vs, H1, I1, r1, q1⟩ => ?_) hs hpl))
  obtain ⟨a, b, xs, ys, ex, hqx, hqy, zx, q⟩ := q1
  subst ex
  cases r1 with
  | cons r rr =>
    cases rr with
    | cons r' rr =>
      cases rr; cases r; cases r'
      obtain ⟨its, rv, p1, la⟩ := Zm.Sq.get (t := b1) I1 hqx
      obtain ⟨its2, rv2, p2', lb⟩ := Zm.Sq.get (t := b2) I1 hqy
      have l1 := rv.length
      have l2 := rv2.length
      refine Zm.call_zip (t := b1) (u := b2) p1 p2' fun h' hz hTI hTO h1 h2 hsz hk => args_nil ?_
      have na1 : s1.heap.objs.size ≤ s1.heap.objs.size := Nat.le_refl _
      have L : Lie (s1.heap.objs.size + 4) (s1.heap.objs.size + 2) (s1.heap.objs.size + 3) s1.heap.objs.size (s1.heap.objs.size + 1) a b h'.objs.size := by
        refine ⟨PySem.W.ktu_apart s1.heap.objs.size a b la lb, ?_, ?_⟩
        · rw [hsz]; refine ⟨?_, ?_, ?_, ?_, ?_, ?_, ?_⟩ <;> first | exact Nat.add_lt_add_left (by decide) _ | exact Nat.lt_add_of_pos_right (by decide) | exact Nat.lt_of_lt_of_le la (Nat.le_add_right _ _) | exact Nat.lt_of_lt_of_le lb (Nat.le_add_right _ _)
        · refine ⟨?_, ?_, ?_, ?_, ?_, ?_, ?_, ?_⟩ <;> first | exact Nat.ne_of_lt la | exact Nat.ne_of_lt lb | exact Nat.ne_of_lt (Nat.lt_of_lt_of_le la (Nat.le_add_right _ _)) | exact Nat.ne_of_lt (Nat.lt_of_lt_of_le lb (Nat.le_add_right _ _))
      refine call_ (s := { s1 with heap := h' }) (xs := its.toArray) (ys := its2.toArray) (I1.ok.hd hc) L rfl ?_ (fun S => ⟨hTI, h1, h2, Src_to p1 fun o e => hk _ o e, Src_to p2' fun o e => hk _ o e, .inl ⟨rfl, hz, _, _, hTO⟩⟩) hz fun h3 acc c as k3 hS hl hP hacc => ?_
      · simp only [List.size_toArray]
        exact Nat.le_trans (Nat.min_le_left _ _) (by rw [← l1]; exact zx)
      dsimp only at hS hP k3
      have k4 : ∀ b o, s1.heap.get? b = some o → h3.get? b = some o := fun b o e => by
        have hb := Heap.lt_size e
        exact k3 b o (Nat.ne_of_lt (Nat.lt_of_lt_of_le hb (Nat.le_add_right _ _))) (Nat.ne_of_lt (Nat.lt_of_lt_of_le hb (Nat.le_add_right _ _))) (Nat.ne_of_lt hb) (Nat.ne_of_lt (Nat.lt_of_lt_of_le hb (Nat.le_add_right _ _))) (hk b o e)
      have I2 : Inv X pins σ H1 { s1 with heap := h3 } := I1.kept (t' := s1.toks) k4
      have ge : ∀ a ∈ as, s1.heap.objs.size ≤ a := fun a m => by
        have := hP.above a m
        rw [hsz] at this
        exact Nat.le_trans (Nat.le_add_right _ _) (Nat.le_of_lt this)
      have gS : s1.heap.objs.size ≤ h'.objs.size := by rw [hsz]; exact Nat.le_add_right _ _
      have nS : ∀ a ∈ as, a ≠ h'.objs.size := fun a m => Nat.ne_of_gt (hP.above a m)
      obtain ⟨H2, I3, kb, gp⟩ := Lz.pairsH rv rv2 as 0 H1 { s1 with heap := h3 } rfl I2 hP.nd (fun a m => I1.fpOk (ge a m) (I1.hok.fresh (ge a m))) (fun j a hj => by
        obtain ⟨x, y, q1, q2, q3⟩ := hP.pairs j a hj
        exact ⟨x, y, by simpa using q1, by simpa using q2, q3⟩)
      have nSa : h'.objs.size ∉ as := fun m => nS _ m rfl
      have fS := I1.fpOk gS (I1.hok.fresh gS)
      obtain ⟨q0, q6⟩ := fS
      have I4 : Inv X pins σ (upd H2 h'.objs.size (.lst (as.map V.ref))) { s1 with heap := h3, toks := s1.toks } := I3.take (fun b ob _ q => q) ⟨by rw [kb _ nSa]; exact q0, q6⟩ ⟨?_, acc.toList, c, ?_, ?_⟩
      · refine ⟨.ref h'.objs.size, _, I4, rfl, q _ as _ (I1.hok.fresh gS) ?_ hP.nd (fun a m => ⟨I1.hok.fresh (ge a m), nS a m⟩) (fun b hb hb2 => by rw [upd_ne hb2]; exact kb b hb) (fun j a hj => ?_) upd_same⟩
        · rw [hl, l1, l2]; simp
        · obtain ⟨x, y, w1, w2, w3⟩ := gp j a hj
          rw [Nat.zero_add] at w1 w2
          exact ⟨x, y, w1, w2, by rw [upd_ne (nS a (List.mem_of_getElem? hj))]; exact w3⟩
      · rw [List.length_map, hl]
        simp only [List.size_toArray]
        exact Nat.le_trans (Nat.min_le_left _ _) (by rw [← l1]; exact zx)
      · rw [hacc]; exact Lz.vals_refs as
      · rw [Array.toArray_toList]; exact hS
end Lm
namespace Gh
open PySem PySem.Spec PyProof.Rows L2
section
variable {F : Fx} {ρ : List G} {s s1 s2 s3 : Sx} {a b c e : Expr} {es rest : List Expr} {x y z d : D} {xs ys zs ds : List D} {pos p : Pos}
theorem el_listZipT {p2 pos2 : Pos} (B : Bf F.X.mg) (hc : F.X.calm = true) (ha : Ed F ρ s a (.tup xs) s1) (hb : Ed F ρ s1 b (.tup ys) s2) (hl : xs.length ≤ sizeLine) (hg : Gl F.X "zip" := by rfl) (hgl : Gl F.X "list" := by rfl)
    (he : starEach [a, b] F.X.env = (false, eval a F.X.env) :: starEach [b] F.X.env := by rfl) (he2 : starEach [b] F.X.env = (false, eval b F.X.env) :: starEach [] F.X.env := by rfl) (hpl : (backTo pos2 (starEach [b] F.X.env)).any (·.1) = false := by rfl)
    (na : starEach [.Call (.Name "zip" p2) [a, b] [] pos2] F.X.env = (false, eval (.Call (.Name "zip" p2) [a, b] [] pos2) F.X.env) :: starEach [] F.X.env := by rfl) : El F ρ s (.Call (.Name "list" p) [.Call (.Name "zip" p2) [a, b] [] pos2] [] pos) (zipD xs ys) s2 := by
  refine ⟨ha.1.trans hb.1, fun O σ H f Q q => we (Lm.pe_lm (b1 := true) (b2 := true) hc hg B.zip hgl B.list (pa_cons pe_we (pa_cons pe_we pa_nil he2) he) he hpl na) (ha.2 O σ H f _ fun v H1 f1 x1 r1 => hb.2 O σ H1 f1 _ fun w H2 f2 x2 r2 => ?_)⟩
  cases r1.ext x2.xt with
  | tup h1 h2 =>
    cases r2 with
    | tup h3 h4 =>
      refine ⟨_, _, _, _, rfl, h1.sq, h3.sq, by rw [h2.length]; exact hl, fun S as H3 nS hl nd na kb gp hS => ?_⟩
      have kp : ∀ b o, H2 b = some o → H3 b = some o := fun b o hb => by
        rw [kb b (fun m => by rw [(na b m).1] at hb; cases hb) (fun z => by rw [z, nS] at hb; cases hb)]
        exact hb
      have xp : XP F.p s2 H2 H3 := ⟨fun a o h _ => kp a o h, fun a h => by
        cases e : H2 a with
        | none => rfl
        | some o => rw [kp a o e] at h; cases h⟩
      have st : StA F.p F.S0 H3 s2 := (f2.all kp).st
      have f3 : Fm F (S :: O) σ H3 ρ s2 := f2.addO xp rfl st nS hS
      have xe : XE F H2 H3 := ⟨fun a o _ h => kp a o h, xp.2⟩
      refine q S _ H3 f3 ((x1.trans x2).trans xe) (x1.2 S (x2.2 S nS)) hS ?_
      have xt3 : XT (S :: (O ++ F.S0)) H2 H3 := xt_all kp
      have e2 := h2.length
      have e4 := h4.length
      have key : ∀ (l : List Addr) (j : Nat), (∀ (i : Nat) (a : Addr), l[i]? = some a → as[j + i]? = some a) → l.length + j = min xs.length ys.length → Rps F.X.K F.p (S :: (O ++ F.S0)) H3 (l.map V.ref) ((zipD xs ys).drop j) := by
        intro l
        induction l with
        | nil =>
          intro j _ hj
          rw [List.drop_eq_nil_of_le (by simp [zipD]; simp at hj; omega)]
          exact .nil
        | cons a l ih =>
          intro j hi hj
          have ha := hi 0 a rfl
          rw [Nat.add_zero] at ha
          obtain ⟨x, y, g1, g2, g3⟩ := gp j a ha
          obtain ⟨dx, e1, r1⟩ := h2.getV g1
          obtain ⟨dy, e2, r2⟩ := h4.getV g2
          have ez : (zipD xs ys)[j]? = some (.tup [dx, dy]) := by simp [zipD, List.getElem?_zipWith, e1, e2]
          obtain ⟨hlt, ez2⟩ := List.getElem?_eq_some_iff.mp ez
          rw [List.drop_eq_getElem_cons hlt, ez2]
          have ma := List.mem_of_getElem? ha
          refine .cons (.tup (.inl ⟨fun m => ?_, .inl g3⟩) (.cons ((r1.fresh nS).ext xt3) (.cons ((r2.fresh nS).ext xt3) .nil))) (ih (j + 1) (fun i b h => ?_) (by simp only [List.length_cons] at hj; omega))
          · rcases List.mem_cons.mp m with m | m
            · exact (na a ma).2 m
            · exact f2.fresh (na a ma).1 m
          · rw [show j + 1 + i = j + (i + 1) by omega]
            exact hi (i + 1) b (by simpa using h)
      have := key as 0 (fun i a h => by rw [Nat.zero_add]; exact h) (by rw [hl, e2, e4, Nat.add_zero])
      simpa using this
end
end Gh
set_option linter.all false
/-! runs, words, lines: the plain law -/
namespace Rr
def iter {α : Type} (f : Nat → α → α) (a : α) : Nat → α
  | 0 => a
  | k + 1 => f k (iter f a k)
theorem iter_inv {α : Type} {f : Nat → α → α} {a : α} (P : α → Prop) (h0 : P a) (n : Nat) (hs : ∀ k s, k < n → P s → P (f k s)) : ∀ k, k ≤ n → P (iter f a k)
  | 0, _ => h0
  | k + 1, h => hs k _ h (iter_inv P h0 n hs k (Nat.le_of_succ_le h))
theorem iter_inv' {α : Type} {f : Nat → α → α} {a : α} (P : Nat → α → Prop) (h0 : P 0 a) (n : Nat) (hs : ∀ k s, k < n → P k s → P (k + 1) (f k s)) : ∀ k, k ≤ n → P k (iter f a k)
  | 0, _ => h0
  | k + 1, h => hs k _ h (iter_inv' P h0 n hs k (Nat.le_of_succ_le h))
/-- a word: its thing, its place there, width, height, the gap ahead -/
structure Wd where
  i : Nat
  p : Nat
  w : Nat
  h : Nat
  g : Nat
structure Ws where
  found : List Wd
  gap : Nat
  opn : Bool
def bump (l : List Wd) (z : Nat) : List Wd := match l.getLast? with
  | none => l
  | some x => l.set (l.length - 1) { x with w := x.w + z, h := max x.h (2 * z) }
def Ws.sign (i p z c : Nat) (s : Ws) : Ws :=
  if c = 32 then ⟨s.found, if s.gap = 0 ∧ s.found ≠ [] then z else s.gap, false⟩
  else if s.opn then ⟨bump s.found z, s.gap, true⟩
  else ⟨s.found ++ [⟨i, p, z, 2 * z, s.gap⟩], 0, true⟩
/-- a thing: a text of a size (its signs' codes), a float -/
inductive Th where
  | text (z : Nat) (t : List Nat)
  | flt (l : Bool) (w h : Nat)
def Th.z : Th → Nat
  | .text z _ => z
  | .flt .. => 0
def Th.cs : Th → List Nat
  | .text _ t => t
  | .flt .. => []
def Ws.thing (i : Nat) (t : Th) (s : Ws) : Ws := iter (fun p s => s.sign i p t.z (t.cs.getD p 0)) s t.cs.length
def w0 : Ws := ⟨[], 0, false⟩
def scan (r : List Th) (n : Nat) : Ws := iter (fun i s => match r[i]? with | some t => s.thing i t | none => s) w0 n
def words (r : List Th) : List Wd := (scan r r.length).found

/-! what the words keep -/
theorem bump_length (l : List Wd) (z : Nat) : (bump l z).length = l.length := by
  unfold bump
  cases l.getLast? <;> simp
def tot (l : List Wd) : Nat := (l.map fun w => w.w + w.g).sum
theorem tot_append (l m : List Wd) : tot (l ++ m) = tot l + tot m := by simp [tot]
theorem bump_eq {l : List Wd} (h : l ≠ []) (z : Nat) : bump l z = l.dropLast ++ [{ l.getLast h with w := (l.getLast h).w + z, h := max (l.getLast h).h (2 * z) }] := by
  unfold bump
  rw [List.getLast?_eq_some_getLast h]
  have e : l = l.dropLast ++ [l.getLast h] := (List.dropLast_concat_getLast h).symm
  show l.set (l.length - 1) _ = _
  rw [show l.set (l.length - 1) { l.getLast h with w := (l.getLast h).w + z, h := max (l.getLast h).h (2 * z) } = (l.dropLast ++ [l.getLast h]).set (l.length - 1) { l.getLast h with w := (l.getLast h).w + z, h := max (l.getLast h).h (2 * z) } from by rw [← e]]
  rw [List.set_append_right _ _ (by simp)]
  simp
theorem tot_bump {l : List Wd} (h : l ≠ []) (z : Nat) : tot (bump l z) = tot l + z := by
  rw [bump_eq h, tot_append]
  have e : tot l = tot (l.dropLast ++ [l.getLast h]) := by rw [List.dropLast_concat_getLast h]
  rw [e, tot_append]
  simp [tot]; omega
structure Ws.Ok (b : Nat) (s : Ws) : Prop where
  opn : s.opn = true → s.found ≠ []
  tot : tot s.found + s.gap ≤ b
  len : s.found.length ≤ b
  pos : ∀ w ∈ s.found, 0 < w.h
theorem mem_bump {l : List Wd} {z : Nat} {w : Wd} (m : w ∈ bump l z) : w ∈ l ∨ ∃ x ∈ l, w = { x with w := x.w + z, h := max x.h (2 * z) } := by
  by_cases h : l = []
  · subst h; exact .inl m
  · rw [bump_eq h] at m
    rcases List.mem_append.mp m with m | m
    · exact .inl (List.dropLast_subset _ m)
    · exact .inr ⟨_, List.getLast_mem h, List.mem_singleton.mp m⟩
theorem Ws.Ok.sign {b : Nat} {s : Ws} (ok : s.Ok b) {i p z c m : Nat} (hz : 0 < z) (hm : z ≤ m) (h1 : 0 < m) : (s.sign i p z c).Ok (b + m) := by
  unfold Ws.sign
  split
  · refine ⟨(fun h => by cases h), ?_, Nat.le_trans ok.len (by omega), ok.pos⟩
    have := ok.tot
    show Rr.tot s.found + (if s.gap = 0 ∧ s.found ≠ [] then z else s.gap) ≤ b + m
    split <;> omega
  · split
    · rename_i h
      have hn := ok.opn h
      refine ⟨fun _ e => hn ?_, ?_, ?_, fun w m => ?_⟩
      · have := bump_length s.found z
        rw [show bump s.found z = [] from e] at this
        exact List.length_eq_zero_iff.mp this.symm
      · show Rr.tot (bump s.found z) + s.gap ≤ b + m
        rw [tot_bump hn]; have := ok.tot; omega
      · show (bump s.found z).length ≤ b + m
        rw [bump_length]; have := ok.len; omega
      · rcases mem_bump m with m | ⟨x, mx, rfl⟩
        · exact ok.pos w m
        · have := ok.pos x mx
          show 0 < max x.h (2 * z); omega
    · refine ⟨fun _ => by simp, ?_, ?_, fun w m => ?_⟩
      · show Rr.tot (s.found ++ [_]) + 0 ≤ b + m
        rw [tot_append]; have := ok.tot; simp [Rr.tot] at this ⊢; omega
      · show (s.found ++ [_]).length ≤ b + m
        rw [List.length_append]; have := ok.len; simp; omega
      · rcases List.mem_append.mp m with m | m
        · exact ok.pos w m
        · rw [List.mem_singleton.mp m]; show 0 < 2 * z; omega
theorem Ws.Ok.mono {b c : Nat} {s : Ws} (ok : s.Ok b) (h : b ≤ c) : s.Ok c := ⟨ok.opn, Nat.le_trans ok.tot h, Nat.le_trans ok.len h, ok.pos⟩
/-- small things -/
def Th.Sm (m l : Nat) : Th → Prop
  | .text z t => 0 < z ∧ z ≤ m ∧ t.length ≤ l
  | .flt _ w h => w ≤ 100 ∧ h ≤ 100
theorem sign_ok {b m : Nat} {s : Ws} (ok : s.Ok b) {t : Th} {l : Nat} (sm : t.Sm m l) {i : Nat} : ∀ k, k ≤ t.cs.length → (iter (fun p s => s.sign i p t.z (t.cs.getD p 0)) s k).Ok (b + m * k) := by
  cases t with
  | flt _ _ _ =>
    intro k hk
    have : k = 0 := by simpa [Th.cs] using hk
    subst this
    exact ok
  | text z t =>
    intro k hk
    have := iter_inv' (f := fun p s => Ws.sign i p z (t.getD p 0) s) (a := s) (fun k s => s.Ok (b + m * k)) (by simpa using ok) t.length (fun k s hk ok => by
      have := ok.sign (i := i) (p := k) (z := z) (c := t.getD k 0) (m := m) sm.1 sm.2.1 (by have := sm.1; have := sm.2.1; omega)
      exact this.mono (by rw [Nat.mul_succ]; omega)) k hk
    exact this
theorem thing_ok {b m l : Nat} {s : Ws} (ok : s.Ok b) {t : Th} (sm : t.Sm m l) {i : Nat} : (s.thing i t).Ok (b + m * l) := by
  have := sign_ok ok sm (i := i) t.cs.length (Nat.le_refl _)
  refine this.mono ?_
  have : t.cs.length ≤ l := by
    cases t with
    | text z t => exact sm.2.2
    | flt _ _ _ => simp [Th.cs]
  exact Nat.add_le_add_left (Nat.mul_le_mul_left _ this) _
theorem scan_ok {m l : Nat} {r : List Th} (sm : ∀ t ∈ r, t.Sm m l) : ∀ k, k ≤ r.length → (scan r k).Ok (m * l * k) := by
  intro k hk
  refine iter_inv' (fun k (s : Ws) => s.Ok (m * l * k)) ⟨(fun h => by cases h), by simp [tot, w0], by simp [w0], fun w h => by simp [w0] at h⟩ r.length (fun k s hk ok => ?_) k hk
  have e : r[k]? = some r[k] := List.getElem?_eq_getElem hk
  simp only [e]
  have := thing_ok ok (sm r[k] (List.getElem_mem hk)) (i := k)
  exact this.mono (by rw [Nat.mul_succ]; omega)
theorem scan_succ {r : List Th} {k : Nat} {t : Th} (h : r[k]? = some t) : scan r (k + 1) = (scan r k).thing k t := by
  show (match r[k]? with | some t => (scan r k).thing k t | none => scan r k) = _
  rw [h]
/-- one size: one height -/
theorem one_size {r : List Th} {z : Nat} (h : ∀ t ∈ r, t.cs ≠ [] → t.z = z) : ∀ w ∈ words r, w.h = 2 * z := by
  have key : ∀ k, k ≤ r.length → ∀ w ∈ (scan r k).found, w.h = 2 * z := by
    intro k hk
    refine iter_inv (fun (s : Ws) => ∀ w ∈ s.found, w.h = 2 * z) (fun w m => by simp [w0] at m) r.length (fun k s hk ok => ?_) k hk
    have e : r[k]? = some r[k] := List.getElem?_eq_getElem hk
    simp only [e]
    refine iter_inv (fun (s : Ws) => ∀ w ∈ s.found, w.h = 2 * z) ok (r[k]).cs.length (fun p s hp ok => ?_) _ (Nat.le_refl _)
    have ez : (r[k]).z = z := h _ (List.getElem_mem hk) (fun q => by rw [q] at hp; simp at hp)
    unfold Ws.sign
    split
    · exact ok
    · split
      · intro w m
        rcases mem_bump m with m | ⟨x, mx, rfl⟩
        · exact ok w m
        · have := ok x mx
          show max x.h (2 * (r[k]).z) = 2 * z
          rw [ez]; omega
      · intro w m
        rcases List.mem_append.mp m with m | m
        · exact ok w m
        · rw [List.mem_singleton.mp m, ez]
  exact key r.length (Nat.le_refl _)
end Rr
set_option linter.all false
namespace Rr
/-- the begins of further lines, behind a line that is so wide, from the n-th word on -/
def begs (fit : Nat → Bool) : Nat → Nat → List Wd → List Nat
  | _, _, [] => []
  | n, wide, w :: ws => if fit (wide + w.g + w.w) then begs fit (n + 1) (wide + w.g + w.w) ws else n :: begs fit (n + 1) w.w ws
def begins (fit : Nat → Bool) : List Wd → List Nat
  | [] => []
  | w :: ws => 0 :: begs fit 1 w.w ws
/-- how wide each line would be with the word behind it -/
def bars (fit : Nat → Bool) : Nat → List Wd → List Nat
  | _, [] => []
  | wide, w :: ws => if fit (wide + w.g + w.w) then bars fit (wide + w.g + w.w) ws else (wide + w.g + w.w) :: bars fit w.w ws
def barsOf (fit : Nat → Bool) : List Wd → List Nat
  | [] => []
  | w :: ws => bars fit w.w ws
/-- a room's fit -/
def upto (r : Nat) : Nat → Bool := fun x => decide (x ≤ r)
theorem begs_ge {fit : Nat → Bool} : ∀ (ws : List Wd) (n wide b : Nat), b ∈ begs fit n wide ws → n ≤ b ∧ b < n + ws.length
  | [], n, wide, b, h => by simp [begs] at h
  | w :: ws, n, wide, b, h => by
    unfold begs at h
    split at h
    · have := begs_ge ws _ _ b h
      simp; omega
    · rcases List.mem_cons.mp h with rfl | h
      · simp
      · have := begs_ge ws _ _ b h
        simp; omega
theorem begs_sorted {fit : Nat → Bool} : ∀ (ws : List Wd) (n wide : Nat), (begs fit n wide ws).Pairwise (· < ·)
  | [], n, wide => by simp [begs]
  | w :: ws, n, wide => by
    unfold begs
    split
    · exact begs_sorted ws _ _
    · refine List.pairwise_cons.mpr ⟨fun b m => ?_, begs_sorted ws _ _⟩
      have := begs_ge ws _ _ b m
      omega
theorem begins_lt {fit : Nat → Bool} {ws : List Wd} {b : Nat} (h : b ∈ begins fit ws) : b < ws.length := by
  cases ws with
  | nil => simp [begins] at h
  | cons w ws =>
    rcases List.mem_cons.mp h with rfl | h
    · simp
    · have := begs_ge ws _ _ b h
      simp; omega
theorem begins_sorted {fit : Nat → Bool} (ws : List Wd) : (begins fit ws).Pairwise (· < ·) := by
  cases ws with
  | nil => simp [begins]
  | cons w ws =>
    refine List.pairwise_cons.mpr ⟨fun b m => ?_, begs_sorted ws _ _⟩
    have := begs_ge ws _ _ b m
    omega
theorem begins_length {fit : Nat → Bool} (ws : List Wd) : (begins fit ws).length ≤ ws.length := by
  have key : ∀ (ws : List Wd) (n wide : Nat), (begs fit n wide ws).length ≤ ws.length := by
    intro ws
    induction ws with
    | nil => intro n wide; simp [begs]
    | cons w ws ih =>
      intro n wide
      unfold begs
      split
      · have := ih (n + 1) (wide + w.g + w.w); simp; omega
      · have := ih (n + 1) w.w; simp; omega
  cases ws with
  | nil => simp [begins]
  | cons w ws => have := key ws 1 w.w; simp [begins]; omega
theorem begins_nil {fit : Nat → Bool} {ws : List Wd} : begins fit ws = [] ↔ ws = [] := by
  cases ws <;> simp [begins]
/-- the same begins in a greater room: just if no bar is reached -/
theorem begs_iff {r q : Nat} (h : r ≤ q) : ∀ (ws : List Wd) (n wide : Nat), begs (upto q) n wide ws = begs (upto r) n wide ws ↔ ∀ b ∈ bars (upto r) wide ws, q < b
  | [], n, wide => by simp [begs, bars]
  | w :: ws, n, wide => by
    unfold begs bars
    by_cases e : wide + w.g + w.w ≤ r
    · have e1 : upto r (wide + w.g + w.w) = true := decide_eq_true e
      have e2 : upto q (wide + w.g + w.w) = true := decide_eq_true (Nat.le_trans e h)
      rw [if_pos e1, if_pos e2, if_pos e1]
      exact begs_iff h ws _ _
    · have e1 : ¬ (upto r (wide + w.g + w.w) = true) := by simp [upto, e]
      rw [if_neg e1, if_neg e1]
      by_cases e3 : wide + w.g + w.w ≤ q
      · have e2 : upto q (wide + w.g + w.w) = true := decide_eq_true e3
        rw [if_pos e2]
        constructor
        · intro z
          have : n ∈ begs (upto q) (n + 1) (wide + w.g + w.w) ws := by rw [z]; exact List.mem_cons_self
          have := begs_ge ws _ _ n this
          omega
        · intro z
          have := z _ List.mem_cons_self
          omega
      · have e2 : ¬ (upto q (wide + w.g + w.w) = true) := by simp [upto, e3]
        rw [if_neg e2]
        have := begs_iff h ws (n + 1) w.w
        constructor
        · intro z
          have z2 : begs (upto q) (n + 1) w.w ws = begs (upto r) (n + 1) w.w ws := by injection z
          intro b m
          rcases List.mem_cons.mp m with rfl | m
          · omega
          · exact this.mp z2 b m
        · intro z
          rw [this.mpr fun b m => z b (List.mem_cons_of_mem _ m)]
theorem begins_iff {r q : Nat} (h : r ≤ q) (ws : List Wd) : begins (upto q) ws = begins (upto r) ws ↔ ∀ b ∈ barsOf (upto r) ws, q < b := by
  cases ws with
  | nil => simp [begins, barsOf]
  | cons w ws =>
    have := begs_iff h ws 1 w.w
    simp only [begins, barsOf]
    constructor
    · intro z; exact this.mp (by injection z)
    · intro z; rw [this.mpr z]
theorem bars_gt {r : Nat} : ∀ (ws : List Wd) (wide b : Nat), b ∈ bars (upto r) wide ws → r < b ∧ b ≤ wide + tot ws
  | [], wide, b, h => by simp [bars] at h
  | w :: ws, wide, b, h => by
    unfold bars at h
    have et : tot (w :: ws) = w.w + w.g + tot ws := by simp [tot]
    by_cases e : wide + w.g + w.w ≤ r
    · have e1 : upto r (wide + w.g + w.w) = true := decide_eq_true e
      rw [if_pos e1] at h
      have := bars_gt ws _ b h
      omega
    · have e1 : ¬ (upto r (wide + w.g + w.w) = true) := by simp [upto, e]
      rw [if_neg e1] at h
      rcases List.mem_cons.mp h with rfl | h
      · omega
      · have := bars_gt ws _ b h
        omega
theorem barsOf_gt {r : Nat} {ws : List Wd} {b : Nat} (h : b ∈ barsOf (upto r) ws) : r < b ∧ b ≤ tot ws := by
  cases ws with
  | nil => simp [barsOf] at h
  | cons w ws =>
    have := bars_gt ws w.w b h
    have et : tot (w :: ws) = w.w + w.g + tot ws := by simp [tot]
    omega
theorem bars_length {fit : Nat → Bool} : ∀ (ws : List Wd) (n wide : Nat), (bars fit wide ws).length = (begs fit n wide ws).length
  | [], n, wide => by simp [begs, bars]
  | w :: ws, n, wide => by
    unfold begs bars
    split
    · exact bars_length ws _ _
    · simp [bars_length ws (n + 1) w.w]
theorem barsOf_length {fit : Nat → Bool} (ws : List Wd) : (barsOf fit ws).length = (begins fit ws).length - 1 := by
  cases ws with
  | nil => simp [barsOf, begins]
  | cons w ws => simp [barsOf, begins, bars_length ws 1 w.w]
/-- fewer lines in a greater room -/
theorem begs_mono {r q : Nat} (h : r ≤ q) : ∀ (ws : List Wd) (n m wide wide' k k' : Nat), (k' < k ∨ (k' = k ∧ wide' ≤ wide)) → k' + (begs (upto q) n wide' ws).length ≤ k + (begs (upto r) m wide ws).length
  | [], n, m, wide, wide', k, k', hk => by simp [begs]; omega
  | w :: ws, n, m, wide, wide', k, k', hk => by
    unfold begs
    by_cases e : wide + w.g + w.w ≤ r
    · have e1 : upto r (wide + w.g + w.w) = true := decide_eq_true e
      rw [if_pos e1]
      by_cases e3 : wide' + w.g + w.w ≤ q
      · have e2 : upto q (wide' + w.g + w.w) = true := decide_eq_true e3
        rw [if_pos e2]
        exact begs_mono h ws _ _ _ _ k k' (by omega)
      · have e2 : ¬ (upto q (wide' + w.g + w.w) = true) := by simp [upto, e3]
        rw [if_neg e2]
        have := begs_mono h ws (n + 1) (m + 1) (wide + w.g + w.w) w.w k (k' + 1) (by omega)
        simp; omega
    · have e1 : ¬ (upto r (wide + w.g + w.w) = true) := by simp [upto, e]
      rw [if_neg e1]
      by_cases e3 : wide' + w.g + w.w ≤ q
      · have e2 : upto q (wide' + w.g + w.w) = true := decide_eq_true e3
        rw [if_pos e2]
        have := begs_mono h ws (n + 1) (m + 1) w.w (wide' + w.g + w.w) (k + 1) k' (by omega)
        simp; omega
      · have e2 : ¬ (upto q (wide' + w.g + w.w) = true) := by simp [upto, e3]
        rw [if_neg e2]
        have := begs_mono h ws (n + 1) (m + 1) w.w w.w (k + 1) (k' + 1) (by omega)
        simp; omega
theorem begins_mono {r q : Nat} (h : r ≤ q) (ws : List Wd) : (begins (upto q) ws).length ≤ (begins (upto r) ws).length := by
  cases ws with
  | nil => simp [begins]
  | cons w ws =>
    have := begs_mono h ws 1 1 w.w w.w 0 0 (.inr ⟨rfl, Nat.le_refl _⟩)
    simp [begins]; omega
/-! spans: each line's first word and the one behind its last -/
def spans (n : Nat) (bs : List Nat) : List (Nat × Nat) := bs.zip (bs.drop 1 ++ [n])
theorem spans_length (n : Nat) (bs : List Nat) : (spans n bs).length = bs.length := by
  cases bs <;> simp [spans]
/-- a row's width, its height -/
def rowW (ws : List Wd) (a b : Nat) : Nat := ((List.range (b - a)).map fun k => (ws.getD (a + k) ⟨0, 0, 0, 0, 0⟩).w + if k = 0 then 0 else (ws.getD (a + k) ⟨0, 0, 0, 0, 0⟩).g).sum
def hs (ws : List Wd) (a b : Nat) : List Nat := ((ws.drop a).take (b - a)).map (·.h)
def mx : List Nat → Nat
  | [] => 0
  | x :: xs => max x (mx xs)
theorem mx_ge {x : Nat} : ∀ {xs : List Nat}, x ∈ xs → x ≤ mx xs
  | y :: ys, h => by
    unfold mx
    rcases List.mem_cons.mp h with rfl | h
    · omega
    · have := mx_ge h; omega
theorem mx_mem : ∀ {xs : List Nat}, xs ≠ [] → mx xs ∈ xs
  | [x], _ => by simp [mx]
  | x :: y :: ys, _ => by
    have := mx_mem (xs := y :: ys) (by simp)
    unfold mx
    by_cases e : x ≤ mx (y :: ys)
    · rw [Nat.max_eq_right e]; exact List.mem_cons_of_mem _ this
    · rw [Nat.max_eq_left (by omega)]; exact List.mem_cons_self
def rowH (ws : List Wd) (a b : Nat) : Nat := mx (hs ws a b)
def heights (ws : List Wd) (bs : List Nat) : List Nat := (spans ws.length bs).map fun s => rowH ws s.1 s.2
end Rr
set_option linter.all false
namespace Rr
theorem rowW_one (ws : List Wd) (n : Nat) : rowW ws n (n + 1) = (ws.getD n ⟨0, 0, 0, 0, 0⟩).w := by
  unfold rowW
  rw [show n + 1 - n = 1 by omega]
  simp [List.range_succ]
theorem rowW_succ (ws : List Wd) {f n : Nat} (h : f < n) : rowW ws f (n + 1) = rowW ws f n + (ws.getD n ⟨0, 0, 0, 0, 0⟩).g + (ws.getD n ⟨0, 0, 0, 0, 0⟩).w := by
  unfold rowW
  rw [show n + 1 - f = (n - f) + 1 by omega, List.range_succ, List.map_append, List.sum_append]
  have e : f + (n - f) = n := by omega
  simp only [List.map_cons, List.map_nil, List.sum_cons, List.sum_nil, e]
  rw [if_neg (by omega)]
  omega
theorem getD_drop {ws : List Wd} {n : Nat} {w : Wd} {rest : List Wd} (h : ws.drop n = w :: rest) : ws.getD n ⟨0, 0, 0, 0, 0⟩ = w ∧ ws.drop (n + 1) = rest := by
  have h1 : ws[n]? = some w := by
    have : (ws.drop n)[0]? = some w := by rw [h]; rfl
    rw [List.getElem?_drop] at this
    simpa using this
  refine ⟨by rw [List.getD_eq_getElem?_getD, h1]; rfl, ?_⟩
  have : ws.drop (n + 1) = (ws.drop n).drop 1 := by rw [List.drop_drop]
  rw [this, h]; rfl
theorem bars_row {fit : Nat → Bool} {all : List Wd} : ∀ (ws : List Wd) (f n : Nat), all.drop n = ws → f < n → bars fit (rowW all f n) ws = ((f :: begs fit n (rowW all f n) ws).zip (begs fit n (rowW all f n) ws)).map fun s => rowW all s.1 (s.2 + 1)
  | [], f, n, hd, hf => by simp [bars, begs]
  | w :: ws, f, n, hd, hf => by
    obtain ⟨e1, e2⟩ := getD_drop hd
    have e3 := rowW_succ all hf
    rw [e1] at e3
    have e4 := rowW_one all n
    rw [e1] at e4
    unfold bars begs
    rw [← e3]
    split
    · exact bars_row ws f (n + 1) e2 (by omega)
    · have := bars_row (fit := fit) ws n (n + 1) e2 (by omega)
      rw [e4] at this
      rw [this]
      simp
theorem barsOf_row {fit : Nat → Bool} (ws : List Wd) : barsOf fit ws = ((begins fit ws).zip ((begins fit ws).drop 1)).map fun s => rowW ws s.1 (s.2 + 1) := by
  cases ws with
  | nil => simp [barsOf, begins]
  | cons w ws =>
    have e : rowW (w :: ws) 0 1 = w.w := rowW_one (w :: ws) 0
    have := bars_row (fit := fit) (all := w :: ws) ws 0 1 rfl (by omega)
    rw [e] at this
    simp only [barsOf, begins, List.drop_succ_cons, List.drop_zero]
    rw [this]
/-! turns: rooms at which the begins are others than right below -/
def isTurn (ws : List Wd) (r : Nat) : Bool := decide (r = 0) || decide (begins (upto r) ws ≠ begins (upto (r - 1)) ws)
def turns (ws : List Wd) (n : Nat) : List Nat := (List.range n).filter (isTurn ws)
theorem turns_succ (ws : List Wd) (n : Nat) : turns ws (n + 1) = turns ws n ++ (if isTurn ws n then [n] else []) := by
  unfold turns
  rw [List.range_succ, List.filter_append]
  cases h : isTurn ws n <;> simp [h]
theorem turns_skip (ws : List Wd) {a b : Nat} (h : a ≤ b) (hn : ∀ r, a ≤ r → r < b → isTurn ws r = false) : turns ws b = turns ws a := by
  induction b with
  | zero => have : a = 0 := by omega
            subst this; rfl
  | succ b ih =>
    rcases Nat.lt_or_ge b a with z | z
    · have : a = b + 1 := by omega
      subst this; rfl
    · rw [turns_succ, hn b z (by omega), ih z fun r h1 h2 => hn r h1 (by omega)]; simp
theorem same_of_bars {ws : List Wd} {r q : Nat} (h : r ≤ q) (hb : ∀ b ∈ barsOf (upto r) ws, q < b) : begins (upto q) ws = begins (upto r) ws := (begins_iff h ws).mpr hb
theorem no_turn {ws : List Wd} {r q : Nat} (h : r < q) (hb : ∀ b ∈ barsOf (upto r) ws, q < b) : isTurn ws q = false := by
  have e1 := same_of_bars (Nat.le_of_lt h) hb
  have e2 := same_of_bars (show r ≤ q - 1 by omega) (fun b m => by have := hb b m; omega)
  unfold isTurn
  rw [e1, e2]
  simp; omega
theorem turn_at {ws : List Wd} {r q : Nat} (hm : q ∈ barsOf (upto r) ws) (hx : ∀ b ∈ barsOf (upto r) ws, q ≤ b) : isTurn ws q = true ∧ r < q ∧ q ≤ tot ws ∧ turns ws q = turns ws (r + 1) := by
  obtain ⟨h1, h2⟩ := barsOf_gt hm
  refine ⟨?_, h1, h2, turns_skip ws h1 fun x h3 h4 => no_turn (r := r) (by omega) fun b m => by have := hx b m; omega⟩
  have e2 := same_of_bars (show r ≤ q - 1 by omega) (fun b m => by have := hx b m; omega)
  unfold isTurn
  have : begins (upto q) ws ≠ begins (upto r) ws := fun e => by
    have := (begins_iff (Nat.le_of_lt h1) ws).mp e q hm
    omega
  rw [e2, decide_eq_true this]; simp
theorem turns_end {ws : List Wd} {r top : Nat} (h : r ≤ top) (hb : barsOf (upto r) ws = []) : turns ws (top + 1) = turns ws (r + 1) :=
  turns_skip ws (by omega) fun x h1 h2 => no_turn (r := r) (by omega) (by rw [hb]; simp)
theorem turns_last (ws : List Wd) : ∀ n, ∃ l, (turns ws (n + 1)).getLast? = some l ∧ begins (upto l) ws = begins (upto n) ws
  | 0 => ⟨0, by rw [turns_succ]; simp [turns, isTurn], rfl⟩
  | n + 1 => by
    rw [turns_succ]
    cases e : isTurn ws (n + 1) with
    | true => exact ⟨n + 1, by simp, rfl⟩
    | false =>
      obtain ⟨l, h1, h2⟩ := turns_last ws n
      refine ⟨l, by simpa using h1, ?_⟩
      rw [h2]
      unfold isTurn at e
      simp at e
      exact e.symm
theorem mem_turns {ws : List Wd} {n r : Nat} : r ∈ turns ws n ↔ r < n ∧ isTurn ws r = true := by
  unfold turns; simp
/-- one size: never taller -/
theorem heights_one {ws : List Wd} {z : Nat} (h : ∀ w ∈ ws, w.h = z) (fit : Nat → Bool) : (heights ws (begins fit ws)).sum = z * (begins fit ws).length := by
  have key : ∀ l : List (Nat × Nat), (∀ s ∈ l, s.1 < s.2 ∧ s.2 ≤ ws.length) → (l.map fun s => rowH ws s.1 s.2).sum = z * l.length := by
    intro l
    induction l with
    | nil => intro _; simp
    | cons s l ih =>
      intro hs
      have h1 := hs s List.mem_cons_self
      have e : rowH ws s.1 s.2 = z := by
        unfold rowH
        have hn : Rr.hs ws s.1 s.2 ≠ [] := by
          intro q
          have : (Rr.hs ws s.1 s.2).length = 0 := by rw [q]; rfl
          unfold Rr.hs at this
          simp at this; omega
        have := mx_mem hn
        unfold Rr.hs at this
        obtain ⟨w, m, e⟩ := List.mem_map.mp this
        have m2 := List.mem_of_mem_drop (List.mem_of_mem_take m)
        have e2 := h w m2
        unfold Rr.hs
        omega
      simp only [List.map_cons, List.sum_cons, List.length_cons, e, ih fun s m => hs s (List.mem_cons_of_mem _ m)]
      rw [Nat.mul_succ]; omega
  unfold heights
  rw [key, spans_length]
  intro s m
  unfold spans at m
  obtain ⟨i, hi⟩ := List.mem_iff_getElem?.mp m
  rw [List.getElem?_zip_eq_some] at hi
  obtain ⟨h1, h2⟩ := hi
  have hs1 := List.mem_of_getElem? h1
  have lt1 := begins_lt hs1
  have srt := begins_sorted (fit := fit) ws
  rcases Nat.lt_or_ge (i + 1) (begins fit ws).length with z1 | z1
  · rw [List.getElem?_append_left (by simp; omega), List.getElem?_drop] at h2
    have e2 : (begins fit ws)[i + 1]? = some s.2 := by rw [Nat.add_comm]; exact h2
    obtain ⟨q1, q2⟩ := List.getElem?_eq_some_iff.mp h1
    obtain ⟨q3, q4⟩ := List.getElem?_eq_some_iff.mp e2
    have := List.pairwise_iff_getElem.mp srt i (i + 1) q1 q3 (by omega)
    rw [q2, q4] at this
    exact ⟨this, Nat.le_of_lt (begins_lt (List.mem_of_getElem? e2))⟩
  · have hl : ((begins fit ws).drop 1).length ≤ i := by simp; omega
    rw [List.getElem?_append_right hl] at h2
    have : s.2 = ws.length := by
      have := List.mem_of_getElem? h2
      simpa using this
    omega
end Rr
set_option Elab.async false
set_option linter.all false
set_option maxRecDepth 100000
set_option maxHeartbeats 4000000
namespace Law
open PySem PySem.Spec PyProof.Rows L2 Gh
def top (i : Nat) : Stmt := PySem.Challenge.pw_pagefall_k44_whole_lines.main.body.getD i (.Pass ⟨0, 0, 0, 0⟩)
abbrev t_is_list : Stmt := top 2
theorem sc_is_list : FnScope ["thing"] ["thing"] (defScope t_is_list) := ⟨rfl, rfl, rfl, by decide +kernel, rfl, by decide +kernel, by decide +kernel⟩
abbrev t_is_whole : Stmt := top 3
theorem sc_is_whole : FnScope ["thing"] ["thing"] (defScope t_is_whole) := ⟨rfl, rfl, rfl, by decide +kernel, rfl, by decide +kernel, by decide +kernel⟩
abbrev t_is_natural : Stmt := top 4
theorem sc_is_natural : FnScope ["thing"] ["thing"] (defScope t_is_natural) := ⟨rfl, rfl, rfl, by decide +kernel, rfl, by decide +kernel, by decide +kernel⟩
abbrev t_lowest : Stmt := top 5
theorem sc_lowest : FnScope ["top", "bottom", "one", "two"] ["top", "bottom"] (defScope t_lowest) := ⟨rfl, rfl, rfl, by decide +kernel, rfl, by decide +kernel, by decide +kernel⟩
abbrev t_is_frac : Stmt := top 6
theorem sc_is_frac : FnScope ["thing"] ["thing"] (defScope t_is_frac) := ⟨rfl, rfl, rfl, by decide +kernel, rfl, by decide +kernel, by decide +kernel⟩
abbrev t_frac_of : Stmt := top 7
theorem sc_frac_of : FnScope ["thing"] ["thing"] (defScope t_frac_of) := ⟨rfl, rfl, rfl, by decide +kernel, rfl, by decide +kernel, by decide +kernel⟩
abbrev t_is_width : Stmt := top 8
theorem sc_is_width : FnScope ["thing"] ["thing"] (defScope t_is_width) := ⟨rfl, rfl, rfl, by decide +kernel, rfl, by decide +kernel, by decide +kernel⟩
abbrev t_is_text_thing : Stmt := top 17
theorem sc_is_text_thing : FnScope ["thing", "sign"] ["thing"] (defScope t_is_text_thing) := ⟨rfl, rfl, rfl, by decide +kernel, rfl, by decide +kernel, by decide +kernel⟩
abbrev t_is_float_thing : Stmt := top 18
theorem sc_is_float_thing : FnScope ["thing"] ["thing"] (defScope t_is_float_thing) := ⟨rfl, rfl, rfl, by decide +kernel, rfl, by decide +kernel, by decide +kernel⟩
abbrev t_checked_run : Stmt := top 19
theorem sc_checked_run : FnScope ["run", "index", "thing"] ["run"] (defScope t_checked_run) := ⟨rfl, rfl, rfl, by decide +kernel, rfl, by decide +kernel, by decide +kernel⟩
abbrev t_words_in : Stmt := top 20
theorem sc_words_in : FnScope ["things", "found", "gap", "is_open", "number", "thing", "place", "sign", "size", "begin", "width", "height", "ahead"] ["things"] (defScope t_words_in) := ⟨rfl, rfl, rfl, by decide +kernel, rfl, by decide +kernel, by decide +kernel⟩
abbrev t_row_width : Stmt := top 21
theorem sc_row_width : FnScope ["words", "first", "upto", "at"] ["words", "first", "upto"] (defScope t_row_width) := ⟨rfl, rfl, rfl, by decide +kernel, rfl, by decide +kernel, by decide +kernel⟩
abbrev t_row_height : Stmt := top 22
theorem sc_row_height : FnScope ["words", "first", "upto", "at"] ["words", "first", "upto"] (defScope t_row_height) := ⟨rfl, rfl, rfl, by decide +kernel, rfl, by decide +kernel, by decide +kernel⟩
abbrev t_checked_room : Stmt := top 24
theorem sc_checked_room : FnScope ["room"] ["room"] (defScope t_checked_room) := ⟨rfl, rfl, rfl, by decide +kernel, rfl, by decide +kernel, by decide +kernel⟩
abbrev t_check_number : Stmt := top 25
theorem sc_check_number : FnScope ["many"] ["many"] (defScope t_check_number) := ⟨rfl, rfl, rfl, by decide +kernel, rfl, by decide +kernel, by decide +kernel⟩
abbrev t_is_room_for : Stmt := top 26
theorem sc_is_room_for : FnScope ["width", "room"] ["width", "room"] (defScope t_is_room_for) := ⟨rfl, rfl, rfl, by decide +kernel, rfl, by decide +kernel, by decide +kernel⟩
abbrev t_line_upto : Stmt := top 27
theorem sc_line_upto : FnScope ["words", "first", "room", "width", "at"] ["words", "first", "room"] (defScope t_line_upto) := ⟨rfl, rfl, rfl, by decide +kernel, rfl, by decide +kernel, by decide +kernel⟩
abbrev t_begins_in : Stmt := top 28
theorem sc_begins_in : FnScope ["words", "room", "found", "at"] ["words", "room"] (defScope t_begins_in) := ⟨rfl, rfl, rfl, by decide +kernel, rfl, by decide +kernel, by decide +kernel⟩
abbrev t_spans_of : Stmt := top 29
theorem sc_spans_of : FnScope ["words", "begins"] ["words", "begins"] (defScope t_spans_of) := ⟨rfl, rfl, rfl, by decide +kernel, rfl, by decide +kernel, by decide +kernel⟩
abbrev t_heights_in : Stmt := top 30
theorem sc_heights_in : FnScope ["words", "room", "first", "upto"] ["words", "room"] (defScope t_heights_in) := ⟨rfl, rfl, rfl, by decide +kernel, rfl, by decide +kernel, by decide +kernel⟩
abbrev t_lines_in : Stmt := top 31
theorem sc_lines_in : FnScope ["run", "room", "words"] ["run", "room"] (defScope t_lines_in) := ⟨rfl, rfl, rfl, by decide +kernel, rfl, by decide +kernel, by decide +kernel⟩
abbrev t_line_sizes : Stmt := top 32
theorem sc_line_sizes : FnScope ["run", "room", "words", "spans", "first", "upto"] ["run", "room"] (defScope t_line_sizes) := ⟨rfl, rfl, rfl, by decide +kernel, rfl, by decide +kernel, by decide +kernel⟩
abbrev t_height_in : Stmt := top 33
theorem sc_height_in : FnScope ["run", "room", "words"] ["run", "room"] (defScope t_height_in) := ⟨rfl, rfl, rfl, by decide +kernel, rfl, by decide +kernel, by decide +kernel⟩
abbrev t_is_span : Stmt := top 34
theorem sc_is_span : FnScope ["words", "room", "thing", "first", "number"] ["words", "room", "thing", "first"] (defScope t_is_span) := ⟨rfl, rfl, rfl, by decide +kernel, rfl, by decide +kernel, by decide +kernel⟩
abbrev t_is_breaking : Stmt := top 35
theorem sc_is_breaking : FnScope ["run", "room", "thing", "words", "found", "first", "span"] ["run", "room", "thing"] (defScope t_is_breaking) := ⟨rfl, rfl, rfl, by decide +kernel, rfl, by decide +kernel, by decide +kernel⟩
abbrev t_is_chain : Stmt := top 36
theorem sc_is_chain : FnScope ["run", "room", "thing", "words", "found", "number", "one", "other"] ["run", "room", "thing"] (defScope t_is_chain) := ⟨rfl, rfl, rfl, by decide +kernel, rfl, by decide +kernel, by decide +kernel⟩
abbrev t_chain_above : Stmt := top 37
theorem sc_chain_above : FnScope ["run", "room", "many", "words", "found", "begins"] ["run", "room", "many"] (defScope t_chain_above) := ⟨rfl, rfl, rfl, by decide +kernel, rfl, by decide +kernel, by decide +kernel⟩
abbrev t__law_source : Stmt := top 39
theorem sc__law_source : FnScope ["_law_script", "_law_turn", "_law_seed", "_law_more", "_law_cell"] ["_law_script", "_law_turn"] (defScope t__law_source) := ⟨rfl, rfl, rfl, by decide +kernel, rfl, by decide +kernel, by decide +kernel⟩
abbrev t__law_draw : Stmt := top 40
theorem sc__law_draw : FnScope ["_law_draws", "_law_many", "_law_digit"] ["_law_draws", "_law_many"] (defScope t__law_draw) := ⟨rfl, rfl, rfl, by decide +kernel, rfl, by decide +kernel, by decide +kernel⟩
abbrev t__law_pick : Stmt := top 41
theorem sc__law_pick : FnScope ["_law_draws", "_law_things"] ["_law_draws", "_law_things"] (defScope t__law_pick) := ⟨rfl, rfl, rfl, by decide +kernel, rfl, by decide +kernel, by decide +kernel⟩
abbrev t__law_same : Stmt := top 42
theorem sc__law_same : FnScope ["_law_found", "_law_due", "_law_key", "_law_x", "_law_y"] ["_law_found", "_law_due"] (defScope t__law_same) := ⟨rfl, rfl, rfl, by decide +kernel, rfl, by decide +kernel, by decide +kernel⟩
abbrev t__law_loose : Stmt := top 43
theorem sc__law_loose : FnScope ["_law_draws", "_law_thing", "_law_parts", "_law_part"] ["_law_draws", "_law_thing"] (defScope t__law_loose) := ⟨rfl, rfl, rfl, by decide +kernel, rfl, by decide +kernel, by decide +kernel⟩
abbrev t__law_some_text : Stmt := top 44
theorem sc__law_some_text : FnScope ["_law_draws", "_law_sizes", "_law_found", "_law_k"] ["_law_draws", "_law_sizes"] (defScope t__law_some_text) := ⟨rfl, rfl, rfl, by decide +kernel, rfl, by decide +kernel, by decide +kernel⟩
abbrev t__law_some_float : Stmt := top 45
theorem sc__law_some_float : FnScope ["_law_draws", "_law_most", "_law_height"] ["_law_draws", "_law_most"] (defScope t__law_some_float) := ⟨rfl, rfl, rfl, by decide +kernel, rfl, by decide +kernel, by decide +kernel⟩
abbrev t__law_some_run : Stmt := top 46
theorem sc__law_some_run : FnScope ["_law_draws", "_law_many", "_law_floats", "_law_sizes", "_law_found", "_law_free", "_law_k"] ["_law_draws", "_law_many", "_law_floats"] (defScope t__law_some_run) := ⟨rfl, rfl, rfl, by decide +kernel, rfl, by decide +kernel, by decide +kernel⟩
abbrev t__law_some_room : Stmt := top 47
theorem sc__law_some_room : FnScope ["_law_draws", "_law_top", "_law_way", "_law_bottom"] ["_law_draws", "_law_top"] (defScope t__law_some_room) := ⟨rfl, rfl, rfl, by decide +kernel, rfl, by decide +kernel, by decide +kernel⟩
abbrev t__law_is_float : Stmt := top 48
theorem sc__law_is_float : FnScope ["_law_thing"] ["_law_thing"] (defScope t__law_is_float) := ⟨rfl, rfl, rfl, by decide +kernel, rfl, by decide +kernel, by decide +kernel⟩
abbrev t__law_met_in : Stmt := top 49
theorem sc__law_met_in : FnScope ["_law_run", "_law_words", "_law_order", "_law_held", "_law_is_open", "_law_gap", "_law_many", "_law_index", "_law_thing", "_law_at", "_law_sign", "_law_spot", "_law_start", "_law_width", "_law_tall_here", "_law_ahead"] ["_law_run"] (defScope t__law_met_in) := ⟨rfl, rfl, rfl, by decide +kernel, rfl, by decide +kernel, by decide +kernel⟩
abbrev t__law_row : Stmt := top 50
theorem sc__law_row : FnScope ["_law_words", "_law_first", "_law_upto", "_law_word"] ["_law_words", "_law_first", "_law_upto"] (defScope t__law_row) := ⟨rfl, rfl, rfl, by decide +kernel, rfl, by decide +kernel, by decide +kernel⟩
abbrev t__law_lines : Stmt := top 51
theorem sc__law_lines : FnScope ["_law_words", "_law_room", "_law_found", "_law_wide", "_law_number", "_law_word", "_law_more"] ["_law_words", "_law_room"] (defScope t__law_lines) := ⟨rfl, rfl, rfl, by decide +kernel, rfl, by decide +kernel, by decide +kernel⟩
abbrev t__law_tall : Stmt := top 52
theorem sc__law_tall : FnScope ["_law_words", "_law_first", "_law_upto", "_law_word"] ["_law_words", "_law_first", "_law_upto"] (defScope t__law_tall) := ⟨rfl, rfl, rfl, by decide +kernel, rfl, by decide +kernel, by decide +kernel⟩
abbrev t__law_passed : Stmt := top 53
theorem sc__law_passed : FnScope ["_law_draws", "_law_room"] ["_law_draws", "_law_room"] (defScope t__law_passed) := ⟨rfl, rfl, rfl, by decide +kernel, rfl, by decide +kernel, by decide +kernel⟩
abbrev t__law_is_breaking : Stmt := top 54
theorem sc__law_is_breaking : FnScope ["_law_words", "_law_room", "_law_thing", "_law_ahead", "_law_pair", "_law_one", "_law_first", "_law_upto"] ["_law_words", "_law_room", "_law_thing"] (defScope t__law_is_breaking) := ⟨rfl, rfl, rfl, by decide +kernel, rfl, by decide +kernel, by decide +kernel⟩
abbrev t__law_is_chain : Stmt := top 55
theorem sc__law_is_chain : FnScope ["_law_words", "_law_room", "_law_thing", "_law_one", "_law_pairs", "_law_two"] ["_law_words", "_law_room", "_law_thing"] (defScope t__law_is_chain) := ⟨rfl, rfl, rfl, by decide +kernel, rfl, by decide +kernel, by decide +kernel⟩
abbrev t__law_fewest : Stmt := top 56
theorem sc__law_fewest : FnScope ["_law_words", "_law_room", "_law_found", "_law_upto", "_law_some", "_law_first"] ["_law_words", "_law_room"] (defScope t__law_fewest) := ⟨rfl, rfl, rfl, by decide +kernel, rfl, by decide +kernel, by decide +kernel⟩
abbrev t__law_some_breaking : Stmt := top 57
theorem sc__law_some_breaking : FnScope ["_law_draws", "_law_words", "_law_room", "_law_found", "_law_first", "_law_ends", "_law_upto"] ["_law_draws", "_law_words", "_law_room"] (defScope t__law_some_breaking) := ⟨rfl, rfl, rfl, by decide +kernel, rfl, by decide +kernel, by decide +kernel⟩
abbrev t__law_bent : Stmt := top 58
theorem sc__law_bent : FnScope ["_law_draws", "_law_rows", "_law_at", "_law_lots", "_law_some", "_law_thing", "_law_more", "_law_odd"] ["_law_draws", "_law_rows"] (defScope t__law_bent) := ⟨rfl, rfl, rfl, by decide +kernel, rfl, by decide +kernel, by decide +kernel⟩
abbrev t__law_room_right : Stmt := top 59
theorem sc__law_room_right : FnScope ["_law_draws", "_law_run", "_law_words", "_law_room", "_law_lines_here", "_law_handed", "_law_passed_here", "_law_sizes", "_law_first", "_law_upto", "_law_found", "_law_wide", "_law_tall_here", "_law_begins", "_law_many", "_law_due", "_law_other", "_law_one", "_law_row_here", "_law_rows", "_law_thing", "_law_some", "_law_k"] ["_law_draws", "_law_run", "_law_words", "_law_room"] (defScope t__law_room_right) := ⟨rfl, rfl, rfl, by decide +kernel, rfl, by decide +kernel, by decide +kernel⟩
abbrev t_law : Stmt := top 60
theorem sc_law : FnScope ["_law_script", "_law_turn", "_law_draws", "_law_run", "_law_words", "_law_top", "_law_k"] ["_law_script"] (defScope t_law) := ⟨rfl, rfl, rfl, by decide +kernel, rfl, by decide +kernel, by decide +kernel⟩
/-- what the top has left: each def -/
structure Tx (E : En) : Prop where
  bf : Bf E.mg
  d_is_list : Df E t_is_list "is_list" ["thing"]
  d_is_whole : Df E t_is_whole "is_whole" ["thing"]
  d_is_natural : Df E t_is_natural "is_natural" ["thing"]
  d_lowest : Df E t_lowest "lowest" ["top", "bottom"]
  d_is_frac : Df E t_is_frac "is_frac" ["thing"]
  d_frac_of : Df E t_frac_of "frac_of" ["thing"]
  d_is_width : Df E t_is_width "is_width" ["thing"]
  d_is_text_thing : Df E t_is_text_thing "is_text_thing" ["thing"]
  d_is_float_thing : Df E t_is_float_thing "is_float_thing" ["thing"]
  d_checked_run : Df E t_checked_run "checked_run" ["run"]
  d_words_in : Df E t_words_in "words_in" ["things"]
  d_row_width : Df E t_row_width "row_width" ["words", "first", "upto"]
  d_row_height : Df E t_row_height "row_height" ["words", "first", "upto"]
  d_checked_room : Df E t_checked_room "checked_room" ["room"]
  d_check_number : Df E t_check_number "check_number" ["many"]
  d_is_room_for : Df E t_is_room_for "is_room_for" ["width", "room"]
  d_line_upto : Df E t_line_upto "line_upto" ["words", "first", "room"]
  d_begins_in : Df E t_begins_in "begins_in" ["words", "room"]
  d_spans_of : Df E t_spans_of "spans_of" ["words", "begins"]
  d_heights_in : Df E t_heights_in "heights_in" ["words", "room"]
  d_lines_in : Df E t_lines_in "lines_in" ["run", "room"]
  d_line_sizes : Df E t_line_sizes "line_sizes" ["run", "room"]
  d_height_in : Df E t_height_in "height_in" ["run", "room"]
  d_is_span : Df E t_is_span "is_span" ["words", "room", "thing", "first"]
  d_is_breaking : Df E t_is_breaking "is_breaking" ["run", "room", "thing"]
  d_is_chain : Df E t_is_chain "is_chain" ["run", "room", "thing"]
  d_chain_above : Df E t_chain_above "chain_above" ["run", "room", "many"]
  d__law_source : Df E t__law_source "_law_source" ["_law_script", "_law_turn"]
  d__law_draw : Df E t__law_draw "_law_draw" ["_law_draws", "_law_many"]
  d__law_pick : Df E t__law_pick "_law_pick" ["_law_draws", "_law_things"]
  d__law_same : Df E t__law_same "_law_same" ["_law_found", "_law_due"]
  d__law_loose : Df E t__law_loose "_law_loose" ["_law_draws", "_law_thing"]
  d__law_some_text : Df E t__law_some_text "_law_some_text" ["_law_draws", "_law_sizes"]
  d__law_some_float : Df E t__law_some_float "_law_some_float" ["_law_draws", "_law_most"]
  d__law_some_run : Df E t__law_some_run "_law_some_run" ["_law_draws", "_law_many", "_law_floats"]
  d__law_some_room : Df E t__law_some_room "_law_some_room" ["_law_draws", "_law_top"]
  d__law_is_float : Df E t__law_is_float "_law_is_float" ["_law_thing"]
  d__law_met_in : Df E t__law_met_in "_law_met_in" ["_law_run"]
  d__law_row : Df E t__law_row "_law_row" ["_law_words", "_law_first", "_law_upto"]
  d__law_lines : Df E t__law_lines "_law_lines" ["_law_words", "_law_room"]
  d__law_tall : Df E t__law_tall "_law_tall" ["_law_words", "_law_first", "_law_upto"]
  d__law_passed : Df E t__law_passed "_law_passed" ["_law_draws", "_law_room"]
  d__law_is_breaking : Df E t__law_is_breaking "_law_is_breaking" ["_law_words", "_law_room", "_law_thing"]
  d__law_is_chain : Df E t__law_is_chain "_law_is_chain" ["_law_words", "_law_room", "_law_thing"]
  d__law_fewest : Df E t__law_fewest "_law_fewest" ["_law_words", "_law_room"]
  d__law_some_breaking : Df E t__law_some_breaking "_law_some_breaking" ["_law_draws", "_law_words", "_law_room"]
  d__law_bent : Df E t__law_bent "_law_bent" ["_law_draws", "_law_rows"]
  d__law_room_right : Df E t__law_room_right "_law_room_right" ["_law_draws", "_law_run", "_law_words", "_law_room"]
  d_law : Df E t_law "law" ["_law_script"]
def signD : Str := "abcdefghijklmnopqrstuvwxyz0123456789-. "
structure Tc (E : En) : Prop extends Tx E where
  c_SIGNS : Cst E "SIGNS" (.str signD)
  c_SIDES : Cst E "SIDES" (.tup [.str "left", .str "right"])
end Law
set_option Elab.async false
set_option linter.all false
set_option maxRecDepth 100000
set_option maxHeartbeats 4000000
namespace Gh
open PySem PySem.Spec PyProof.Rows L2
section
variable {F : Fx} {ρ : List G} {s s1 s2 : Sx} {tg iter elt c t : Expr} {items : List D} {scope : Scope} {pos : Pos}
theorem Et.is {e : Expr} {x y : Bool} (h : Et F ρ s e x s1) (z : x = y) : Et F ρ s e y s1 := by rw [← z]; exact h
theorem Cp.is {op : CmpOp} {a b : Expr} {x y : Bool} (h : Cp F ρ s op a b x s1) (z : x = y) : Cp F ρ s op a b y s1 := by rw [← z]; exact h
/-- [elt for tg in iter], nothing drawn in the turns -/
theorem el_map (own : List (Str × Nat)) (f : D → D) (hc : F.X.calm = true) (hN : F.X.N.Nodup) (hi : Ei F ρ s tg iter items s1) (ok : BlkOk F.X.N F.X.env.scope scope own) (hl : items.length ≤ sizeLine)
    (h : ∀ (i : Nat) (d : D), items[i]? = some d → ∃ ρ2 js, (∀ c, Eg (F.blk scope c) tg d (gwipe ρ (own.map (·.2))) ρ2 js) ∧ (∀ j ∈ js, j ∈ own.map (·.2)) ∧ ∀ c, Ed (F.blk scope c) ρ2 s1 elt (f d) s1)
    (hs : ∀ x, foldedSetIterable iter F.X.env x = pure x := by intro _; rfl) : El F ρ s (.ListComp elt [⟨tg, iter, [], 0⟩] scope pos) (items.map f) s1 := by
  have z := el_comp (pos := pos) own hc hN (st := fun _ => s1) hi ok (Comp.map f hl h) hi.1 hs
  simp only [List.take_length] at z
  exact z
/-- [elt for tg in iter if t], nothing drawn in the turns -/
theorem el_filter (own : List (Str × Nat)) (f : D → D) (g : D → Bool) (hc : F.X.calm = true) (hN : F.X.N.Nodup) (hi : Ei F ρ s tg iter items s1) (ok : BlkOk F.X.N F.X.env.scope scope own) (hl : items.length ≤ sizeLine)
    (h : ∀ (i : Nat) (d : D), items[i]? = some d → ∃ ρ2 js, (∀ c, Eg (F.blk scope c) tg d (gwipe ρ (own.map (·.2))) ρ2 js) ∧ (∀ j ∈ js, j ∈ own.map (·.2)) ∧ (∀ c, Et (F.blk scope c) ρ2 s1 t (g d) s1) ∧ (g d = true → ∀ c, Ed (F.blk scope c) ρ2 s1 elt (f d) s1))
    (hs : ∀ x, foldedSetIterable iter F.X.env x = pure x := by intro _; rfl) : El F ρ s (.ListComp elt [⟨tg, iter, [t], 0⟩] scope pos) ((items.filter g).map f) s1 := by
  have z := el_comp (pos := pos) own hc hN (st := fun _ => s1) hi ok (Comp.filter f g hl h) hi.1 hs
  simp only [List.take_length] at z
  exact z
end
end Gh
namespace Law
open PySem PySem.Spec PyProof.Rows L2 Gh
variable {E : En} {s : Sx}
def isL : Kn → Bool := fun k => [Kn.list, .tuple].any (isK k)
def isW : Kn → Bool := fun k => isK k .int && !isK k .bool
theorem rn_is_list (T : Tx E) {x : D} {k : Kn} (hk : x.kind = some k) : Rn E 1 "is_list" [x] s (.bl (isL k)) s := by
  refine T.d_is_list.rn sc_is_list rfl rfl fun fa cdv A outer sh H0 EX S0 p hr => ?_
  conv => arg 2; whnf
  exact bk_cons (bs_ret (ed_isiT T.bf (ed_var 0 rfl (.inl rfl) rfl) hk (cns_cons (cn_list T.bf) (cns_cons (cn_tuple T.bf) cns_nil))) ⟨rfl, rfl⟩)
theorem rn_is_whole (T : Tx E) {x : D} {k : Kn} (hk : x.kind = some k) : Rn E 1 "is_whole" [x] s (.bl (isW k)) s := by
  refine T.d_is_whole.rn sc_is_whole rfl rfl fun fa cdv A outer sh H0 EX S0 p hr => ?_
  conv => arg 2; whnf
  exact bk_cons (bs_ret (ed_and (ed_isi T.bf (ed_var 0 rfl (.inl rfl) rfl) hk (cn_int T.bf)) fun _ => (ed_one (ed_not (ed_isi T.bf (ed_var 0 rfl (.inl rfl) rfl) hk (cn_bool T.bf))))) ⟨rfl, rfl⟩)
/-- an int from 0 on -/
def isN : D → Bool
  | .int i => decide (0 ≤ i)
  | _ => false
theorem isW_int {x : D} {k : Kn} (hk : x.kind = some k) : isW k = true → ∃ i, x = .int i := by
  cases x <;> cases hk <;> intro h <;> first | exact ⟨_, rfl⟩ | cases h
theorem rn_is_natural (T : Tx E) {x : D} {k : Kn} (hk : x.kind = some k) : Rn E 2 "is_natural" [x] s (.bl (isN x)) s := by
  refine T.d_is_natural.rn sc_is_natural rfl rfl fun fa cdv A outer sh H0 EX S0 p hr => ?_
  conv => arg 2; whnf
  refine bk_cons ?_
  cases e : isW k with
  | true =>
    obtain ⟨i, rfl⟩ := isW_int hk e
    refine bs_ret (ed_andT (ed_cl (ea_cons (ed_var 0 rfl (.inl rfl) rfl) ea_nil) (hr.mono (by decide)) ((rn_is_whole T hk).is (by rw [e]))) (ed_one (cp_ge (ed_var 0 rfl (.inl rfl) rfl) ed_int).ed)) ⟨rfl, rfl⟩
  | false =>
    have e2 : isN x = false := by cases x <;> cases hk <;> first | rfl | cases e
    refine bs_ret (ed_andF (ed_cl (ea_cons (ed_var 0 rfl (.inl rfl) rfl) ea_nil) (hr.mono (by decide)) ((rn_is_whole T hk).is (by rw [e])))) ⟨by rw [e2], rfl⟩
/-- the loop of Euclid, by the frames -/
theorem rn_lowestN (T : Tx E) {t : Int} {b : Nat} (hb : b ≠ 0) (hs : b < 2 ^ 8000) : Rn E 1 "lowest" [.int t, .int b] s (fr (mkRat t b)) s := by
  refine T.d_lowest.rn sc_lowest rfl rfl fun fa cdv A outer sh H0 EX S0 p hr => ?_
  conv => arg 2; whnf
  refine bk_cons (bs_par 2 3 rfl sc_lowest.nd rfl rfl (by decide) rfl rfl (ea_cons (ed_abs T.bf (ed_var 0 rfl (.inl rfl) rfl)) (ea_cons (ed_var 1 rfl (.inl rfl) rfl) ea_nil)) ?_)
  refine bk_cons (bs_while PassesOwn.never (fun ρ s' => s' = s ∧ ∃ x y : Nat, ρ = [.val (.int t), .val (.int b), .val (.int x), .val (.int y)] ∧ Nat.gcd x y = Nat.gcd t.natAbs b) (fun ρ _ => match ρ with | [_, _, _, .val (.int y)] => y.toNat | _ => 0) ⟨rfl, t.natAbs, b, rfl, rfl⟩ ?_)
  rintro ρ s' ⟨rfl, x, y, rfl, g⟩
  refine ⟨_, _, (cp_gt (ed_var 3 rfl (.inl rfl) rfl) ed_int).et, fun h => ?_, fun h => ?_⟩
  · have hy : (0 : Int) < y := of_decide_eq_true h
    refine bk_cons (bs_par 2 3 rfl sc_lowest.nd rfl rfl (by decide) rfl rfl (ea_cons (ed_var 3 rfl (.inl rfl) rfl) (ea_cons (ed_bin (ed_var 2 rfl (.inl rfl) rfl) (ed_var 3 rfl (.inl rfl) rfl) rfl hy) ea_nil)) (bk_nil ?_))
    refine ⟨⟨rfl, y, x % y, ?_, ?_⟩, ?_⟩
    · rfl
    · rw [← g]; exact (gcd_step x y (by omega)).symm
    · show ((x : Int) % (y : Int)).toNat < (y : Int).toNat
      have := Int.emod_lt_of_pos (x : Int) hy
      have := Int.emod_nonneg (x : Int) (by omega : (y : Int) ≠ 0)
      omega
  · have hy : y = 0 := by
      have h1 : ¬ ((0 : Int) < (y : Int)) := of_decide_eq_false h
      omega
    subst hy
    rw [Nat.gcd_zero_right] at g
    have hx : 0 < x := by
      rw [g]; exact Nat.gcd_pos_of_pos_right _ (by omega)
    have hx2 : x < 2 ^ 8000 := Nat.lt_of_le_of_lt (by rw [g]; exact Nat.gcd_le_right _ (by omega)) hs
    have hc : ∀ i : Int, CDivW i x := fun i => wide_div (by omega) (b := 8000) (by rw [Int.natAbs_natCast]; exact hx2) (by decide) (by decide)
    refine bk_cons (bs_ret (ed_tup (ea_cons (ed_bin (ed_var 0 rfl (.inl rfl) rfl) (ed_var 2 rfl (.inl rfl) rfl) rfl (hc t)) (ea_cons (ed_bin (ed_var 1 rfl (.inl rfl) rfl) (ed_var 2 rfl (.inl rfl) rfl) rfl (hc b)) ea_nil))) ⟨?_, rfl⟩)
    unfold fr
    rw [mk_num t b hb, mk_den t b hb, ← g]
theorem rn_lowest (T : Tx E) {t b : Int} (hb : 0 < b) (hs : b.natAbs < 2 ^ 8000) : Rn E 1 "lowest" [.int t, .int b] s (fr (mkRat t b.toNat)) s := by
  obtain ⟨n, rfl⟩ := Int.eq_ofNat_of_zero_le (Int.le_of_lt hb)
  exact rn_lowestN T (by omega) (by simpa using hs)
mutual
def dat : D → Bool
  | .lst xs => dats xs
  | .tup xs => dats xs
  | .mut => false
  | .ref _ => false
  | .ty _ => false
  | .scr _ => false
  | _ => true
def dats : List D → Bool
  | [] => true
  | x :: xs => dat x && dats xs
end
theorem dat_kind {x : D} (h : dat x = true) : ∃ k, x.kind = some k := by
  cases x <;> first | exact ⟨_, rfl⟩ | (unfold dat at h; cases h)
theorem dats_cons {x : D} {xs : List D} (h : dats (x :: xs) = true) : dat x = true ∧ dats xs = true := by
  unfold dats at h; exact Bool.and_eq_true_iff.mp h
theorem dats_mem {xs : List D} (h : dats xs = true) {x : D} (m : x ∈ xs) : dat x = true := by
  induction xs with
  | nil => cases m
  | cons y ys ih =>
    obtain ⟨h1, h2⟩ := dats_cons h
    rcases List.mem_cons.mp m with rfl | m
    · exact h1
    · exact ih h2 m
theorem dats_of {xs : List D} (h : ∀ x ∈ xs, dat x = true) : dats xs = true := by
  induction xs with
  | nil => unfold dats; rfl
  | cons y ys ih => unfold dats; rw [h y List.mem_cons_self, ih fun x m => h x (List.mem_cons_of_mem _ m)]; rfl
/-- its items, if it is a list or tuple -/
def items : D → Option (List D)
  | .lst xs => some xs
  | .tup xs => some xs
  | _ => none
theorem items_or {x : D} {xs : List D} (h : items x = some xs) : x = .lst xs ∨ x = .tup xs := by
  cases x <;> first | (cases h; exact .inl rfl) | (cases h; exact .inr rfl) | cases h
theorem items_dat {x : D} {xs : List D} (h : items x = some xs) (d : dat x = true) : dats xs = true := by
  cases x <;> first | (cases h; unfold dat at d; exact d) | cases h
theorem items_size {x : D} {xs : List D} (h : items x = some xs) : x.size = some xs.length := by
  cases x <;> first | (cases h; rfl) | cases h
theorem items_at {x : D} {xs : List D} (h : items x = some xs) (i : Int) : x.at i = atI xs i := by
  cases x <;> first | (cases h; rfl) | cases h
theorem isL_items {x : D} {k : Kn} (hk : x.kind = some k) (hd : dat x = true) : isL k = (items x).isSome := by
  cases x <;> first | (cases hk; rfl) | (unfold dat at hd; cases hd)
theorem isW_iff {x : D} {k : Kn} (hk : x.kind = some k) : isW k = (match x with | .int _ => true | _ => false) := by
  cases x <;> first | (cases hk; rfl) | cases hk
/-- a pair of ints, the second above 0 -/
def isFrL : List D → Bool
  | [.int _, .int b] => decide (0 < b)
  | _ => false
theorem isFrL_len {xs : List D} (h : ¬ xs.length = 2) : isFrL xs = false := by
  unfold isFrL
  split
  · exact absurd rfl h
  · rfl
def isFr (x : D) : Bool := match items x with
  | some xs => isFrL xs
  | none => false
theorem eqC_int (i : Int) : (D.int i).eqC := ⟨by unfold D.pure; rfl, by simp [D.py, SeqAt.shaped, PyData.canLay0, PyData.depth]⟩
theorem eqC_bl (b : Bool) : (D.bl b).eqC := ⟨by unfold D.pure; rfl, by simp [D.py, SeqAt.shaped, PyData.canLay0, PyData.depth]⟩
theorem eqC_non : D.non.eqC := ⟨by unfold D.pure; rfl, by simp [D.py, SeqAt.shaped, PyData.canLay0, PyData.depth]⟩
theorem eqb_int (i j : Int) : (D.int i).eqb (.int j) = decide (i = j) := by
  simp [D.eqb, D.py, PyData.eqv]
  rw [Bool.eq_iff_iff]; simp
theorem eqb_str (i j : Str) : (D.str i).eqb (.str j) = (i == j) := by simp [D.eqb, D.py, PyData.eqv]
theorem rn_is_frac (T : Tx E) {x : D} (hx : dat x = true) : Rn E 3 "is_frac" [x] s (.bl (isFr x)) s := by
  obtain ⟨k, hk⟩ := dat_kind hx
  refine T.d_is_frac.rn sc_is_frac rfl rfl fun fa cdv A outer sh H0 EX S0 p hr => ?_
  conv => arg 2; whnf
  refine bk_cons ?_
  have h1 := isL_items hk hx
  cases e : items x with
  | none =>
    rw [e] at h1
    refine bs_ret (ed_andF (ed_cl (ea_cons (ed_var 0 rfl (.inl rfl) rfl) ea_nil) (hr.mono (by decide)) ((rn_is_list T hk).is (by rw [h1]; rfl)))) ⟨by unfold isFr; rw [e], rfl⟩
  | some xs =>
    rw [e] at h1
    have hd := items_dat e hx
    have R1 : Rn E 1 "is_list" [x] s (.bl true) s := (rn_is_list T hk).is (by rw [h1]; rfl)
    by_cases hl : xs.length = 2
    · match xs, hl with
      | [u, v], _ =>
        obtain ⟨d1, d2⟩ := dats_cons hd
        obtain ⟨d2, _⟩ := dats_cons d2
        obtain ⟨k1, hk1⟩ := dat_kind d1
        obtain ⟨k2, hk2⟩ := dat_kind d2
        have i0 : x.at 0 = some u := by rw [items_at e]; rfl
        have i1 : x.at 1 = some v := by rw [items_at e]; rfl
        have w1 := isW_iff hk1
        have w2 := isW_iff hk2
        refine bs_ret (ed_andT (ed_cl (ea_cons (ed_var 0 rfl (.inl rfl) rfl) ea_nil) (hr.mono (by decide)) R1) (ed_andT ((Cp.ed (cp_eq hr (ed_len T.bf (ed_var 0 rfl (.inl rfl) rfl) (items_size e)) ed_int (eqC_int _) (eqC_int _))).is (y := .bl true) (by rw [eqb_int]; rfl)) ?_)) ⟨rfl, rfl⟩
        cases u with
        | int i =>
          refine ed_andT (ed_cl (ea_cons (ed_ix (ed_var 0 rfl (.inl rfl) rfl) ed_int i0) ea_nil) (hr.mono (by decide)) ((rn_is_whole T hk1).is (by rw [w1]))) ?_
          cases v with
          | int j => exact (ed_andT (ed_cl (ea_cons (ed_ix (ed_var 0 rfl (.inl rfl) rfl) ed_int i1) ea_nil) (hr.mono (by decide)) ((rn_is_whole T hk2).is (by rw [w2]))) (ed_one (Cp.ed (cp_gt (ed_ix (ed_var 0 rfl (.inl rfl) rfl) ed_int i1) ed_int)))).is (by unfold isFr; rw [e]; rfl)
          | _ => exact (ed_andF (ed_cl (ea_cons (ed_ix (ed_var 0 rfl (.inl rfl) rfl) ed_int i1) ea_nil) (hr.mono (by decide)) ((rn_is_whole T hk2).is (by rw [w2])))).is (by unfold isFr; rw [e]; rfl)
        | _ => exact (ed_andF (ed_cl (ea_cons (ed_ix (ed_var 0 rfl (.inl rfl) rfl) ed_int i0) ea_nil) (hr.mono (by decide)) ((rn_is_whole T hk1).is (by rw [w1])))).is (by unfold isFr; rw [e]; rfl)
    · refine bs_ret (ed_andT (ed_cl (ea_cons (ed_var 0 rfl (.inl rfl) rfl) ea_nil) (hr.mono (by decide)) R1) (ed_andF ((Cp.ed (cp_eq hr (ed_len T.bf (ed_var 0 rfl (.inl rfl) rfl) (items_size e)) ed_int (eqC_int _) (eqC_int _))).is (y := .bl false) (by rw [eqb_int]; exact congrArg D.bl (decide_eq_false (by omega)))))) ⟨?_, rfl⟩
      unfold isFr
      rw [e]
      exact congrArg D.bl (isFrL_len hl).symm
/-- the rational of a pair that is a fraction -/
def frq (x : D) : Rat := match items x with
  | some [.int t, .int b] => mkRat t b.toNat
  | _ => 0
theorem isFr_items {x : D} (h : isFr x = true) : ∃ t b, items x = some [.int t, .int b] ∧ 0 < b := by
  unfold isFr at h
  cases e : items x with
  | none => rw [e] at h; cases h
  | some xs =>
    rw [e] at h
    match xs, h with
    | [.int t, .int b], h => exact ⟨t, b, rfl, of_decide_eq_true h⟩
theorem rn_frac_of (T : Tx E) {x : D} (hx : isFr x = true) (hs : ∀ t b, items x = some [.int t, .int b] → b.natAbs < 2 ^ 8000) : Rn E 2 "frac_of" [x] s (fr (frq x)) s := by
  obtain ⟨t, b, e, hb⟩ := isFr_items hx
  refine T.d_frac_of.rn sc_frac_of rfl rfl fun fa cdv A outer sh H0 EX S0 p hr => ?_
  conv => arg 2; whnf
  have i0 : x.at 0 = some (.int t) := by rw [items_at e]; rfl
  have i1 : x.at 1 = some (.int b) := by rw [items_at e]; rfl
  refine bk_cons (bs_ret (ed_cl (ea_cons (ed_ix (ed_var 0 rfl (.inl rfl) rfl) ed_int i0) (ea_cons (ed_ix (ed_var 0 rfl (.inl rfl) rfl) ed_int i1) ea_nil)) (hr.mono (by decide)) (rn_lowest T hb (hs t b e))) ⟨?_, rfl⟩)
  unfold frq; rw [e]
/-- a fraction from 0 on -/
def topGe : D → Bool := fun x => match items x with
  | some (.int t :: _) => decide (0 ≤ t)
  | _ => false
def isWd (x : D) : Bool := isFr x && topGe x
theorem rn_is_width (T : Tx E) {x : D} (hx : dat x = true) : Rn E 4 "is_width" [x] s (.bl (isWd x)) s := by
  refine T.d_is_width.rn sc_is_width rfl rfl fun fa cdv A outer sh H0 EX S0 p hr => ?_
  conv => arg 2; whnf
  refine bk_cons ?_
  cases h : isFr x with
  | true =>
    obtain ⟨t, b, e, hb⟩ := isFr_items h
    have i0 : x.at 0 = some (.int t) := by rw [items_at e]; rfl
    refine bs_ret (ed_andT (ed_cl (ea_cons (ed_var 0 rfl (.inl rfl) rfl) ea_nil) (hr.mono (by decide)) ((rn_is_frac T hx).is (by rw [h]))) (ed_one (Cp.ed (cp_ge (ed_ix (ed_var 0 rfl (.inl rfl) rfl) ed_int i0) ed_int)))) ⟨?_, rfl⟩
    unfold isWd topGe
    rw [h, e]; rfl
  | false =>
    exact bs_ret (ed_andF (ed_cl (ea_cons (ed_var 0 rfl (.inl rfl) rfl) ea_nil) (hr.mono (by decide)) ((rn_is_frac T hx).is (by rw [h])))) ⟨by unfold isWd; rw [h]; rfl, rfl⟩
/-! forms -/
/-- a stream of draws with at most n drawn -/
def St (n : Nat) (s : Sx) : Prop := ∃ c z m : Nat, s = some [(c : Int), (z : Int), (m : Int)] ∧ z < 2 ^ 31 ∧ m ≤ n
theorem St.mono {m n : Nat} (h : St m s) (l : m ≤ n) : St n s := by
  obtain ⟨c, z, k, e, h1, h2⟩ := h
  exact ⟨c, z, k, e, h1, Nat.le_trans h2 l⟩
theorem St.some {n : Nat} (h : St n s) : s.isSome = true := by
  obtain ⟨c, z, k, e, _⟩ := h
  rw [e]; rfl
theorem mulS {a b : Int} (ha : a.natAbs < 2 ^ 100) (hb : b.natAbs < 2 ^ 100) : CMulW a b := wide_mul ha hb (by decide) (by decide) (by decide)
open Classical in
theorem trace {α : Type} {R : α → α → Prop} {G : Nat → α → Prop} {N : Nat} (x0 : α) (h0 : G 0 x0) (hs : ∀ i x, i < N → G i x → ∃ y, R x y ∧ G (i + 1) y) :
    ∃ tr : Nat → α, tr 0 = x0 ∧ (∀ i, i ≤ N → G i (tr i)) ∧ ∀ i, i < N → R (tr i) (tr (i + 1)) := by
  let nx : Nat → α → α := fun i x => if h : i < N ∧ G i x then Classical.choose (hs i x h.1 h.2) else x
  have hn : ∀ i x, i < N → G i x → R x (nx i x) ∧ G (i + 1) (nx i x) := fun i x h1 h2 => by
    have e : nx i x = Classical.choose (hs i x h1 h2) := dif_pos ⟨h1, h2⟩
    rw [e]
    exact Classical.choose_spec (hs i x h1 h2)
  let tr : Nat → α := fun n => Nat.rec x0 (fun i x => nx i x) n
  have hg : ∀ i, i ≤ N → G i (tr i) := fun i => by
    induction i with
    | zero => exact fun _ => h0
    | succ i ih => exact fun h => (hn i (tr i) (by omega) (ih (by omega))).2
  exact ⟨tr, rfl, hg, fun i h => (hn i (tr i) h (hg i (by omega))).1⟩
theorem cut_to {α : Type} (xs : List α) (p : Nat) (h : p ≤ xs.length) : Gh.cutD xs none (some (p : Int)) = xs.take p := by
  unfold Gh.cutD
  rw [HT.sIx_none, HT.sIx_nat, List.drop_zero, Nat.sub_zero, Nat.min_eq_left h]
theorem cut_from {α : Type} (xs : List α) (p : Nat) (h : p ≤ xs.length) : Gh.cutD xs (some (p : Int)) none = xs.drop p := by
  unfold Gh.cutD
  rw [HT.sIx_none, HT.sIx_nat, Nat.min_eq_left h, List.take_of_length_le (by rw [List.length_drop]; omega)]
theorem cut_one {α : Type} (xs : List α) (p : Nat) (h : p ≤ xs.length) : Gh.cutD xs (some (p : Int)) (some ((p : Int) + 1)) = (xs.drop p).take 1 := by
  have e : (p : Int) + 1 = ((p + 1 : Nat) : Int) := by omega
  unfold Gh.cutD
  rw [e, HT.sIx_nat, HT.sIx_nat, Nat.min_eq_left h]
  rcases Nat.lt_or_ge p xs.length with z | z
  · rw [Nat.min_eq_left (by omega), show p + 1 - p = 1 by omega]
  · rw [Nat.min_eq_right (by omega), List.drop_of_length_le (by omega)]; simp
end Law
set_option Elab.async false
set_option linter.all false
set_option maxRecDepth 100000
set_option maxHeartbeats 4000000
namespace Law
open PySem PySem.Spec PyProof.Rows L2 Gh Rr
variable {E : En} {s : Sx}
def codes : List Nat := signD.cps.toList
theorem codes_eq : codes = [97, 98, 99, 100, 101, 102, 103, 104, 105, 106, 107, 108, 109, 110, 111, 112, 113, 114, 115, 116, 117, 118, 119, 120, 121, 122, 48, 49, 50, 51, 52, 53, 54, 55, 56, 57, 45, 46, 32] := by decide +kernel
theorem codes_lt {c : Nat} (h : c ∈ codes) : c < 128 := by
  rw [codes_eq] at h
  simp only [List.mem_cons, List.not_mem_nil, or_false] at h
  omega
def sideD (l : Bool) : Str := if l then "left" else "right"
def txt (t : List Nat) : Str := ⟨t.toArray⟩
def fs : Th → List D
  | .text z t => [.int z, .str (txt t)]
  | .flt l w h => [.str (sideD l), .int w, .int h]
def thD (t : Th) : D := .tup (fs t)
def wdD (w : Wd) : D := .tup [.tup [.int w.i, .int w.p], .int w.w, .int w.h, .int w.g]
/-- a thing in good order -/
def Gd (t : Th) : Prop := t.Sm 5 16 ∧ ∀ c ∈ t.cs, c ∈ codes
def Ls (x : D) (t : Th) : Prop := x = .lst (fs t) ∨ x = .tup (fs t)
structure LsR (x : D) (ds : List D) (r : List Th) : Prop where
  or : x = .lst ds ∨ x = .tup ds
  len : ds.length = r.length
  at_ : ∀ (i : Nat) (d : D) (t : Th), ds[i]? = some d → r[i]? = some t → Ls d t
theorem LsR.get {x : D} {ds : List D} {r : List Th} (h : LsR x ds r) {i : Nat} {d : D} (e : ds[i]? = some d) : ∃ t, r[i]? = some t ∧ Ls d t := by
  obtain ⟨hi, _⟩ := List.getElem?_eq_some_iff.mp e
  have e2 : r[i]? = some (r[i]'(by rw [← h.len]; exact hi)) := List.getElem?_eq_getElem _
  exact ⟨_, e2, h.at_ i d _ e e2⟩
theorem lsR_own (r : List Th) : LsR (.lst (r.map thD)) (r.map thD) r := ⟨.inl rfl, by simp, fun i d t h1 h2 => by
  rw [List.getElem?_map, h2] at h1
  cases h1
  exact .inr rfl⟩
theorem signs_txt (t : List Nat) : sgns (txt t) = t.map fun c => D.str ⟨#[c]⟩ := by simp [sgns, txt]
theorem enumD_inv {xs : List D} {i : Nat} {d : D} (h : (enumD xs)[i]? = some d) : ∃ y, xs[i]? = some y ∧ d = .tup [.int i, y] := by
  have hi : i < xs.length := by
    have := (List.getElem?_eq_some_iff.mp h).1
    rwa [enumD_length] at this
  have e : xs[i]? = some xs[i] := List.getElem?_eq_getElem hi
  rw [enumD_get e] at h
  cases h
  exact ⟨_, e, rfl⟩
theorem strC {c : Nat} (h : c < 128) : (D.str ⟨#[c]⟩).eqC := (eqD.str (n := 1) (by simp [PyData.strOk]; omega)).eqC
theorem strL {i : Str} (h : PyData.strOk i = true := by decide +kernel) : (D.str i).eqC := (eqD.str (n := 1) h).eqC
theorem rn_isl (T : Tc E) {x : D} {k : Kn} (hk : x.kind = some k) (h : isL k = true) : Rn E 1 "is_list" [x] s (.bl true) s := (rn_is_list T.toTx hk).is (by rw [h])
theorem rn_isw (T : Tc E) {x : D} {k : Kn} (hk : x.kind = some k) (h : isW k = true) : Rn E 1 "is_whole" [x] s (.bl true) s := (rn_is_whole T.toTx hk).is (by rw [h])
theorem rn_isn (T : Tc E) {i : Int} (h : 0 ≤ i) : Rn E 2 "is_natural" [.int i] s (.bl true) s := (rn_is_natural T.toTx rfl).is (congrArg D.bl (decide_eq_true h))
theorem small {n : Nat} (h : n ≤ 1000) : n ≤ sizeLine := Nat.le_trans h (by decide)
theorem rn_text_yes (T : Tc E) {x : D} {z : Nat} {t : List Nat} (h : Ls x (.text z t)) (g : Gd (.text z t)) : Rn E 3 "is_text_thing" [x] s (.bl true) s := by
  obtain ⟨⟨hz, _, hl⟩, hc⟩ := g
  rcases h with rfl | rfl <;> refine T.d_is_text_thing.rn sc_is_text_thing rfl rfl fun fa cdv A outer sh H0 EX S0 p hr => ?_ <;> conv => arg 2; whnf
  all_goals
    refine bk_cons (bs_ifF (Ew.et (ew_orF (et_not (k := true) (et_val (ed_cl (ea_cons (ed_var 0 rfl (.inl rfl) rfl) ea_nil) (hr.mono (by decide)) (rn_isl T rfl rfl)))) (ew_orF (Cp.et (Cp.is (cp_ne hr (ed_len T.bf (ed_var 0 rfl (.inl rfl) rfl) rfl) ed_int (eqC_int _) (eqC_int _)) (by rw [eqb_int]; rfl))) (ew_orF (et_not (k := true) (et_val (ed_cl (ea_cons (ed_ix (ed_var 0 rfl (.inl rfl) rfl) ed_int rfl) ea_nil) (hr.mono (by decide)) (rn_isw T rfl rfl)))) (ew_or1 (Cp.et (Cp.is (cp_lt (ed_ix (ed_var 0 rfl (.inl rfl) rfl) ed_int rfl) ed_int) (decide_eq_false (by omega)))))))) ) (bk_nil ?_))
    refine bk_cons (bs_ret (ed_andT (Ed.is (ed_isi T.bf (ed_ix (ed_var 0 rfl (.inl rfl) rfl) ed_int rfl) rfl (cn_str T.bf)) rfl) (ed_one (Ed.is (ed_all T.bf rfl (bs := t.map fun _ => true) (Ed.is (El.ed (el_map [("sign", 1)] (fun _ => .bl true) rfl sc_is_text_thing.nd (ei_str (ed_ix (ed_var 0 rfl (.inl rfl) rfl) ed_int rfl)) (blkOk_by rfl) (by rw [signs_txt, List.length_map]; exact small (by omega)) (fun i d hi => by
      rw [signs_txt, List.getElem?_map] at hi
      cases e : t[i]? with
      | none => rw [e] at hi; cases hi
      | some c =>
        rw [e] at hi; cases hi
        exact ⟨_, _, fun b => eg_name 1 sc_is_text_thing.nd rfl (.inl rfl), by decide, fun b => Cp.ed (Cp.is (cp_inSign (ed_var 1 rfl (.inl rfl) rfl) (ed_cst T.c_SIGNS)) (decide_eq_true (hc c (List.mem_of_getElem? e))))⟩))) (by rw [signs_txt, List.map_map, List.map_map]; rfl))) (congrArg D.bl (by simp))))) ⟨rfl, rfl⟩)
theorem rn_text_no (T : Tc E) {x : D} {l : Bool} {w h : Nat} (hx : Ls x (.flt l w h)) : Rn E 3 "is_text_thing" [x] s (.bl false) s := by
  rcases hx with rfl | rfl <;> refine T.d_is_text_thing.rn sc_is_text_thing rfl rfl fun fa cdv A outer sh H0 EX S0 p hr => ?_ <;> conv => arg 2; whnf
  all_goals
    refine bk_cons (bs_ifT (Ew.et (ew_orF (et_not (k := true) (et_val (ed_cl (ea_cons (ed_var 0 rfl (.inl rfl) rfl) ea_nil) (hr.mono (by decide)) (rn_isl T rfl rfl)))) (ew_orT (Cp.et (Cp.is (cp_ne hr (ed_len T.bf (ed_var 0 rfl (.inl rfl) rfl) rfl) ed_int (eqC_int _) (eqC_int _)) (by rw [eqb_int]; rfl)))))) ?_)
    exact bk_cons (bs_ret ed_bl ⟨rfl, rfl⟩)
theorem rn_float_yes (T : Tc E) {x : D} {l : Bool} {w h : Nat} (hx : Ls x (.flt l w h)) : Rn E 3 "is_float_thing" [x] s (.bl true) s := by
  rcases hx with rfl | rfl <;> refine T.d_is_float_thing.rn sc_is_float_thing rfl rfl fun fa cdv A outer sh H0 EX S0 p hr => ?_ <;> conv => arg 2; whnf
  all_goals
    refine bk_cons (bs_ifF (Ew.et (ew_orF (et_not (k := true) (et_val (ed_cl (ea_cons (ed_var 0 rfl (.inl rfl) rfl) ea_nil) (hr.mono (by decide)) (rn_isl T rfl rfl)))) (ew_orF (Cp.et (Cp.is (cp_ne hr (ed_len T.bf (ed_var 0 rfl (.inl rfl) rfl) rfl) ed_int (eqC_int _) (eqC_int _)) (by rw [eqb_int]; rfl))) (ew_orF (et_not (k := true) (et_val (Ed.is (ed_isi T.bf (ed_ix (ed_var 0 rfl (.inl rfl) rfl) ed_int rfl) rfl (cn_str T.bf)) rfl))) (ew_or1 (Cp.et (Cp.is (cp_notIn (ed_ix (ed_var 0 rfl (.inl rfl) rfl) ed_int rfl) (ed_cst T.c_SIDES) (.inr rfl) rfl rfl) (by cases l <;> decide +kernel)))))))) (bk_nil ?_))
    refine bk_cons (bs_ret (ed_andT (ed_cl (ea_cons (ed_ix (ed_var 0 rfl (.inl rfl) rfl) ed_int rfl) ea_nil) (hr.mono (by decide)) (rn_isn T (by omega))) (ed_one (ed_cl (ea_cons (ed_ix (ed_var 0 rfl (.inl rfl) rfl) ed_int rfl) ea_nil) (hr.mono (by decide)) (rn_isn T (by omega))))) ⟨rfl, rfl⟩)
def asT : D → D
  | .lst xs => .tup xs
  | x => x
theorem asT_ls {x : D} {t : Th} (h : Ls x t) : asT x = thD t := by rcases h with rfl | rfl <;> rfl
theorem rn_checked_run (T : Tc E) {x : D} {ds : List D} {r : List Th} (h : LsR x ds r) (g : ∀ t ∈ r, Gd t) (hl : r.length ≤ 1000) : Rn E 4 "checked_run" [x] s (.lst (r.map thD)) s := by
  have hk : ∃ k, x.kind = some k ∧ isL k = true := by rcases h.or with rfl | rfl <;> exact ⟨_, rfl, rfl⟩
  obtain ⟨k, hk, hL⟩ := hk
  refine T.d_checked_run.rn sc_checked_run rfl rfl fun fa cdv A outer sh H0 EX S0 p hr => ?_
  conv => arg 2; whnf
  refine bk_cons (bs_ifF (et_not (k := true) (et_val (ed_cl (ea_cons (ed_var 0 rfl (.inl rfl) rfl) ea_nil) (hr.mono (by decide)) (rn_isl T hk hL)))) (bk_nil ?_))
  refine bk_cons (bs_for PassesOwn.never rfl (ei_enumA T.bf (ed_var 0 rfl (.inl rfl) rfl) h.or) (fun i ρ s' => s' = s ∧ ∃ g1 g2, ρ = [.val x, g1, g2]) ⟨rfl, _, _, rfl⟩ ?_ ?_)
  · rintro i d ρ' s' hi ⟨rfl, g1, g2, rfl⟩
    obtain ⟨y, hy, rfl⟩ := enumD_inv hi
    obtain ⟨t, ht, hls⟩ := h.get hy
    have gt := g t (List.mem_of_getElem? ht)
    refine ⟨_, _, eg_tup rfl (egs_cons (eg_name 1 sc_checked_run.nd rfl (.inl rfl)) (egs_cons (eg_name 2 sc_checked_run.nd rfl (.inl rfl)) egs_nil)), ?_⟩
    cases t with
    | text z t => exact bk_cons (bs_ifF (Ew.et (ew_andF (et_not (k := true) (et_val (ed_cl (ea_cons (ed_var 2 rfl (.inl rfl) rfl) ea_nil) (hr.mono (by decide)) (rn_text_yes T hls gt)))))) (bk_nil (bk_nil ⟨rfl, _, _, rfl⟩)))
    | flt l w h => exact bk_cons (bs_ifF (Ew.et (ew_andT (et_not (k := false) (et_val (ed_cl (ea_cons (ed_var 2 rfl (.inl rfl) rfl) ea_nil) (hr.mono (by decide)) (rn_text_no T hls)))) (ew_and1 (et_not (k := true) (et_val (ed_cl (ea_cons (ed_var 2 rfl (.inl rfl) rfl) ea_nil) (hr.mono (by decide)) (rn_float_yes T hls))))))) (bk_nil (bk_nil ⟨rfl, _, _, rfl⟩)))
  · rintro ρ' s' ⟨rfl, g1, g2, rfl⟩
    refine bk_cons (bs_ret (El.ed (el_map [("thing", 2)] asT rfl sc_checked_run.nd (ei_seq (ed_var 0 rfl (.inl rfl) rfl) h.or) (blkOk_by rfl) (by rw [h.len]; exact small hl) (fun i d hi => ?_))) ⟨?_, rfl⟩)
    · obtain ⟨t, ht, hls⟩ := h.get hi
      refine ⟨_, _, fun c => eg_name 2 sc_checked_run.nd rfl (.inl rfl), by decide, fun c => ?_⟩
      rcases hls with rfl | rfl
      · exact ed_tupleOf T.bf (ed_var 2 rfl (.inl rfl) rfl) (.inl rfl)
      · exact ed_tupleOf T.bf (ed_var 2 rfl (.inl rfl) rfl) (.inr rfl)
    · congr 1
      refine List.ext_getElem? fun i => ?_
      rw [List.getElem?_map, List.getElem?_map]
      cases e : ds[i]? with
      | none =>
        have : r[i]? = none := by
          rw [List.getElem?_eq_none_iff] at e ⊢
          rw [← h.len]; exact e
        rw [this]; rfl
      | some d =>
        obtain ⟨t, ht, hls⟩ := h.get e
        rw [ht]
        exact congrArg some (asT_ls hls)
end Law
set_option Elab.async false
set_option linter.all false
set_option maxRecDepth 100000
set_option maxHeartbeats 4000000
namespace Law
open PySem PySem.Spec PyProof.Rows L2 Gh Rr
variable {E : En} {s : Sx}
theorem eqb_blank (c : Nat) : (D.str ⟨#[c]⟩).eqb (.str " ") = decide (c = 32) := by
  rw [eqb_str]
  by_cases h : c = 32
  · subst h; rfl
  · rw [decide_eq_false h]
    have e : (" " : Str) = ⟨#[32]⟩ := by decide +kernel
    rw [e]
    exact beq_false_of_ne fun z => h (by injection z with z; simpa using z)
theorem lst_nil (xs : List D) : (D.lst xs).eqb (.lst []) = xs.isEmpty := by
  rw [lst_eqb]
  cases xs <;> simp [eqbs]
theorem wd_eqD (w : Wd) : eqD 2 (wdD w) := (eqDs.cons (n := 1) ((eqDs.cons (n := 0) (.int _) (.cons (.int _) .nil)).tup) (.cons (.int _) (.cons (.int _) (.cons (.int _) .nil)))).tup
theorem wds_eqC (ws : List Wd) : (D.lst (ws.map wdD)).eqC := (eqDs.of (n := 2) fun x m => by
  obtain ⟨w, _, rfl⟩ := List.mem_map.mp m
  exact wd_eqD w).lst.eqC
theorem nil_eqC : (D.lst []).eqC := (eqDs.nil (n := 1)).lst.eqC
theorem ixN_last {n : Nat} (h : 0 < n) : ixN n (-1) = some (n - 1) := by
  unfold ixN
  rw [if_neg (by decide), if_pos (by omega)]
  congr 1; omega
theorem atI_last {α : Type} {xs : List α} {x : α} (h : xs.getLast? = some x) : atI xs (-1) = some x := by
  have hn : xs ≠ [] := by intro z; subst z; simp at h
  unfold atI
  rw [ixN_last (List.length_pos_iff.mpr hn)]
  rw [List.getLast?_eq_getElem?] at h
  exact h
theorem bump_map {l : List Wd} {x : Wd} (h : l.getLast? = some x) (z : Nat) : (Rr.bump l z).map wdD = (l.map wdD).set (l.length - 1) (wdD { x with w := x.w + z, h := max x.h (2 * z) }) := by
  unfold Rr.bump
  rw [h]
  simp [List.map_set]
theorem last_of {l : List Wd} (h : l ≠ []) : ∃ x, l.getLast? = some x := ⟨_, List.getLast?_eq_some_getLast h⟩
theorem isEmpty_map {l : List Wd} : (l.map wdD).isEmpty = decide (l = []) := by cases l <;> simp
abbrev wfr (x : D) (W : Ws) : List G := [.val x, .own (W.found.map wdD), .val (.int W.gap), .val (.bl W.opn)]
theorem rn_words_in (T : Tc E) {r : List Th} (g : ∀ t ∈ r, Gd t) (hl : r.length ≤ 10) : Rn E 2 "words_in" [.lst (r.map thD)] s (.lst ((words r).map wdD)) s := by
  refine T.d_words_in.rn sc_words_in rfl rfl fun fa cdv A outer sh H0 EX S0 p hr => ?_
  conv => arg 2; whnf
  refine bk_cons (bs_par3G 1 2 3 rfl sc_words_in.nd rfl rfl rfl (by decide) (by decide) (by decide) rfl rfl rfl (eag_own (el_lst ea_nil) (eag_val ed_int (eag_val ed_bl eag_nil))) ?_)
  refine bk_cons (bs_for PassesOwn.never rfl (ei_enum T.bf (ed_var 0 rfl (.inl rfl) rfl)) (fun i ρ s' => s' = s ∧ ∃ gs, gs.length = 9 ∧ ρ = wfr (.lst (r.map thD)) (scan r i) ++ gs) ⟨rfl, _, rfl, rfl⟩ ?_ ?_)
  · rintro i d ρ' s' hi ⟨rfl, gs, hgs, rfl⟩
    obtain ⟨y, hy, rfl⟩ := enumD_inv hi
    rw [List.getElem?_map] at hy
    cases ht : r[i]? with
    | none => rw [ht] at hy; cases hy
    | some t =>
    rw [ht] at hy; cases hy
    have gt := g t (List.mem_of_getElem? ht)
    have hir : i < r.length := (List.getElem?_eq_some_iff.mp ht).1
    have okS := scan_ok (m := 5) (l := 16) (fun t m => (g t m).1) i (by omega)
    have es := scan_succ ht
    match gs, hgs with
    | [g4, g5, g6, g7, g8, g9, g10, g11, g12], _ =>
    refine ⟨_, _, eg_tup rfl (egs_cons (eg_name 4 sc_words_in.nd rfl (.inl rfl)) (egs_cons (eg_name 5 sc_words_in.nd rfl (.inl rfl)) egs_nil)), ?_⟩
    cases t with
    | flt l w h =>
      refine bk_cons (bs_for PassesOwn.never rfl (ei_enumS (z := "") T.bf (ed_ifF (Cp.et (Cp.is (cp_eq hr (ed_len T.bf (ed_var 5 rfl (.inl rfl) rfl) rfl) ed_int (eqC_int _) (eqC_int _)) (by rw [eqb_int]; rfl))) ed_str)) (fun _ ρ s1 => s1 = s' ∧ ∃ gs, gs.length = 9 ∧ ρ = wfr (.lst (r.map thD)) (scan r i) ++ gs) ⟨rfl, _, rfl, rfl⟩ (fun j d ρ s1 hj => by
        have : (enumD (sgns "")) = [] := by decide +kernel
        rw [this] at hj; cases hj) ?_)
      rintro ρ' s1 ⟨rfl, gs, hgs, rfl⟩
      refine bk_nil ⟨rfl, gs, hgs, ?_⟩
      rw [es]; rfl
    | text z t =>
      obtain ⟨⟨hz0, hz5, hl16⟩, hcs⟩ := gt
      refine bk_cons (bs_for PassesOwn.never rfl (ei_enumS (z := txt t) T.bf (ed_ifT (Cp.et (Cp.is (cp_eq hr (ed_len T.bf (ed_var 5 rfl (.inl rfl) rfl) rfl) ed_int (eqC_int _) (eqC_int _)) (by rw [eqb_int]; rfl))) (ed_ix (ed_var 5 rfl (.inl rfl) rfl) ed_int rfl))) (fun j ρ s1 => s1 = s' ∧ ∃ gs, gs.length = 7 ∧ ρ = wfr (.lst (r.map thD)) (iter (fun p s => s.sign i p z (t.getD p 0)) (scan r i) j) ++ [.val (.int i), .val (thD (.text z t))] ++ gs) ⟨rfl, _, rfl, rfl⟩ ?_ ?_)
      · rintro j d ρ' s1 hj ⟨rfl, gs, hgs, rfl⟩
        obtain ⟨y, hy, rfl⟩ := enumD_inv hj
        rw [signs_txt, List.getElem?_map] at hy
        cases hc : t[j]? with
        | none => rw [hc] at hy; cases hy
        | some c =>
        rw [hc] at hy; cases hy
        have hjt : j < t.length := (List.getElem?_eq_some_iff.mp hc).1
        have c128 := codes_lt (hcs c (List.mem_of_getElem? hc))
        have okW := sign_ok (i := i) okS (t := .text z t) (m := 5) (l := 16) ⟨hz0, hz5, hl16⟩ j (Nat.le_of_lt hjt)
        have egd : t.getD j 0 = c := by rw [List.getD_eq_getElem?_getD, hc]; rfl
        have ew : iter (fun p s => s.sign i p z (t.getD p 0)) (scan r i) (j + 1) = (iter (fun p s => s.sign i p z (t.getD p 0)) (scan r i) j).sign i j z c := by
          show Ws.sign i j z (t.getD j 0) _ = _
          rw [egd]
        rw [ew]
        generalize hW : iter (fun p s => s.sign i p z (t.getD p 0)) (scan r i) j = W
        have okW : W.Ok (5 * 16 * i + 5 * j) := by rw [← hW]; exact okW
        clear hW ew
        match gs, hgs with
        | [g6, g7, g8, g9, g10, g11, g12], _ =>
        refine ⟨_, _, eg_tup rfl (egs_cons (eg_name 6 sc_words_in.nd rfl (.inl rfl)) (egs_cons (eg_name 7 sc_words_in.nd rfl (.inl rfl)) egs_nil)), ?_⟩
        refine bk_cons (bs_set 8 sc_words_in.nd rfl (.inl rfl) (ed_ix (ed_var 5 rfl (.inl rfl) rfl) ed_int rfl) ?_)
        by_cases h32 : c = 32
        · have e2 : W.sign i j z c = ⟨W.found, if W.gap = 0 ∧ W.found ≠ [] then z else W.gap, false⟩ := if_pos h32
          rw [e2]
          refine bk_cons (bs_ifT (Cp.et (Cp.is (cp_eq hr (ed_var 7 rfl (.inl rfl) rfl) ed_str (strC c128) strL) (by rw [eqb_blank, decide_eq_true h32]))) ?_)
          refine bk_cons (bs_set 2 (d := .int ((if W.gap = 0 ∧ W.found ≠ [] then z else W.gap : Nat) : Int)) (s1 := s1) sc_words_in.nd rfl (.inl rfl) ?_ ?_)
          · by_cases hg : W.gap = 0
            · by_cases hf : W.found = []
              · rw [if_neg (by simp [hf])]
                exact ed_ifF (Ew.et (ew_andT (Cp.et (Cp.is (cp_eq hr (ed_var 2 rfl (.inl rfl) rfl) ed_int (eqC_int _) (eqC_int _)) (by rw [eqb_int, decide_eq_true (by omega)]))) (ew_and1 (Cp.et (Cp.is (cp_neV hr (ev_own 1 rfl (.inl rfl) rfl) (El.ev (el_lst ea_nil)) (wds_eqC _) nil_eqC) (by rw [lst_nil, isEmpty_map, decide_eq_true hf]; rfl)))))) (ed_var 2 rfl (.inl rfl) rfl)
              · rw [if_pos ⟨hg, hf⟩]
                exact ed_ifT (Ew.et (ew_andT (Cp.et (Cp.is (cp_eq hr (ed_var 2 rfl (.inl rfl) rfl) ed_int (eqC_int _) (eqC_int _)) (by rw [eqb_int, decide_eq_true (by omega)]))) (ew_and1 (Cp.et (Cp.is (cp_neV hr (ev_own 1 rfl (.inl rfl) rfl) (El.ev (el_lst ea_nil)) (wds_eqC _) nil_eqC) (by rw [lst_nil, isEmpty_map, decide_eq_false hf]; rfl)))))) (ed_var 8 rfl (.inl rfl) rfl)
            · rw [if_neg (by omega)]
              exact ed_ifF (Ew.et (ew_andF (Cp.et (Cp.is (cp_eq hr (ed_var 2 rfl (.inl rfl) rfl) ed_int (eqC_int _) (eqC_int _)) (by rw [eqb_int, decide_eq_false (by omega)]))))) (ed_var 2 rfl (.inl rfl) rfl)
          · exact bk_cons (bs_set 3 sc_words_in.nd rfl (.inl rfl) ed_bl (bk_nil (bk_nil ⟨rfl, [_, _, _, _, _, _, _], rfl, rfl⟩)))
        · refine bk_cons (bs_ifF (Cp.et (Cp.is (cp_eq hr (ed_var 7 rfl (.inl rfl) rfl) ed_str (strC c128) strL) (by rw [eqb_blank, decide_eq_false h32]))) ?_)
          obtain ⟨fd, gp, op⟩ := W
          cases op with
          | true =>
            have e2 : Ws.sign i j z c ⟨fd, gp, true⟩ = ⟨Rr.bump fd z, gp, true⟩ := by unfold Ws.sign; rw [if_neg h32]; rfl
            rw [e2]
            obtain ⟨x, hx⟩ := last_of (okW.opn rfl)
            have hlen : 0 < fd.length := List.length_pos_iff.mpr (okW.opn rfl)
            have hx2 : (fd.map wdD).getLast? = some (wdD x) := by rw [List.getLast?_map, hx]; rfl
            refine bk_cons (bs_ifT (et_val (ed_var 3 rfl (.inl rfl) rfl)) ?_)
            refine bk_cons (bs_asg (ed_ixV (ev_own 1 rfl (.inl rfl) rfl) (ed_neg ed_int) (atI_last hx2)) (eg_tup rfl (egs_cons (eg_name 9 sc_words_in.nd rfl (.inl rfl)) (egs_cons (eg_name 10 sc_words_in.nd rfl (.inl rfl)) (egs_cons (eg_name 11 sc_words_in.nd rfl (.inl rfl)) (egs_cons (eg_name 12 sc_words_in.nd rfl (.inl rfl)) egs_nil))))) ?_)
            refine bk_cons (bs_asgM (d := wdD { x with w := x.w + z, h := max x.h (2 * z) }) (Ed.is (ed_tup (ea_cons (ed_var 9 rfl (.inl rfl) rfl) (ea_cons (ed_bin (ed_var 10 rfl (.inl rfl) rfl) (ed_var 8 rfl (.inl rfl) rfl) rfl trivial) (ea_cons (ed_maxL (ns := [(x.h : Int), 2 * (z : Int)]) (m := ((max x.h (2 * z) : Nat) : Int)) T.bf rfl (El.ed (el_lst (ea_cons (ed_var 11 rfl (.inl rfl) rfl) (ea_cons (ed_bin ed_int (ed_var 8 rfl (.inl rfl) rfl) rfl (mulS (by decide) (by omega))) ea_nil)))) (by simp; omega) (by simp; omega)) (ea_cons (ed_var 12 rfl (.inl rfl) rfl) ea_nil))))) (by simp [wdD])) (egm_sub 1 (j := fd.length - 1) rfl (.inl rfl) rfl (ed_neg ed_int) (by rw [List.length_map]; exact ixN_last hlen)) (bk_nil (bk_nil (bk_nil ⟨rfl, [.val (.int j), .val (.str ⟨#[c]⟩), .val (.int z), .val (.tup [.int x.i, .int x.p]), .val (.int x.w), .val (.int x.h), .val (.int x.g)], rfl, ?_⟩))))
            refine Eq.trans ?_ (congrArg (fun l : List D => ([.val (.lst (r.map thD)), .own l, .val (.int gp), .val (.bl true)] ++ [.val (.int i), .val (thD (.text z t))] ++ [.val (.int j), .val (.str ⟨#[c]⟩), .val (.int z), .val (.tup [.int x.i, .int x.p]), .val (.int x.w), .val (.int x.h), .val (.int x.g)] : List G)) (bump_map hx z).symm)
            rfl
          | false =>
            have e2 : Ws.sign i j z c ⟨fd, gp, false⟩ = ⟨fd ++ [⟨i, j, z, 2 * z, gp⟩], 0, true⟩ := by unfold Ws.sign; rw [if_neg h32]; rfl
            rw [e2]
            refine bk_cons (bs_ifF (et_val (ed_var 3 rfl (.inl rfl) rfl)) ?_)
            refine bk_cons (bs_append 1 rfl (.inl rfl) rfl (ed_tup (ea_cons (ed_tup (ea_cons (ed_var 4 rfl (.inl rfl) rfl) (ea_cons (ed_var 6 rfl (.inl rfl) rfl) ea_nil))) (ea_cons (ed_var 8 rfl (.inl rfl) rfl) (ea_cons (ed_bin ed_int (ed_var 8 rfl (.inl rfl) rfl) rfl (mulS (by decide) (by omega))) (ea_cons (ed_var 2 rfl (.inl rfl) rfl) ea_nil))))) (by rw [List.length_map]; exact Nat.lt_of_le_of_lt (Nat.le_trans okW.len (by omega)) (show 1000 < sizeLine by decide)) ?_)
            refine bk_cons (bs_asg (ed_tup (ea_cons ed_int (ea_cons ed_bl ea_nil))) (eg_tup rfl (egs_cons (eg_name 2 sc_words_in.nd rfl (.inl rfl)) (egs_cons (eg_name 3 sc_words_in.nd rfl (.inl rfl)) egs_nil))) (bk_nil (bk_nil (bk_nil ⟨rfl, [.val (.int j), .val (.str ⟨#[c]⟩), .val (.int z), g9, g10, g11, g12], rfl, ?_⟩))))
            simp only [wfr, List.set, List.cons_append, List.nil_append, List.map_append, List.map_cons, List.map_nil, wdD, Int.natCast_mul]
            rfl
      · rintro ρ' s1 ⟨rfl, gs, hgs, rfl⟩
        refine bk_nil ⟨rfl, [.val (.int i), .val (thD (.text z t))] ++ gs, by simp [hgs], ?_⟩
        rw [es, enumD_length, signs_txt, List.length_map, List.append_assoc]
        rfl
  · rintro ρ' s' ⟨rfl, gs, hgs, rfl⟩
    refine bk_freeze 1 rfl ?_
    refine bk_cons (bs_ret (ed_var 1 rfl (.inl rfl) rfl) ⟨?_, rfl⟩)
    rw [enumD_length, List.length_map]
    rfl
end Law
set_option Elab.async false
set_option linter.all false
set_option maxRecDepth 100000
set_option maxHeartbeats 4000000
namespace Rr
def dW : Wd := ⟨0, 0, 0, 0, 0⟩
/-- what a room holds: t / b -/
def fit (t b : Nat) : Nat → Bool := fun w => decide (w * b ≤ t)
theorem fit_one (r : Nat) : fit r 1 = upto r := by funext w; simp [fit, upto]
def lineEnd (f : Nat → Bool) : Nat → Nat → List Wd → Nat
  | at_, _, [] => at_
  | at_, wide, w :: ws => if f (wide + w.g + w.w) then lineEnd f (at_ + 1) (wide + w.g + w.w) ws else at_
def tailFrom (f : Nat → Bool) (all : List Wd) (u : Nat) : List Nat := match all.drop u with
  | [] => []
  | w :: rest => u :: begs f (u + 1) w.w rest
theorem begs_end {f : Nat → Bool} {all : List Wd} : ∀ (ws : List Wd) (n wide : Nat), all.drop n = ws → begs f n wide ws = tailFrom f all (lineEnd f n wide ws) ∧ n ≤ lineEnd f n wide ws ∧ lineEnd f n wide ws ≤ n + ws.length
  | [], n, wide, h => by simp [begs, tailFrom, lineEnd, h]
  | w :: ws, n, wide, h => by
    unfold begs lineEnd
    split
    · have := begs_end (f := f) (all := all) ws (n + 1) (wide + w.g + w.w) (getD_drop h).2
      exact ⟨this.1, by omega, by simp; omega⟩
    · refine ⟨?_, Nat.le_refl _, by simp⟩
      unfold tailFrom
      rw [h]
theorem drop_cons {ws : List Wd} {n : Nat} (h : n < ws.length) : ws.drop n = ws.getD n dW :: ws.drop (n + 1) := by
  rw [List.drop_eq_getElem_cons h, List.getD_eq_getElem?_getD, List.getElem?_eq_getElem h]; rfl
theorem tot_drop (ws : List Wd) : ∀ n, tot (ws.drop n) ≤ tot ws := by
  intro n
  have : tot (ws.take n ++ ws.drop n) = tot ws := by rw [List.take_append_drop]
  rw [tot_append] at this
  omega
structure Wok (ws : List Wd) : Prop where
  len : ws.length ≤ 1000
  tot : tot ws ≤ 100000
theorem rowW_eq (ws : List Wd) : ∀ (b a : Nat), a < b → b ≤ ws.length → rowW ws a b + tot (ws.drop b) ≤ tot (ws.drop a)
  | 0, a, h, _ => by omega
  | b + 1, a, h, hb => by
    have e := drop_cons (ws := ws) (n := b) (by omega)
    have et : tot (ws.drop b) = (ws.getD b dW).w + (ws.getD b dW).g + tot (ws.drop (b + 1)) := by rw [e]; simp [Rr.tot]
    rcases Nat.lt_or_ge a b with z | z
    · have := rowW_eq ws b a z (by omega)
      have r := rowW_succ ws z
      show rowW ws a (b + 1) + tot (ws.drop (b + 1)) ≤ _
      rw [r]
      have e1 : ws.getD b ⟨0, 0, 0, 0, 0⟩ = ws.getD b dW := rfl
      rw [e1]; omega
    · have : a = b := by omega
      subst this
      rw [rowW_one, et]
      show (ws.getD a dW).w + _ ≤ _
      omega
theorem rowW_le (ws : List Wd) {a b : Nat} (hb : b ≤ ws.length) : rowW ws a b ≤ tot ws := by
  rcases Nat.lt_or_ge a b with z | z
  · have := rowW_eq ws b a z hb
    have := tot_drop ws a
    omega
  · have : b - a = 0 := by omega
    simp [rowW, this]
theorem hs_range (ws : List Wd) {a b : Nat} (hb : b ≤ ws.length) : (List.range (b - a)).map (fun k => (ws.getD (a + k) dW).h) = hs ws a b := by
  refine List.ext_getElem? fun i => ?_
  unfold hs
  rw [List.getElem?_map, List.getElem?_map, List.getElem?_take, List.getElem?_drop]
  by_cases h : i < b - a
  · rw [List.getElem?_range h, if_pos h]
    have : ws[a + i]? = some (ws[a + i]'(by omega)) := List.getElem?_eq_getElem _
    rw [this]
    simp [List.getD_eq_getElem?_getD, this]
  · rw [if_neg h, List.getElem?_eq_none (by simp; omega)]; rfl
end Rr
namespace Law
open PySem PySem.Spec PyProof.Rows L2 Gh Rr
variable {E : En} {s : Sx}
def wsD (ws : List Wd) : D := .lst (ws.map wdD)
def nsD (ns : List Nat) : List D := ns.map fun (n : Nat) => D.int (n : Int)
theorem atI_nat' {α : Type} {xs : List α} {n : Nat} {x : α} (h : xs[n]? = some x) : atI xs (n : Int) = some x := by
  unfold atI ixN
  have := (List.getElem?_eq_some_iff.mp h).1
  rw [if_pos (by omega), if_pos (by omega)]
  simpa using h
theorem at_wd {ws : List Wd} {n : Nat} (h : n < ws.length) : (wsD ws).at (n : Int) = some (wdD (ws.getD n dW)) := by
  refine atI_nat' ?_
  rw [List.getElem?_map, List.getElem?_eq_getElem h, List.getD_eq_getElem?_getD, List.getElem?_eq_getElem h]; rfl
theorem rangeD_inv {lo : Nat} {n i : Nat} {d : D} (h : (rangeD (lo : Int) n)[i]? = some d) : i < n ∧ d = .int ((lo + i : Nat) : Int) := by
  have hi : i < n := by
    have := (List.getElem?_eq_some_iff.mp h).1
    rwa [rangeD_length] at this
  rw [rangeD_get hi] at h
  cases h
  exact ⟨hi, congrArg D.int (by omega)⟩
theorem cast_sum {α : Type} (f : α → Nat) : ∀ l : List α, (((l.map f).sum : Nat) : Int) = (l.map fun x => (f x : Int)).sum
  | [] => rfl
  | x :: l => by
    have := cast_sum f l
    simp only [List.map_cons, List.sum_cons]
    omega
theorem rn_row_width (T : Tc E) {ws : List Wd} {a b : Nat} (ok : Wok ws) (hab : a ≤ b) (hb : b ≤ ws.length) : Rn E 1 "row_width" [wsD ws, .int a, .int b] s (.int (rowW ws a b)) s := by
  have hl := ok.len
  refine T.d_row_width.rn sc_row_width rfl rfl fun fa cdv A outer sh H0 EX S0 p hr => ?_
  conv => arg 2; whnf
  refine bk_cons (bs_ret (ed_sum T.bf rfl (ns := (List.range (b - a)).map fun k => (((ws.getD (a + k) dW).w + if k = 0 then 0 else (ws.getD (a + k) dW).g : Nat) : Int)) (Ed.is (El.ed (el_map [("at", 3)] (fun d => match d with | .int x => .int (((ws.getD x.toNat dW).w + if x.toNat = a then 0 else (ws.getD x.toNat dW).g : Nat) : Int) | _ => .non) rfl sc_row_width.nd (ei_range2 T.bf (ed_var 1 rfl (.inr (.inl rfl)) rfl) (ed_var 2 rfl (.inl rfl) rfl) (by omega)) (blkOk_by rfl) (by rw [rangeD_length]; exact small (by omega)) (fun i d hi => ?_))) ?_)) ⟨?_, rfl⟩)
  · obtain ⟨hin, rfl⟩ := rangeD_inv hi
    have hib : a + i < ws.length := by omega
    refine ⟨_, _, fun c => eg_name 3 sc_row_width.nd rfl (.inl rfl), by decide, fun c => ?_⟩
    by_cases h0 : i = 0
    · subst h0
      exact Ed.is (ed_bin (ed_ix (ed_ix (ed_var 0 rfl (.inr (.inl rfl)) rfl) (ed_var 3 rfl (.inl rfl) rfl) (at_wd hib)) ed_int rfl) (ed_ifF (Cp.et (Cp.is (cp_gt (ed_var 3 rfl (.inl rfl) rfl) (ed_var 1 rfl (.inr (.inl rfl)) rfl)) (decide_eq_false (by omega)))) ed_int) rfl trivial) (congrArg D.int (by simp))
    · refine Ed.is (ed_bin (ed_ix (ed_ix (ed_var 0 rfl (.inr (.inl rfl)) rfl) (ed_var 3 rfl (.inl rfl) rfl) (at_wd hib)) ed_int rfl) (ed_ifT (Cp.et (Cp.is (cp_gt (ed_var 3 rfl (.inl rfl) rfl) (ed_var 1 rfl (.inr (.inl rfl)) rfl)) (decide_eq_true (by omega)))) (ed_ix (ed_ix (ed_var 0 rfl (.inr (.inl rfl)) rfl) (ed_var 3 rfl (.inl rfl) rfl) (at_wd hib)) ed_int rfl)) rfl trivial) (congrArg D.int ?_)
      rw [Int.toNat_natCast, if_neg (by omega)]
      omega
  · congr 1
    unfold rangeD
    rw [List.map_map, List.map_map, show ((b : Int) - (a : Int)).toNat = b - a by omega]
    refine List.map_congr_left fun k _ => ?_
    simp only [Function.comp]
    have e : ((a : Int) + (k : Int)).toNat = a + k := by omega
    rw [e]
    by_cases h0 : k = 0
    · subst h0; simp
    · rw [if_neg (by omega), if_neg h0]
  · congr 1
    unfold rowW
    exact (cast_sum _ _).symm
theorem rn_row_height (T : Tc E) {ws : List Wd} {a b : Nat} (ok : Wok ws) (hab : a < b) (hb : b ≤ ws.length) : Rn E 1 "row_height" [wsD ws, .int a, .int b] s (.int (rowH ws a b)) s := by
  have hl := ok.len
  have hn : hs ws a b ≠ [] := by
    intro q
    have : (hs ws a b).length = 0 := by rw [q]; rfl
    unfold hs at this
    simp at this; omega
  refine T.d_row_height.rn sc_row_height rfl rfl fun fa cdv A outer sh H0 EX S0 p hr => ?_
  conv => arg 2; whnf
  refine bk_cons (bs_ret (ed_maxL T.bf rfl (ns := (hs ws a b).map fun (n : Nat) => (n : Int)) (m := ((rowH ws a b : Nat) : Int)) (Ed.is (El.ed (el_map [("at", 3)] (fun d => match d with | .int x => .int (((ws.getD x.toNat dW).h : Nat) : Int) | _ => .non) rfl sc_row_height.nd (ei_range2 T.bf (ed_var 1 rfl (.inl rfl) rfl) (ed_var 2 rfl (.inl rfl) rfl) (by omega)) (blkOk_by rfl) (by rw [rangeD_length]; exact small (by omega)) (fun i d hi => ?_))) ?_) (List.mem_map.mpr ⟨_, mx_mem hn, rfl⟩) ?_) ⟨rfl, rfl⟩)
  · obtain ⟨hin, rfl⟩ := rangeD_inv hi
    have hib : a + i < ws.length := by omega
    exact ⟨_, _, fun c => eg_name 3 sc_row_height.nd rfl (.inl rfl), by decide, fun c => ed_ix (ed_ix (ed_var 0 rfl (.inr (.inl rfl)) rfl) (ed_var 3 rfl (.inl rfl) rfl) (at_wd hib)) ed_int rfl⟩
  · congr 1
    unfold rangeD
    rw [← hs_range ws hb, List.map_map, List.map_map, List.map_map, show ((b : Int) - (a : Int)).toNat = b - a by omega]
    refine List.map_congr_left fun k _ => ?_
    simp only [Function.comp]
    have e : ((a : Int) + (k : Int)).toNat = a + k := by omega
    rw [e]
  · intro y m
    obtain ⟨n, hn', rfl⟩ := List.mem_map.mp m
    have := mx_ge hn'
    show (n : Int) ≤ ((mx (hs ws a b) : Nat) : Int)
    omega
/-- a room as the program holds it -/
def rmD (t b : Nat) : D := .tup [.int t, .int b]
theorem rn_is_room_for (T : Tc E) {w t b : Nat} (hw : w < 2 ^ 60) (hb : b < 2 ^ 60) : Rn E 1 "is_room_for" [.int w, rmD t b] s (.bl (fit t b w)) s := by
  refine T.d_is_room_for.rn sc_is_room_for rfl rfl fun fa cdv A outer sh H0 EX S0 p hr => ?_
  conv => arg 2; whnf
  refine bk_cons (bs_ret (Cp.ed (cp_le (ed_bin (ed_var 0 rfl (.inl rfl) rfl) (ed_ix (ed_var 1 rfl (.inl rfl) rfl) ed_int rfl) rfl (mulS (by omega) (by omega))) (ed_ix (ed_var 1 rfl (.inl rfl) rfl) ed_int rfl))) ⟨?_, rfl⟩)
  unfold fit
  congr 1
  exact decide_eq_decide.mpr (by rw [← Int.natCast_mul]; omega)
theorem rn_line_upto (T : Tc E) {ws : List Wd} {a t b : Nat} (ok : Wok ws) (ha : a < ws.length) (hb : b < 2 ^ 60) : Rn E 2 "line_upto" [wsD ws, .int a, rmD t b] s (.int (lineEnd (fit t b) (a + 1) (ws.getD a dW).w (ws.drop (a + 1)))) s := by
  have hl := ok.len
  have ht := ok.tot
  refine T.d_line_upto.rn sc_line_upto rfl rfl fun fa cdv A outer sh H0 EX S0 p hr => ?_
  conv => arg 2; whnf
  refine bk_cons (bs_par 3 4 rfl sc_line_upto.nd rfl rfl (by decide) rfl rfl (ea_cons (ed_ix (ed_ix (ed_var 0 rfl (.inl rfl) rfl) (ed_var 1 rfl (.inl rfl) rfl) (at_wd ha)) ed_int rfl) (ea_cons (ed_bin (ed_var 1 rfl (.inl rfl) rfl) ed_int rfl trivial) ea_nil)) ?_)
  refine bk_cons (bs_while PassesOwn.never (fun ρ s' => s' = s ∧ ∃ w n : Nat, ρ = [.val (wsD ws), .val (.int a), .val (rmD t b), .val (.int w), .val (.int n)] ∧ n ≤ ws.length ∧ w + tot (ws.drop n) ≤ tot ws ∧ lineEnd (fit t b) n w (ws.drop n) = lineEnd (fit t b) (a + 1) (ws.getD a dW).w (ws.drop (a + 1))) (fun ρ _ => match ρ with | [_, _, _, _, .val (.int n)] => ws.length - n.toNat | _ => 0) ⟨rfl, (ws.getD a dW).w, a + 1, rfl, ha, ?_, rfl⟩ ?_)
  · have := tot_drop ws a
    rw [drop_cons ha] at this
    simp [Rr.tot] at this ⊢; omega
  rintro ρ s' ⟨rfl, w, n, rfl, hn, hw, hE⟩
  refine ⟨_, _, Ew.et (ew_and (l := fit t b (w + (ws.getD n dW).g + (ws.getD n dW).w)) (Cp.et (cp_lt (ed_var 4 rfl (.inl rfl) rfl) (ed_len T.bf (ed_var 0 rfl (.inl rfl) rfl) rfl))) fun h => ?_), fun h => ?_, fun h => ?_⟩
  · have hn2 : n < ws.length := by
      have := of_decide_eq_true h
      simp at this; omega
    have hb2 : w + (ws.getD n dW).g + (ws.getD n dW).w ≤ tot ws := by
      rw [drop_cons hn2] at hw
      simp [Rr.tot] at hw ⊢; omega
    exact ew_and1 (et_val (ed_cl (ea_cons (Ed.is (ed_bin (ed_bin (ed_var 3 rfl (.inl rfl) rfl) (ed_ix (ed_ix (ed_var 0 rfl (.inl rfl) rfl) (ed_var 4 rfl (.inl rfl) rfl) (at_wd hn2)) ed_int rfl) rfl trivial) (ed_ix (ed_ix (ed_var 0 rfl (.inl rfl) rfl) (ed_var 4 rfl (.inl rfl) rfl) (at_wd hn2)) ed_int rfl) rfl trivial) (congrArg D.int (show _ = ((w + (ws.getD n dW).g + (ws.getD n dW).w : Nat) : Int) by omega))) (ea_cons (ed_var 2 rfl (.inl rfl) rfl) ea_nil)) (hr.mono (by decide)) (rn_is_room_for T (by omega) hb)))
  · have h2 := Bool.and_eq_true_iff.mp h
    have hn2 : n < ws.length := by
      have := of_decide_eq_true h2.1
      simp at this; omega
    refine bk_cons (bs_aug 3 sc_line_upto.nd rfl (.inl rfl) rfl (ed_bin (ed_ix (ed_ix (ed_var 0 rfl (.inl rfl) rfl) (ed_var 4 rfl (.inl rfl) rfl) (at_wd hn2)) ed_int rfl) (ed_ix (ed_ix (ed_var 0 rfl (.inl rfl) rfl) (ed_var 4 rfl (.inl rfl) rfl) (at_wd hn2)) ed_int rfl) rfl trivial) ?_)
    refine bk_cons (bs_aug 4 sc_line_upto.nd rfl (.inl rfl) rfl ed_int (bk_nil ⟨⟨rfl, w + (ws.getD n dW).g + (ws.getD n dW).w, n + 1, ?_, hn2, ?_, ?_⟩, ?_⟩))
    · refine congrArg (fun z : Int => ([.val (wsD ws), .val (.int a), .val (rmD t b), .val (.int z), .val (.int ((n + 1 : Nat) : Int))] : List G)) ?_
      omega
    · rw [drop_cons hn2] at hw
      simp [Rr.tot] at hw ⊢; omega
    · rw [← hE, drop_cons hn2]
      show _ = (if fit t b (w + (ws.getD n dW).g + (ws.getD n dW).w) then lineEnd (fit t b) (n + 1) (w + (ws.getD n dW).g + (ws.getD n dW).w) (ws.drop (n + 1)) else n)
      rw [if_pos h2.2]
    · show ws.length - ((n : Int) + 1).toNat < ws.length - (n : Int).toNat
      omega
  · refine bk_cons (bs_ret (ed_var 4 rfl (.inl rfl) rfl) ⟨?_, rfl⟩)
    rw [← hE]
    congr 2
    rcases Nat.lt_or_ge n ws.length with z | z
    · rw [drop_cons z]
      show n = (if fit t b (w + (ws.getD n dW).g + (ws.getD n dW).w) then _ else n)
      have h3 : fit t b (w + (ws.getD n dW).g + (ws.getD n dW).w) = false := by
        have h1 : decide ((n : Int) < (((ws.map wdD).length : Nat) : Int)) = true := decide_eq_true (by simp; omega)
        rw [h1, Bool.true_and] at h
        exact h
      rw [h3]; rfl
    · rw [List.drop_eq_nil_of_le z]; rfl
theorem rn_begins_in (T : Tc E) {ws : List Wd} {t b : Nat} (ok : Wok ws) (hb : b < 2 ^ 60) : Rn E 3 "begins_in" [wsD ws, rmD t b] s (.lst (nsD (begins (fit t b) ws))) s := by
  have hl := ok.len
  refine T.d_begins_in.rn sc_begins_in rfl rfl fun fa cdv A outer sh H0 EX S0 p hr => ?_
  conv => arg 2; whnf
  refine bk_cons (bs_parOV 2 3 rfl sc_begins_in.nd rfl rfl (by decide) rfl rfl (el_lst ea_nil) ed_int ?_)
  refine bk_cons (bs_while PassesOwn.never (fun ρ s' => s' = s ∧ ∃ (fd : List Nat) (n : Nat), ρ = [.val (wsD ws), .val (rmD t b), .own (nsD fd), .val (.int n)] ∧ n ≤ ws.length ∧ fd.length ≤ n ∧ fd ++ tailFrom (fit t b) ws n = begins (fit t b) ws) (fun ρ _ => match ρ with | [_, _, _, .val (.int n)] => ws.length - n.toNat | _ => 0) ⟨rfl, [], 0, rfl, by omega, by simp, ?_⟩ ?_)
  · cases ws <;> rfl
  rintro ρ s' ⟨rfl, fd, n, rfl, hn, hfd, hE⟩
  refine ⟨_, _, Cp.et (cp_lt (ed_var 3 rfl (.inl rfl) rfl) (ed_len T.bf (ed_var 0 rfl (.inl rfl) rfl) rfl)), fun h => ?_, fun h => ?_⟩
  · have hn2 : n < ws.length := by
      have := of_decide_eq_true h
      simp at this; omega
    obtain ⟨q1, q2, q3⟩ := begs_end (f := fit t b) (all := ws) (ws.drop (n + 1)) (n + 1) (ws.getD n dW).w rfl
    refine bk_cons (bs_append 2 rfl (.inl rfl) rfl (ed_var 3 rfl (.inl rfl) rfl) (by unfold nsD; rw [List.length_map]; exact Nat.lt_of_le_of_lt (show fd.length ≤ 1000 by omega) (by decide)) ?_)
    refine bk_cons (bs_set 3 sc_begins_in.nd rfl (.inl rfl) (ed_cl (ea_cons (ed_var 0 rfl (.inl rfl) rfl) (ea_cons (ed_var 3 rfl (.inl rfl) rfl) (ea_cons (ed_var 1 rfl (.inl rfl) rfl) ea_nil))) (hr.mono (by decide)) (rn_line_upto T ok hn2 hb)) (bk_nil ⟨⟨rfl, fd ++ [n], lineEnd (fit t b) (n + 1) (ws.getD n dW).w (ws.drop (n + 1)), ?_, ?_, ?_, ?_⟩, ?_⟩))
    · simp [nsD]
    · rw [List.length_drop] at q3; omega
    · rw [List.length_append, List.length_singleton]; omega
    · rw [← hE]
      have : tailFrom (fit t b) ws n = n :: begs (fit t b) (n + 1) (ws.getD n dW).w (ws.drop (n + 1)) := by
        unfold tailFrom; rw [drop_cons hn2]
      rw [this, q1]; simp
    · show ws.length - ((lineEnd (fit t b) (n + 1) (ws.getD n dW).w (ws.drop (n + 1)) : Nat) : Int).toNat < ws.length - (n : Int).toNat
      omega
  · refine bk_freeze 2 rfl (bk_cons (bs_ret (ed_var 2 rfl (.inl rfl) rfl) ⟨?_, rfl⟩))
    have hn2 : n = ws.length := by
      have := of_decide_eq_false h
      simp at this; omega
    have : tailFrom (fit t b) ws n = [] := by unfold tailFrom; rw [hn2, List.drop_length]
    rw [this, List.append_nil] at hE
    rw [hE]
end Law
set_option Elab.async false
set_option linter.all false
set_option maxRecDepth 100000
set_option maxHeartbeats 4000000
namespace Law
open PySem PySem.Spec PyProof.Rows L2 Gh Rr
variable {E : En} {s : Sx}
def spD (x : Nat × Nat) : D := .tup [.int x.1, .int x.2]
theorem nsD_length (ns : List Nat) : (nsD ns).length = ns.length := by simp [nsD]
theorem cut_from1 (xs : List D) : cutD xs (some 1) none = xs.drop 1 := by
  rcases xs with _ | ⟨x, xs⟩
  · rfl
  · have := cut_from (x :: xs) 1 (by simp)
    simpa using this
theorem zipD_ns (as bs : List Nat) : zipD (nsD as) (nsD bs) = (as.zip bs).map spD := by
  unfold zipD nsD
  rw [List.zipWith_map]
  induction as generalizing bs with
  | nil => simp
  | cons a as ih => cases bs <;> simp [spD, ih]
theorem rn_spans_of (T : Tc E) {ws : List Wd} {bs : List Nat} (hl : bs.length ≤ 1000) : RnL E 1 "spans_of" [wsD ws, .lst (nsD bs)] s ((spans ws.length bs).map spD) s := by
  refine T.d_spans_of.rnL sc_spans_of rfl rfl fun fa cdv A outer sh H0 EX S0 p hr => ?_
  conv => arg 2; whnf
  refine bkl_ret (El.is (el_listZip T.bf rfl (ed_var 1 rfl (.inl rfl) rfl) (El.ed (el_cat (by rw [cut_from1, List.length_drop, nsD_length]; exact small (by simp; omega)) (El.ed (el_slice (ed_var 1 rfl (.inl rfl) rfl) (.some ed_int) .none)) (El.ed (el_lst (ea_cons (ed_len T.bf (ed_var 0 rfl (.inl rfl) rfl) rfl) ea_nil)))))) ?_)
  have : cutD (nsD bs) (some 1) none ++ [.int (((ws.map wdD).length : Nat) : Int)] = nsD (bs.drop 1 ++ [ws.length]) := by
    rw [cut_from1]; simp [nsD, List.map_drop]
  rw [this, zipD_ns]
  rfl
theorem span_ok {f : Nat → Bool} {ws : List Wd} {x : Nat × Nat} (h : x ∈ spans ws.length (begins f ws)) : x.1 < x.2 ∧ x.2 ≤ ws.length := by
  unfold spans at h
  obtain ⟨i, hi⟩ := List.mem_iff_getElem?.mp h
  rw [List.getElem?_zip_eq_some] at hi
  obtain ⟨h1, h2⟩ := hi
  have lt1 := begins_lt (List.mem_of_getElem? h1)
  have srt := begins_sorted (fit := f) ws
  rcases Nat.lt_or_ge (i + 1) (begins f ws).length with z1 | z1
  · rw [List.getElem?_append_left (by simp; omega), List.getElem?_drop] at h2
    have e2 : (begins f ws)[i + 1]? = some x.2 := by rw [Nat.add_comm]; exact h2
    obtain ⟨q1, q2⟩ := List.getElem?_eq_some_iff.mp h1
    obtain ⟨q3, q4⟩ := List.getElem?_eq_some_iff.mp e2
    have := List.pairwise_iff_getElem.mp srt i (i + 1) q1 q3 (by omega)
    rw [q2, q4] at this
    exact ⟨this, Nat.le_of_lt (begins_lt (List.mem_of_getElem? e2))⟩
  · have hl : ((begins f ws).drop 1).length ≤ i := by simp; omega
    rw [List.getElem?_append_right hl] at h2
    have : x.2 = ws.length := by
      have := List.mem_of_getElem? h2
      simpa using this
    omega
/-- what is told of a pair of ints -/
def un2 : D → Nat × Nat
  | .tup [.int a, .int b] => (a.toNat, b.toNat)
  | _ => (0, 0)
theorem un2_sp (x : Nat × Nat) : un2 (spD x) = x := by simp [un2, spD]
theorem rn_heights_in (T : Tc E) {ws : List Wd} {t b : Nat} (ok : Wok ws) (hb : b < 2 ^ 60) : Rn E 4 "heights_in" [wsD ws, rmD t b] s (.lst (nsD (heights ws (begins (fit t b) ws)))) s := by
  have hl := ok.len
  have hbl := begins_length (fit := fit t b) ws
  refine T.d_heights_in.rn sc_heights_in rfl rfl fun fa cdv A outer sh H0 EX S0 p hr => ?_
  conv => arg 2; whnf
  refine bk_cons (bs_ret (El.ed (el_map [("first", 2), ("upto", 3)] (fun d => .int ((rowH ws (un2 d).1 (un2 d).2 : Nat) : Int)) rfl sc_heights_in.nd (ei_seq (ed_cl (ea_cons (ed_var 0 rfl (.inr (.inl rfl)) rfl) (ea_cons (ed_cl (ea_cons (ed_var 0 rfl (.inr (.inl rfl)) rfl) (ea_cons (ed_var 1 rfl (.inl rfl) rfl) ea_nil)) (hr.mono (by decide)) (rn_begins_in T ok hb)) ea_nil)) (hr.mono (by decide)) (rn_spans_of T (ws := ws) (by omega)).rn) (.inl rfl)) (blkOk_by rfl) (by rw [List.length_map, spans_length]; exact small (by omega)) (fun i d hi => ?_))) ⟨?_, rfl⟩)
  · obtain ⟨x, hx, rfl⟩ := List.mem_map.mp (List.mem_of_getElem? hi)
    obtain ⟨h1, h2⟩ := span_ok hx
    refine ⟨_, _, fun c => eg_tup rfl (egs_cons (eg_name 2 sc_heights_in.nd rfl (.inl rfl)) (egs_cons (eg_name 3 sc_heights_in.nd rfl (.inl rfl)) egs_nil)), by decide, fun c => ?_⟩
    rw [un2_sp]
    exact ed_cl (ea_cons (ed_var 0 rfl (.inr (.inl rfl)) rfl) (ea_cons (ed_var 2 rfl (.inl rfl) rfl) (ea_cons (ed_var 3 rfl (.inl rfl) rfl) ea_nil))) (hr.mono (by decide)) (rn_row_height T ok h1 h2)
  · unfold heights nsD
    rw [List.map_map, List.map_map]
    exact congrArg D.lst (List.map_congr_left fun x _ => by simp only [Function.comp, un2_sp])
/-- the least of a list -/
def mnD : List Nat → D
  | [] => .non
  | x :: xs => .int ((xs.foldl min x : Nat) : Int)
theorem mn_le : ∀ (xs : List Nat) (x : Nat), xs.foldl min x ≤ x ∧ ∀ y ∈ xs, xs.foldl min x ≤ y
  | [], x => by simp
  | z :: zs, x => by
    have := mn_le zs (min x z)
    simp only [List.foldl_cons]
    refine ⟨by omega, fun y m => ?_⟩
    rcases List.mem_cons.mp m with rfl | m
    · omega
    · exact this.2 y m
theorem mn_mem : ∀ (xs : List Nat) (x : Nat), xs.foldl min x = x ∨ xs.foldl min x ∈ xs
  | [], x => by simp
  | z :: zs, x => by
    simp only [List.foldl_cons]
    rcases mn_mem zs (min x z) with h | h
    · rcases Nat.le_total x z with q | q
      · left; rw [h]; omega
      · right; rw [h, Nat.min_eq_right q]; exact List.mem_cons_self
    · right; exact List.mem_cons_of_mem _ h
/-- the least room in which the begins are others -/
def nxt (ws : List Wd) (r : Nat) : Option Nat := match barsOf (upto r) ws with
  | [] => none
  | x :: xs => some (xs.foldl min x)
def onD : Option Nat → D
  | none => .non
  | some r => .int (r : Int)
theorem nxt_some {ws : List Wd} {r q : Nat} (h : nxt ws r = some q) : q ∈ barsOf (upto r) ws ∧ ∀ b ∈ barsOf (upto r) ws, q ≤ b := by
  unfold nxt at h
  cases e : barsOf (upto r) ws with
  | nil => rw [e] at h; cases h
  | cons x xs =>
    rw [e] at h
    cases h
    refine ⟨?_, fun b m => ?_⟩
    · rcases mn_mem xs x with z | z
      · rw [z]; exact List.mem_cons_self
      · exact List.mem_cons_of_mem _ z
    · rcases List.mem_cons.mp m with rfl | m
      · exact (mn_le xs b).1
      · exact (mn_le xs x).2 b m
theorem nxt_none {ws : List Wd} {r : Nat} (h : nxt ws r = none) : barsOf (upto r) ws = [] := by
  unfold nxt at h
  cases e : barsOf (upto r) ws with
  | nil => rfl
  | cons x xs => rw [e] at h; cases h
theorem zip_ok {f : Nat → Bool} {ws : List Wd} {x : Nat × Nat} (h : x ∈ (begins f ws).zip ((begins f ws).drop 1)) : x.1 < x.2 ∧ x.2 < ws.length := by
  obtain ⟨i, hi⟩ := List.mem_iff_getElem?.mp h
  rw [List.getElem?_zip_eq_some] at hi
  obtain ⟨h1, h2⟩ := hi
  rw [List.getElem?_drop] at h2
  have e2 : (begins f ws)[i + 1]? = some x.2 := by rw [Nat.add_comm]; exact h2
  obtain ⟨q1, q2⟩ := List.getElem?_eq_some_iff.mp h1
  obtain ⟨q3, q4⟩ := List.getElem?_eq_some_iff.mp e2
  have := List.pairwise_iff_getElem.mp (begins_sorted (fit := f) ws) i (i + 1) q1 q3 (by omega)
  rw [q2, q4] at this
  exact ⟨this, begins_lt (List.mem_of_getElem? e2)⟩
theorem ns_eqD (l : List Nat) : eqD 1 (.lst (nsD l)) := (eqDs.of (n := 0) fun x m => by
  obtain ⟨w, _, rfl⟩ := List.mem_map.mp m
  exact .int _).lst
theorem ns_eqC (l : List Nat) : (D.lst (nsD l)).eqC := (ns_eqD l).eqC
end Law
set_option Elab.async false
set_option linter.all false
set_option maxRecDepth 100000
set_option maxHeartbeats 4000000
namespace Rr
theorem turns_split {ws : List Wd} {r top : Nat} (h : r ≤ top) (ht : isTurn ws r = true) : ∃ rest, turns ws (top + 1) = turns ws r ++ r :: rest := by
  induction top with
  | zero =>
    have : r = 0 := by omega
    subst this
    exact ⟨[], by rw [turns_succ, ht]; simp⟩
  | succ top ih =>
    rcases Nat.lt_or_ge r (top + 1) with z | z
    · obtain ⟨rest, e⟩ := ih (by omega)
      exact ⟨rest ++ (if isTurn ws (top + 1) then [top + 1] else []), by rw [turns_succ, e]; simp⟩
    · have : r = top + 1 := by omega
      subst this
      exact ⟨[], by rw [turns_succ, ht]; simp⟩
theorem turns_len (ws : List Wd) (n : Nat) : (turns ws n).length ≤ n := by
  unfold turns
  exact Nat.le_trans (List.length_filter_le _ _) (by simp)
def few (ws : List Wd) (m : Nat) (r : Nat) : Bool := decide ((begins (upto r) ws).length ≤ m)
/-- the least room with at most m lines -/
def firstFew (ws : List Wd) (m : Nat) : Option Nat := ((turns ws (tot ws + 1)).filter (few ws m)).head?
theorem firstFew_at {ws : List Wd} {m r : Nat} (h : r ≤ tot ws) (ht : isTurn ws r = true) (hb : ∀ q ∈ turns ws r, m < (begins (upto q) ws).length) (hf : (begins (upto r) ws).length ≤ m) : firstFew ws m = some r := by
  unfold firstFew
  obtain ⟨rest, e⟩ := turns_split h ht
  rw [e, List.filter_append]
  have : (turns ws r).filter (few ws m) = [] := by
    rw [List.filter_eq_nil_iff]
    intro q hq
    have := hb q hq
    simp [few]; omega
  rw [this, List.nil_append, List.filter_cons_of_pos (by simp [few]; omega)]
  rfl
theorem firstFew_zero {ws : List Wd} (h : ws ≠ []) : firstFew ws 0 = none := by
  unfold firstFew
  have : (turns ws (tot ws + 1)).filter (few ws 0) = [] := by
    rw [List.filter_eq_nil_iff]
    intro q hq
    have : begins (upto q) ws ≠ [] := fun z => h (begins_nil.mp z)
    have := List.length_pos_iff.mpr this
    simp [few]; omega
  rw [this]; rfl
end Rr
namespace Law
open PySem PySem.Spec PyProof.Rows L2 Gh Rr
variable {E : En} {s : Sx}
def rowD (ws : List Wd) (r : Nat) : D := .tup [.int r, .tup (nsD (begins (upto r) ws)), .int ((heights ws (begins (upto r) ws)).sum : Nat)]
theorem nsD_ints (l : List Nat) : nsD l = (l.map fun (n : Nat) => (n : Int)).map D.int := by unfold nsD; rw [List.map_map]; rfl
/-- a run as it is passed -/
structure RunOk (r : List Th) : Prop where
  g : ∀ t ∈ r, Gd t
  len : r.length ≤ 10
theorem RunOk.wok {r : List Th} (h : RunOk r) : Wok (words r) := by
  have := scan_ok (m := 5) (l := 16) (fun t m => (h.g t m).1) r.length (Nat.le_refl _)
  have hl := h.len
  have h1 := this.len
  have h2 := this.tot
  refine ⟨?_, ?_⟩
  · show (scan r r.length).found.length ≤ 1000
    omega
  · show tot (scan r r.length).found ≤ 100000
    omega
section
variable {x : D} {ds : List D} {r : List Th}
theorem rn_run (T : Tc E) (h : LsR x ds r) (ok : RunOk r) : Rn E 4 "checked_run" [x] s (.lst (r.map thD)) s := rn_checked_run T h ok.g (by have := ok.len; omega)
theorem rn_ws (T : Tc E) (ok : RunOk r) : Rn E 2 "words_in" [.lst (r.map thD)] s (wsD (words r)) s := rn_words_in T ok.g ok.len
def prD : Option (Nat × Nat) → D
  | none => .non
  | some p => .tup [.int p.1, .int p.2]
theorem rn_check_number (T : Tc E) {m : Nat} : Rn E 3 "check_number" [.int m] s .non s := by
  refine T.d_check_number.rn sc_check_number rfl rfl fun fa cdv A outer sh H0 EX S0 p hr => ?_
  conv => arg 2; whnf
  exact bk_cons (bs_ifF (et_not (k := true) (et_val (ed_cl (ea_cons (ed_var 0 rfl (.inl rfl) rfl) ea_nil) (hr.mono (by decide)) (rn_isn T (by omega))))) (bk_nil (bk_nil ⟨rfl, rfl⟩)))
theorem rn_checked_roomI (T : Tc E) {n : Nat} : Rn E 5 "checked_room" [.int n] s (rmD n 1) s := by
  refine T.d_checked_room.rn sc_checked_room rfl rfl fun fa cdv A outer sh H0 EX S0 p hr => ?_
  conv => arg 2; whnf
  exact bk_cons (bs_ifT (et_val (ed_cl (ea_cons (ed_var 0 rfl (.inl rfl) rfl) ea_nil) (hr.mono (by decide)) (rn_isn T (by omega)))) (bk_cons (bs_ret (ed_tup (ea_cons (ed_var 0 rfl (.inl rfl) rfl) (ea_cons ed_int ea_nil))) ⟨rfl, rfl⟩)))
theorem fr_rm {t b : Nat} (hb : b ≠ 0) (hg : Nat.gcd t b = 1) : fr (mkRat t b) = rmD t b := by
  unfold fr rmD
  rw [mk_num _ _ hb, mk_den _ _ hb, Int.natAbs_natCast, hg]
  simp
theorem rn_checked_roomF (T : Tc E) {t b : Nat} (hb : 0 < b) (hb2 : b < 2 ^ 60) (hg : Nat.gcd t b = 1) : Rn E 5 "checked_room" [.tup [.int t, .int b]] s (rmD t b) s := by
  refine T.d_checked_room.rn sc_checked_room rfl rfl fun fa cdv A outer sh H0 EX S0 p hr => ?_
  conv => arg 2; whnf
  have hw : isWd (.tup [.int t, .int b]) = true := by
    show (decide ((0 : Int) < (b : Int)) && decide ((0 : Int) ≤ (t : Int))) = true
    rw [decide_eq_true (by omega), decide_eq_true (by omega)]; rfl
  have hf : isFr (.tup [.int t, .int b]) = true := by
    show decide ((0 : Int) < (b : Int)) = true
    exact decide_eq_true (by omega)
  refine bk_cons (bs_ifF (et_val (ed_cl (ea_cons (ed_var 0 rfl (.inl rfl) rfl) ea_nil) (hr.mono (by decide)) (rn_is_natural T.toTx rfl))) (bk_nil ?_))
  refine bk_cons (bs_ifF (et_not (k := true) (et_val (ed_cl (ea_cons (ed_var 0 rfl (.inl rfl) rfl) ea_nil) (hr.mono (by decide)) ((rn_is_width T.toTx (by rfl)).is (by rw [hw]))))) (bk_nil ?_))
  refine bk_cons (bs_ret (ed_cl (ea_cons (ed_var 0 rfl (.inl rfl) rfl) ea_nil) (hr.mono (by decide)) ((rn_frac_of T.toTx hf (fun t' b' e => by cases e; rw [Int.natAbs_natCast]; exact Nat.lt_trans hb2 (Nat.pow_lt_pow_right (by decide) (by decide)))).is (fr_rm (by omega) hg))) ⟨rfl, rfl⟩)
end
end Law
set_option Elab.async false
set_option linter.all false
set_option maxRecDepth 100000
set_option maxHeartbeats 4000000
namespace Law
open PySem PySem.Spec PyProof.Rows L2 Gh Rr
variable {E : En} {s : Sx} {x : D} {ds : List D} {r : List Th}
theorem rn_lines_in (T : Tc E) (h : LsR x ds r) (ok : RunOk r) {y : D} {t b : Nat} (hb : b < 2 ^ 60) (R : ∀ s, Rn E 5 "checked_room" [y] s (rmD t b) s) : RnL E 6 "lines_in" [x, y] s ((spans (words r).length (begins (fit t b) (words r))).map spD) s := by
  have wok := ok.wok
  have hbl := begins_length (fit := fit t b) (words r)
  have hl := wok.len
  refine T.d_lines_in.rnL sc_lines_in rfl rfl fun fa cdv A outer sh H0 EX S0 p hr => ?_
  conv => arg 2; whnf
  refine bkl_cons (bs_set 2 sc_lines_in.nd rfl (.inl rfl) (ed_cl (ea_cons (ed_cl (ea_cons (ed_var 0 rfl (.inl rfl) rfl) ea_nil) (hr.mono (by decide)) (rn_run T h ok)) ea_nil) (hr.mono (by decide)) (rn_ws T ok)) ?_)
  exact bkl_ret (el_cl (ea_cons (ed_var 2 rfl (.inl rfl) rfl) (ea_cons (ed_cl (ea_cons (ed_var 2 rfl (.inl rfl) rfl) (ea_cons (ed_cl (ea_cons (ed_var 1 rfl (.inl rfl) rfl) ea_nil) (hr.mono (by decide)) (R _)) ea_nil)) (hr.mono (by decide)) (rn_begins_in T wok hb)) ea_nil)) (hr.mono (by decide)) (rn_spans_of T (by omega)))
def chD (bs : List Nat) (m : Nat) : D := if m < bs.length then .lst (nsD (bs.take (m + 1))) else .non
theorem rn_chain_above (T : Tc E) (h : LsR x ds r) (ok : RunOk r) {y : D} {t b m : Nat} (hb : b < 2 ^ 60) (R : ∀ s, Rn E 5 "checked_room" [y] s (rmD t b) s) : Rn E 6 "chain_above" [x, y, .int m] s (chD (begins (fit t b) (words r)) m) s := by
  have wok := ok.wok
  refine T.d_chain_above.rn sc_chain_above rfl rfl fun fa cdv A outer sh H0 EX S0 p hr => ?_
  conv => arg 2; whnf
  refine bk_cons (bs_par 3 4 rfl sc_chain_above.nd rfl rfl (by decide) rfl rfl (ea_cons (ed_cl (ea_cons (ed_cl (ea_cons (ed_var 0 rfl (.inl rfl) rfl) ea_nil) (hr.mono (by decide)) (rn_run T h ok)) ea_nil) (hr.mono (by decide)) (rn_ws T ok)) (ea_cons (ed_cl (ea_cons (ed_var 1 rfl (.inl rfl) rfl) ea_nil) (hr.mono (by decide)) (R _)) ea_nil)) ?_)
  refine bk_cons (bs_expr (ed_cl (ea_cons (ed_var 2 rfl (.inl rfl) rfl) ea_nil) (hr.mono (by decide)) (rn_check_number T)) ?_)
  refine bk_cons (bs_set 5 sc_chain_above.nd rfl (.inl rfl) (ed_cl (ea_cons (ed_var 3 rfl (.inl rfl) rfl) (ea_cons (ed_var 4 rfl (.inl rfl) rfl) ea_nil)) (hr.mono (by decide)) (rn_begins_in T wok hb)) ?_)
  unfold chD
  by_cases hm : m < (begins (fit t b) (words r)).length
  · refine bk_cons (bs_ret (ed_ifT (Cp.et (Cp.is (cp_gt (ed_len T.bf (ed_var 5 rfl (.inl rfl) rfl) rfl) (ed_var 2 rfl (.inl rfl) rfl)) (decide_eq_true (by rw [nsD_length]; omega)))) (El.ed (el_slice (j := some ((m + 1 : Nat) : Int)) (ed_var 5 rfl (.inl rfl) rfl) .none (.some (Ed.is (ed_bin (ed_var 2 rfl (.inl rfl) rfl) ed_int rfl trivial) (congrArg D.int (by omega))))))) ⟨?_, rfl⟩)
    rw [if_pos hm, cut_to _ _ (by rw [nsD_length]; omega)]
    simp [nsD, List.map_take]
  · refine bk_cons (bs_ret (ed_ifF (Cp.et (Cp.is (cp_gt (ed_len T.bf (ed_var 5 rfl (.inl rfl) rfl) rfl) (ed_var 2 rfl (.inl rfl) rfl)) (decide_eq_false (by rw [nsD_length]; omega)))) ed_non) ⟨?_, rfl⟩)
    rw [if_neg hm]
end Law
set_option Elab.async false
set_option linter.all false
set_option maxRecDepth 100000
set_option maxHeartbeats 4000000
namespace Law
open PySem PySem.Spec PyProof.Rows L2 Gh Rr
variable {E : En} {s : Sx}
theorem rn_draw (T : Tc E) {n many : Nat} (h : St n s) (hn : n < 2 ^ 40) (hm : 0 < many) (hm2 : many < 2 ^ 60) : ∃ (d : Nat) (s' : Sx), d < many ∧ St (n + 1) s' ∧ Rn E 1 "_law_draw" [.mut, .int many] s (.int d) s' := by
  obtain ⟨c, z, m, rfl, hz, hmn⟩ := h
  by_cases hc : 0 < c
  · refine ⟨c % many, some [((c / many : Nat) : Int), z, m], Nat.mod_lt _ hm, ⟨_, _, _, rfl, hz, by omega⟩, ?_⟩
    refine T.d__law_draw.rn sc__law_draw rfl rfl fun fa cdv A outer sh H0 EX S0 p hr => ?_
    conv => arg 2; whnf
    refine bk_cons (bs_ifT (Cp.et ((cp_gt (ed_ixM (n := (c : Int)) (ed_var 0 rfl (.inl rfl) rfl) ed_int rfl) ed_int).is (decide_eq_true (by omega)))) ?_)
    refine bk_cons (bs_set 2 sc__law_draw.nd rfl (.inl rfl) (ed_bin (ed_intI T.bf (ed_ixM (n := (c : Int)) (ed_var 0 rfl (.inl rfl) rfl) ed_int rfl)) (ed_var 1 rfl (.inl rfl) rfl) rfl (by show (0 : Int) < many; omega)) ?_)
    refine bk_cons (bs_stM 0 rfl (.inl rfl) rfl (ed_bin (ed_ixM (n := (c : Int)) (ed_var 0 rfl (.inl rfl) rfl) ed_int rfl) (ed_var 1 rfl (.inl rfl) rfl) rfl (wide_div (i := (c : Int)) (b := 60) (by omega) (by omega) (by decide) (by decide))) ed_int rfl ?_)
    exact bk_cons (bs_ret (ed_var 2 rfl (.inl rfl) rfl) ⟨rfl, rfl⟩)
  · have hc : c = 0 := by omega
    subst hc
    have h5 : (0 : Int) ≤ ((z : Int) * 40692 + ((m + 1 : Nat) : Int) * 12211 + 6007) % 2147483629 := Int.emod_nonneg _ (by decide)
    have h6 : ((z : Int) * 40692 + ((m + 1 : Nat) : Int) * 12211 + 6007) % 2147483629 < 2147483629 := Int.emod_lt_of_pos _ (by decide)
    generalize hw : ((z : Int) * 40692 + ((m + 1 : Nat) : Int) * 12211 + 6007) % 2147483629 = w at h5 h6
    obtain ⟨v, rfl⟩ := Int.eq_ofNat_of_zero_le h5
    have h7 : (0 : Int) ≤ ((v : Int) / 8192 + (v : Int)) % many := Int.emod_nonneg _ (by omega)
    have h8 : ((v : Int) / 8192 + (v : Int)) % many < many := Int.emod_lt_of_pos _ (by omega)
    refine ⟨(((v : Int) / 8192 + (v : Int)) % many).toNat, some [((0 : Nat) : Int), (v : Int), ((m + 1 : Nat) : Int)], by omega, ⟨_, _, _, rfl, by omega, by omega⟩, ?_⟩
    refine T.d__law_draw.rn sc__law_draw rfl rfl fun fa cdv A outer sh H0 EX S0 p hr => ?_
    conv => arg 2; whnf
    refine bk_cons (bs_ifF (Cp.et ((cp_gt (ed_ixM (n := ((0 : Nat) : Int)) (ed_var 0 rfl (.inl rfl) rfl) ed_int rfl) ed_int).is (decide_eq_false (by omega)))) (bk_nil ?_))
    refine bk_cons (bs_stM 0 (n := ((m + 1 : Nat) : Int)) rfl (.inl rfl) rfl (Ed.is (ed_bin (ed_ixM (n := (m : Int)) (ed_var 0 rfl (.inl rfl) rfl) ed_int rfl) ed_int rfl trivial) (congrArg D.int (by omega))) ed_int rfl ?_)
    refine bk_cons (bs_stM 0 (n := (v : Int)) rfl (.inl rfl) rfl (Ed.is (ed_bin (ed_intI T.bf (ed_bin (ed_bin (ed_bin (ed_ixM (n := (z : Int)) (ed_var 0 rfl (.inl rfl) rfl) ed_int rfl) ed_int rfl (mulS (by omega) (by decide))) (ed_bin (ed_ixM (n := ((m + 1 : Nat) : Int)) (ed_var 0 rfl (.inl rfl) rfl) ed_int rfl) ed_int rfl (mulS (by omega) (by decide))) rfl trivial) ed_int rfl trivial)) ed_int rfl (by show (0 : Int) < 2147483629; decide)) (congrArg D.int hw)) ed_int rfl ?_)
    refine bk_cons (bs_ret (Ed.is (ed_bin (ed_intI T.bf (ed_bin (ed_bin (ed_ixM (n := (v : Int)) (ed_var 0 rfl (.inl rfl) rfl) ed_int rfl) ed_int rfl (wide_div (i := (v : Int)) (b := 60) (by decide) (by decide) (by decide) (by decide))) (ed_ixM (n := (v : Int)) (ed_var 0 rfl (.inl rfl) rfl) ed_int rfl) rfl trivial)) (ed_var 1 rfl (.inl rfl) rfl) rfl (by show (0 : Int) < many; omega)) (congrArg D.int (Int.toNat_of_nonneg h7).symm)) ⟨rfl, rfl⟩)
/-- one of a list -/
theorem rn_pick (T : Tc E) {n : Nat} {xs : List D} (h : St n s) (hn : n < 2 ^ 40) (hx : xs ≠ []) (hx2 : xs.length < 2 ^ 60) : ∃ (d : D) (s' : Sx), d ∈ xs ∧ St (n + 1) s' ∧ Rn E 2 "_law_pick" [.mut, .lst xs] s d s' := by
  obtain ⟨i, s', hi, h', R⟩ := rn_draw T h hn (many := xs.length) (List.length_pos_iff.mpr hx) hx2
  refine ⟨xs[i], s', List.getElem_mem hi, h', ?_⟩
  have kd : s.isSome = s'.isSome := by rw [h.some, h'.some]
  refine T.d__law_pick.rn sc__law_pick kd rfl fun fa cdv A outer sh H0 EX S0 p hr => ?_
  conv => arg 2; whnf
  refine bk_cons (bs_ret (ed_ix (ed_var 1 rfl (.inl rfl) rfl) (ed_cl (ea_cons (ed_var 0 rfl (.inl rfl) rfl) (ea_cons (ed_len T.bf (ed_var 1 rfl (.inl rfl) rfl) rfl) ea_nil)) (hr.mono (by decide)) R) ?_) ⟨rfl, rfl⟩)
  show atI xs (i : Int) = some xs[i]
  unfold atI ixN
  simp [hi]
theorem rn_pickM (T : Tc E) {α : Type} {n : Nat} (f : α → D) (ls : List α) (h : St n s) (hn : n < 2 ^ 40) (hx : ls ≠ []) (hx2 : ls.length < 2 ^ 60) : ∃ (l : α) (s' : Sx), l ∈ ls ∧ St (n + 1) s' ∧ Rn E 2 "_law_pick" [.mut, .lst (ls.map f)] s (f l) s' := by
  obtain ⟨d, s', m, h', R⟩ := rn_pick T h hn (xs := ls.map f) (by simpa using hx) (by simpa using hx2)
  obtain ⟨l, ml, rfl⟩ := List.mem_map.mp m
  exact ⟨l, s', ml, h', R⟩
theorem rn_source (T : Tc E) {ns : List Int} {k : Nat} (hk : k < 2 ^ 40) (hl : ns.length < 2 ^ 40) : ∃ c z : Nat, z < 2 ^ 31 ∧ RnL E 1 "_law_source" [.scr ns, .int k] none [.int c, .int z, .int 0] none := by
  let cell : Int := if h : k < ns.length then (ns[k].natAbs : Int) else (cutD ns none (some 1)).sum % 1000003 + 11 * k + 3
  have hc0 : 0 ≤ cell := by
    simp only [cell]
    split
    · omega
    · have := Int.emod_nonneg (cutD ns none (some 1)).sum (show (1000003 : Int) ≠ 0 by decide)
      omega
  let fold : Nat → Int := fun i => (ns.take i).foldl (fun v o => (v * 31 + o + 7) % 2147483629) 41
  have hf : ∀ i, (fold i).natAbs < 2 ^ 100 := fun i => by
    suffices ∀ (l : List Int) (v : Int), v.natAbs < 2 ^ 100 → (l.foldl (fun v o => (v * 31 + o + 7) % 2147483629) v).natAbs < 2 ^ 100 from this _ _ (by omega)
    intro l
    induction l with
    | nil => exact fun v h => h
    | cons o l ih =>
      intro v _
      refine ih _ ?_
      show ((v * 31 + o + 7) % 2147483629).natAbs < 2 ^ 100
      have h1 := Int.emod_lt_of_pos (v * 31 + o + 7) (show (0 : Int) < 2147483629 by decide)
      have h2 := Int.emod_nonneg (v * 31 + o + 7) (show (2147483629 : Int) ≠ 0 by decide)
      omega
  have hz : ((fold ns.length + cell + 977 * k) % 2147483629).toNat < 2 ^ 31 := by
    have := Int.emod_lt_of_pos (fold ns.length + cell + 977 * k) (show (0 : Int) < 2147483629 by decide)
    omega
  refine ⟨if 10 ^ 18 ≤ cell then (cell / 2).toNat else 0, ((fold ns.length + cell + 977 * k) % 2147483629).toNat, hz, ?_⟩
  refine T.d__law_source.rnL sc__law_source rfl rfl fun fa cdv A outer sh H0 EX S0 p hr => ?_
  conv => arg 2; whnf
  refine bkl_cons (bs_set 2 (d := .int (fold 0)) sc__law_source.nd rfl (.inl rfl) ed_int ?_)
  refine bkl_cons (bs_for PassesOwn.never rfl (ei_scr (ed_var 0 rfl (.inl rfl) rfl)) (fun i ρ s' => s' = none ∧ ∃ g, ρ = [.val (.scr ns), .val (.int k), .val (.int (fold i)), g, .no]) ⟨rfl, _, rfl⟩ ?_ ?_)
  · rintro i d ρ' s' hi ⟨rfl, g, rfl⟩
    rw [List.getElem?_map] at hi
    cases e : ns[i]? with
    | none => rw [e] at hi; cases hi
    | some o =>
      rw [e] at hi; cases hi
      refine ⟨_, _, eg_name 3 sc__law_source.nd rfl (.inl rfl), bk_cons (bs_set 2 sc__law_source.nd rfl (.inl rfl) (ed_bin (ed_intI T.bf (ed_bin (ed_bin (ed_bin (ed_var 2 rfl (.inl rfl) rfl) ed_int rfl (mulS (hf i) (by decide))) (ed_var 3 rfl (.inl rfl) rfl) rfl trivial) ed_int rfl trivial)) ed_int rfl (by show (0 : Int) < 2147483629; decide)) (bk_nil ⟨rfl, .val (.int o), ?_⟩))⟩
      have e2 : fold (i + 1) = (fold i * 31 + o + 7) % 2147483629 := by
        show (ns.take (i + 1)).foldl _ _ = _
        rw [List.take_add_one, e]
        simp [fold]
      rw [e2]; rfl
  · rintro ρ' s' ⟨rfl, g, rfl⟩
    rw [List.length_map]
    refine bkl_cons (bs_set 4 (d := .int cell) (s1 := none) sc__law_source.nd rfl (.inl rfl) ?_ ?_)
    · by_cases h : k < ns.length
      · have e : cell = (ns[k].natAbs : Int) := by simp [cell, h]
        rw [e]
        refine ed_ifT (Cp.et ((cp_lt (ed_var 1 rfl (.inl rfl) rfl) (ed_len T.bf (ed_var 0 rfl (.inl rfl) rfl) rfl)).is (decide_eq_true (by omega)))) (ed_abs T.bf (ed_ixS (ed_var 0 rfl (.inl rfl) rfl) (ed_var 1 rfl (.inl rfl) rfl) (atI_nat' (List.getElem?_eq_getElem h))))
      · refine ed_ifF (Cp.et ((cp_lt (ed_var 1 rfl (.inl rfl) rfl) (ed_len T.bf (ed_var 0 rfl (.inl rfl) rfl) rfl)).is (decide_eq_false (by omega)))) (Ed.is (ed_bin (ed_bin (ed_bin (ed_intI T.bf (ed_sum T.bf rfl (El.ed (el_sliceS (ed_var 0 rfl (.inl rfl) rfl) .none (.some ed_int))))) ed_int rfl (by show (0 : Int) < 1000003; decide)) (ed_bin ed_int (ed_var 1 rfl (.inl rfl) rfl) rfl (mulS (by decide) (by omega))) rfl trivial) ed_int rfl trivial) ?_)
        simp only [cell, h, dite_false]
    refine bkl_ret (el_lst (ea_cons (Ed.is (ed_if (Cp.et (cp_ge (ed_var 4 rfl (.inl rfl) rfl) (ed_bin ed_int ed_int rfl ⟨by decide, by decide, by decide⟩))) (fun _ => (ed_bin (ed_var 4 rfl (.inl rfl) rfl) ed_int rfl (wide_div (i := cell) (b := 60) (by decide) (by decide) (by decide) (by decide)))) (fun _ => ed_int)) ?_) (ea_cons (Ed.is (ed_bin (ed_intI T.bf (ed_bin (ed_bin (ed_var 2 rfl (.inl rfl) rfl) (ed_var 4 rfl (.inl rfl) rfl) rfl trivial) (ed_bin ed_int (ed_var 1 rfl (.inl rfl) rfl) rfl (mulS (by decide) (by omega))) rfl trivial)) ed_int rfl (by show (0 : Int) < 2147483629; decide)) ?_) (ea_cons ed_int ea_nil))))
    · show (if decide ((10 : Int) ^ (18 : Int).toNat ≤ cell) = true then D.int (cell / 2) else D.int 0) = _
      by_cases hc : (10 : Int) ^ 18 ≤ cell
      · have e : decide ((10 : Int) ^ (18 : Int).toNat ≤ cell) = true := decide_eq_true hc
        rw [e, if_pos hc, Int.toNat_of_nonneg (by omega)]; rfl
      · have e : decide ((10 : Int) ^ (18 : Int).toNat ≤ cell) = false := decide_eq_false hc
        rw [e, if_neg hc]; rfl
    · exact congrArg D.int (Int.toNat_of_nonneg (Int.emod_nonneg _ (by decide))).symm
/-! the same: of data with themselves -/
theorem rn_same_int (T : Tc E) (i : Int) : Rn E 1 "_law_same" [.int i, .int i] s (.bl true) s := by
  refine T.d__law_same.rn sc__law_same rfl rfl fun fa cdv A outer sh H0 EX S0 p hr => ?_
  conv => arg 2; whnf
  refine bk_cons (bs_ifF (et_val ((ed_isi T.bf (ed_var 1 rfl (.inr (.inl rfl)) rfl) rfl (cn_dict T.bf)).is rfl)) (bk_nil ?_))
  refine bk_cons (bs_ifF (et_val ((ed_isiT T.bf (ed_var 1 rfl (.inr (.inl rfl)) rfl) rfl (cns_cons (cn_list T.bf) (cns_cons (cn_tuple T.bf) cns_nil))).is rfl)) (bk_nil ?_))
  refine bk_cons (bs_ifT (et_val ((ed_isi T.bf (ed_var 1 rfl (.inr (.inl rfl)) rfl) rfl (cn_int T.bf)).is rfl)) (bk_cons ?_))
  exact bs_ret (ed_andT ((ed_isi T.bf (ed_var 0 rfl (.inr (.inl rfl)) rfl) rfl (cn_int T.bf)).is rfl) (ed_andT ((Cp.ed (cp_eq hr (ed_isi T.bf (ed_var 0 rfl (.inr (.inl rfl)) rfl) rfl (cn_bool T.bf)) (ed_isi T.bf (ed_var 1 rfl (.inr (.inl rfl)) rfl) rfl (cn_bool T.bf)) (eqC_bl _) (eqC_bl _))).is (by simp [D.eqb, D.py, PyData.eqv])) (ed_one ((Cp.ed (cp_eq hr (ed_var 0 rfl (.inr (.inl rfl)) rfl) (ed_var 1 rfl (.inr (.inl rfl)) rfl) (eqC_int _) (eqC_int _))).is (by rw [eqb_int, decide_eq_true rfl]))))) ⟨rfl, rfl⟩
theorem rn_same_non (T : Tc E) : Rn E 1 "_law_same" [.non, .non] s (.bl true) s := by
  refine T.d__law_same.rn sc__law_same rfl rfl fun fa cdv A outer sh H0 EX S0 p hr => ?_
  conv => arg 2; whnf
  refine bk_cons (bs_ifF (et_val ((ed_isi T.bf (ed_var 1 rfl (.inr (.inl rfl)) rfl) rfl (cn_dict T.bf)).is rfl)) (bk_nil ?_))
  refine bk_cons (bs_ifF (et_val ((ed_isiT T.bf (ed_var 1 rfl (.inr (.inl rfl)) rfl) rfl (cns_cons (cn_list T.bf) (cns_cons (cn_tuple T.bf) cns_nil))).is rfl)) (bk_nil ?_))
  refine bk_cons (bs_ifF (et_val ((ed_isi T.bf (ed_var 1 rfl (.inr (.inl rfl)) rfl) rfl (cn_int T.bf)).is rfl)) (bk_nil ?_))
  exact bk_cons (bs_ret (ed_andT (Ed.is (Cp.ed (cp_isB (ed_isiT T.bf (ed_var 0 rfl (.inr (.inl rfl)) rfl) rfl (cns_cons (cn_int T.bf) (cns_cons (cn_list T.bf) (cns_cons (cn_tuple T.bf) (cns_cons (cn_dict T.bf) cns_nil))))) ed_bl)) rfl) (ed_one (Ed.is (Cp.ed (cp_eq hr (ed_var 0 rfl (.inr (.inl rfl)) rfl) (ed_var 1 rfl (.inr (.inl rfl)) rfl) eqC_non eqC_non)) (by simp [D.eqb, D.py, PyData.eqv])))) ⟨rfl, rfl⟩)
theorem zip_self {xs : List D} {i : Nat} {d : D} (h : (zipD xs xs)[i]? = some d) : ∃ y ∈ xs, d = .tup [y, y] := by
  unfold zipD at h
  rw [List.getElem?_zipWith] at h
  cases e : xs[i]? with
  | none => rw [e] at h; cases h
  | some y => rw [e] at h; cases h; exact ⟨y, List.mem_of_getElem? e, rfl⟩
theorem rn_same_seq (T : Tc E) {k : Nat} {x : D} {xs : List D} (hx : x = .lst xs ∨ x = .tup xs) (hl : xs.length ≤ 1000) (h : ∀ x ∈ xs, ∀ s, Rn E (k + 1) "_law_same" [x, x] s (.bl true) s) : Rn E (k + 2) "_law_same" [x, x] s (.bl true) s := by
  have hz : (zipD xs xs).length = xs.length := by simp [zipD]
  rcases hx with rfl | rfl <;> refine T.d__law_same.rn sc__law_same rfl rfl fun fa cdv A outer sh H0 EX S0 p hr => ?_ <;> conv => arg 2; whnf
  all_goals
    refine bk_cons (bs_ifF (et_val ((ed_isi T.bf (ed_var 1 rfl (.inr (.inl rfl)) rfl) rfl (cn_dict T.bf)).is rfl)) (bk_nil ?_))
    refine bk_cons (bs_ifT (et_val ((ed_isiT T.bf (ed_var 1 rfl (.inr (.inl rfl)) rfl) rfl (cns_cons (cn_list T.bf) (cns_cons (cn_tuple T.bf) cns_nil))).is rfl)) (bk_cons ?_))
    refine bs_ifF (Ew.et (ew_orF (Cp.et ((cp_ne hr (ed_isi T.bf (ed_var 0 rfl (.inr (.inl rfl)) rfl) rfl (cn_list T.bf)) (ed_isi T.bf (ed_var 1 rfl (.inr (.inl rfl)) rfl) rfl (cn_list T.bf)) (eqC_bl _) (eqC_bl _)).is (by simp [D.eqb, D.py, PyData.eqv]))) (ew_or1 (Cp.et ((cp_ne hr (ed_isi T.bf (ed_var 0 rfl (.inr (.inl rfl)) rfl) rfl (cn_tuple T.bf)) (ed_isi T.bf (ed_var 1 rfl (.inr (.inl rfl)) rfl) rfl (cn_tuple T.bf)) (eqC_bl _) (eqC_bl _)).is (by simp [D.eqb, D.py, PyData.eqv])))))) (bk_nil (bk_cons ?_))
    refine bs_ret (ed_andT ((Cp.ed (cp_eq hr (ed_len T.bf (ed_var 0 rfl (.inr (.inl rfl)) rfl) rfl) (ed_len T.bf (ed_var 1 rfl (.inr (.inl rfl)) rfl) rfl) (eqC_int _) (eqC_int _))).is (by rw [eqb_int, decide_eq_true rfl])) (ed_one (Ed.is (ed_all T.bf rfl (bs := List.replicate xs.length true) (Ed.is (El.ed (el_map [("_law_x", 3), ("_law_y", 4)] (fun _ => .bl true) rfl sc__law_same.nd (ei_zipM T.bf (ed_var 0 rfl (.inr (.inl rfl)) rfl) (by first | exact .inl rfl | exact .inr rfl) (ed_var 1 rfl (.inr (.inl rfl)) rfl) (by first | exact .inl rfl | exact .inr rfl)) (blkOk_by rfl) (by rw [hz]; exact Nat.le_trans hl (by decide)) (fun i d hi => ?_))) ?_)) ?_))) ⟨rfl, rfl⟩
    · obtain ⟨y, m, rfl⟩ := zip_self hi
      exact ⟨_, _, fun c => eg_tup rfl (egs_cons (eg_name 3 sc__law_same.nd rfl (.inl rfl)) (egs_cons (eg_name 4 sc__law_same.nd rfl (.inl rfl)) egs_nil)), by decide, fun c => ed_cl (ea_cons (ed_var 3 rfl (.inl rfl) rfl) (ea_cons (ed_var 4 rfl (.inl rfl) rfl) ea_nil)) hr (h y m _)⟩
    · rw [List.map_replicate, List.map_const', hz]
    · rw [List.all_replicate]; simp
end Law
set_option Elab.async false
set_option linter.all false
set_option maxRecDepth 100000
set_option maxHeartbeats 4000000
namespace Law
open PySem PySem.Spec PyProof.Rows L2 Gh Rr
variable {E : En} {s : Sx}
/-- [f(draws, x) for x in xs], told turn by turn -/
theorem mapTrace {f : Str} {k a n : Nat} {xs : List D} {P : D → D → Prop} (h : St n s) (hf : ∀ d ∈ xs, ∀ m s, St m s → m ≤ n + a * xs.length → ∃ y s', P d y ∧ St (m + a) s' ∧ Rn E k f [.mut, d] s y s') :
    ∃ tr : Nat → List D × Sx, tr 0 = ([], s) ∧ (∀ i, i ≤ xs.length → (tr i).1.length = i ∧ (∀ (j : Nat) (y : D), (tr i).1[j]? = some y → ∃ d, xs[j]? = some d ∧ P d y) ∧ St (n + a * i) (tr i).2) ∧
      ∀ i, i < xs.length → ∃ d y, xs[i]? = some d ∧ Rn E k f [.mut, d] (tr i).2 y (tr (i + 1)).2 ∧ (tr (i + 1)).1 = (tr i).1 ++ [y] := by
  obtain ⟨tr, t0, tg, ts⟩ := trace (α := List D × Sx) (N := xs.length) (R := fun x y => ∃ d v, xs[x.1.length]? = some d ∧ Rn E k f [.mut, d] x.2 v y.2 ∧ y.1 = x.1 ++ [v])
    (G := fun i x => x.1.length = i ∧ (∀ (j : Nat) (y : D), x.1[j]? = some y → ∃ d, xs[j]? = some d ∧ P d y) ∧ St (n + a * i) x.2) ([], s) ⟨rfl, (fun j v e => by cases e), by simpa using h⟩ (by
      rintro i ⟨hs, s1⟩ hi ⟨h1, h2, h3⟩
      dsimp only at h1 h2 h3
      have hd : xs[hs.length]? = some (xs[hs.length]'(by rw [h1]; exact hi)) := List.getElem?_eq_getElem _
      have hle : n + a * i ≤ n + a * xs.length := Nat.add_le_add_left (Nat.mul_le_mul_left _ (Nat.le_of_lt hi)) _
      obtain ⟨y, s2, p1, p2, p3⟩ := hf _ (List.mem_of_getElem? hd) _ _ h3 hle
      refine ⟨(hs ++ [y], s2), ⟨_, y, hd, p3, rfl⟩, by simp [h1], fun j u e => ?_, by rw [Nat.mul_succ, ← Nat.add_assoc]; exact p2⟩
      rcases Nat.lt_or_ge j hs.length with z | z
      · rw [List.getElem?_append_left z] at e; exact h2 j u e
      · rw [List.getElem?_append_right z] at e
        cases zz : j - hs.length with
        | zero =>
          rw [zz] at e; cases e
          have : j = hs.length := by omega
          subst this
          exact ⟨_, hd, p1⟩
        | succ m => rw [zz] at e; cases e)
  refine ⟨tr, t0, tg, fun i hi => ?_⟩
  obtain ⟨d, y, k1, k2, k3⟩ := ts i hi
  rw [(tg i (Nat.le_of_lt hi)).1] at k1
  exact ⟨d, y, k1, k2, k3⟩
theorem rn_is_float (T : Tc E) (t : Th) : Rn E 1 "_law_is_float" [thD t] s (.bl (match t with | .flt .. => true | _ => false)) s := by
  refine T.d__law_is_float.rn sc__law_is_float rfl rfl fun fa cdv A outer sh H0 EX S0 p hr => ?_
  conv => arg 2; whnf
  cases t with
  | text z t => exact bk_cons (bs_ret (Ed.is (Cp.ed (cp_eq hr (ed_len T.bf (ed_var 0 rfl (.inl rfl) rfl) rfl) ed_int (eqC_int _) (eqC_int _))) (by rw [eqb_int]; rfl)) ⟨rfl, rfl⟩)
  | flt l w h => exact bk_cons (bs_ret (Ed.is (Cp.ed (cp_eq hr (ed_len T.bf (ed_var 0 rfl (.inl rfl) rfl) rfl) ed_int (eqC_int _) (eqC_int _))) (by rw [eqb_int]; rfl)) ⟨rfl, rfl⟩)
theorem rn_loose_atom (T : Tc E) {x : D} {k : Kn} (hk : x.kind = some k) (h : isL k = false) : Rn E 1 "_law_loose" [.mut, x] s x s := by
  refine T.d__law_loose.rn sc__law_loose rfl rfl fun fa cdv A outer sh H0 EX S0 p hr => ?_
  conv => arg 2; whnf
  refine bk_cons (bs_ifF (et_val ((ed_isiT T.bf (ed_var 1 rfl (.inl rfl) rfl) hk (cns_cons (cn_list T.bf) (cns_cons (cn_tuple T.bf) cns_nil))).is (congrArg D.bl h))) (bk_nil ?_))
  exact bk_cons (bs_ret (ed_var 1 rfl (.inl rfl) rfl) ⟨rfl, rfl⟩)
/-- loosened: a list or a tuple of loosened parts -/
theorem rn_loose_seq (T : Tc E) {k a n : Nat} {x : D} {xs : List D} {P : D → D → Prop} (hx : x = .lst xs ∨ x = .tup xs) (hl : xs.length ≤ 1000) (h : St n s) (hn : n + a * xs.length < 2 ^ 40)
    (hf : ∀ d ∈ xs, ∀ m s, St m s → m ≤ n + a * xs.length → ∃ y s', P d y ∧ St (m + a) s' ∧ Rn E (k + 2) "_law_loose" [.mut, d] s y s') :
    ∃ (y : D) (ys : List D) (s' : Sx), (y = .lst ys ∨ y = .tup ys) ∧ ys.length = xs.length ∧ (∀ (j : Nat) (v : D), ys[j]? = some v → ∃ d, xs[j]? = some d ∧ P d v) ∧ St (n + a * xs.length + 1) s' ∧ Rn E (k + 3) "_law_loose" [.mut, x] s y s' := by
  obtain ⟨tr, t0, tg, ts⟩ := mapTrace h hf
  obtain ⟨g1, g2, g3⟩ := tg xs.length (Nat.le_refl _)
  obtain ⟨y, s', hy, h', R⟩ := rn_pick T g3 (by omega) (xs := [.lst (tr xs.length).1, .tup (tr xs.length).1]) (by simp) (by simp)
  have hy : y = .lst (tr xs.length).1 ∨ y = .tup (tr xs.length).1 := by simpa using hy
  refine ⟨y, (tr xs.length).1, s', hy, g1, g2, h', ?_⟩
  have hkk : ∃ kk, x.kind = some kk ∧ isL kk = true := by rcases hx with rfl | rfl <;> exact ⟨_, rfl, rfl⟩
  obtain ⟨kk, hk, hL⟩ := hkk
  refine T.d__law_loose.rn sc__law_loose (by rw [h.some, h'.some]) rfl fun fa cdv A outer sh H0 EX S0 p hr => ?_
  conv => arg 2; whnf
  refine bk_cons (bs_ifT (et_val ((ed_isiT T.bf (ed_var 1 rfl (.inl rfl) rfl) hk (cns_cons (cn_list T.bf) (cns_cons (cn_tuple T.bf) cns_nil))).is (congrArg D.bl hL))) ?_)
  refine bk_cons (bs_setLc 2 [("_law_part", 3)] rfl sc__law_loose.nd rfl rfl (sw_true rfl rfl rfl (by decide +kernel)) (out := fun i => (tr i).1) (st := fun i => (tr i).2) (by rw [t0]; exact ei_seq (ed_var 1 rfl (.inl rfl) rfl) hx) (blkOk_by rfl) ⟨by rw [t0], fun i hi => by rw [(tg i hi).1]; exact Nat.le_trans hi (small hl), fun i d hd => ?_⟩ ?_)
  · have hi : i < xs.length := (List.getElem?_eq_some_iff.mp hd).1
    obtain ⟨d', v, k1, k2, k3⟩ := ts i hi
    rw [hd] at k1
    cases k1
    exact ⟨_, _, fun c => eg_name 3 sc__law_loose.nd rfl (.inl rfl), by decide, true, (tr i).2, fun c => .inl ⟨rfl, rfl, rfl⟩, fun _ => ⟨v, fun c => ed_cl (ea_cons (ed_var 0 rfl (.inr (.inl rfl)) rfl) (ea_cons (ed_var 3 rfl (.inl rfl) rfl) ea_nil)) hr k2, k3⟩, fun z => by cases z⟩
  · refine bk_freeze 2 rfl ?_
    exact bk_cons (bs_ret (ed_cl (ea_cons (ed_var 0 rfl (.inr (.inl rfl)) rfl) (ea_cons (El.ed (el_lst (ea_cons (ed_var 2 rfl (.inl rfl) rfl) (ea_cons (ed_tupleOf T.bf (ed_var 2 rfl (.inl rfl) rfl) (.inl rfl)) ea_nil)))) ea_nil)) (hr.mono (by omega)) R) ⟨rfl, rfl⟩)
theorem rn_loose_thing (T : Tc E) {n : Nat} (t : Th) (h : St n s) (hn : n + 10 < 2 ^ 40) : ∃ (y : D) (s' : Sx), Ls y t ∧ St (n + 1) s' ∧ Rn E 3 "_law_loose" [.mut, thD t] s y s' := by
  have hl : (fs t).length ≤ 3 := by cases t <;> simp [fs]
  obtain ⟨y, ys, s', h1, h2, h3, h4, R⟩ := rn_loose_seq (k := 0) (a := 0) T (x := thD t) (xs := fs t) (P := fun d y => y = d) (.inr rfl) (by omega) h (by omega) (fun d hd m s hs _ => by
    refine ⟨d, s, rfl, hs, ?_⟩
    have : ∃ k, d.kind = some k ∧ isL k = false := by
      cases t with
      | text z t =>
        simp only [fs, List.mem_cons, List.not_mem_nil, or_false] at hd
        rcases hd with rfl | rfl <;> exact ⟨_, rfl, rfl⟩
      | flt l w h =>
        simp only [fs, List.mem_cons, List.not_mem_nil, or_false] at hd
        rcases hd with rfl | rfl | rfl <;> exact ⟨_, rfl, rfl⟩
    obtain ⟨k, hk, hL⟩ := this
    exact (rn_loose_atom T hk hL).mono (by decide))
  have e : ys = fs t := by
    refine List.ext_getElem? fun i => ?_
    cases e : ys[i]? with
    | none =>
      rw [List.getElem?_eq_none_iff] at e
      rw [List.getElem?_eq_none (by omega)]
    | some v =>
      obtain ⟨d, e1, rfl⟩ := h3 i v e
      exact e1.symm
  subst e
  exact ⟨y, s', h1, by simpa using h4, R⟩
theorem rn_loose_run (T : Tc E) {n : Nat} {r : List Th} (hl : r.length ≤ 100) (h : St n s) (hn : n + 1000 < 2 ^ 40) : ∃ (y : D) (ys : List D) (s' : Sx), LsR y ys r ∧ St (n + r.length + 1) s' ∧ Rn E 4 "_law_loose" [.mut, .lst (r.map thD)] s y s' := by
  obtain ⟨y, ys, s', h1, h2, h3, h4, R⟩ := rn_loose_seq (k := 1) (a := 1) T (x := .lst (r.map thD)) (xs := r.map thD) (P := fun d y => ∃ t, d = thD t ∧ Ls y t) (.inl rfl) (by rw [List.length_map]; omega) h (by rw [List.length_map]; omega) (fun d hd m s hs hm => by
    obtain ⟨t, _, rfl⟩ := List.mem_map.mp hd
    rw [List.length_map] at hm
    obtain ⟨y, s', p1, p2, p3⟩ := rn_loose_thing T t hs (by omega)
    exact ⟨y, s', ⟨t, rfl, p1⟩, p2, p3⟩)
  rw [List.length_map] at h2 h4
  refine ⟨y, ys, s', ⟨h1, h2, fun i d t e1 e2 => ?_⟩, h4.mono (by omega), R⟩
  obtain ⟨d', e3, t', e4, p⟩ := h3 i d e1
  rw [List.getElem?_map, e2] at e3
  cases e3
  have : t' = t := by
    have e5 : thD t = thD t' := e4
    cases t <;> cases t' <;> simp [thD, fs] at e5 <;> first | skip
    · obtain ⟨a, b⟩ := e5
      have b2 : (txt _).cps = (txt _).cps := congrArg Str.cps b
      simp [txt] at b2
      rw [Int.ofNat_inj.mp a, b2]
    · obtain ⟨a, b, c⟩ := e5
      rename_i l _ _ l' _ _
      have : l = l' := by
        cases l <;> cases l' <;> first | rfl | (exfalso; revert a; decide +kernel)
      rw [this, Int.ofNat_inj.mp b, Int.ofNat_inj.mp c]
  rw [← this]; exact p
end Law
set_option Elab.async false
set_option linter.all false
set_option maxRecDepth 100000
set_option maxHeartbeats 4000000
namespace Law
open PySem PySem.Spec PyProof.Rows L2 Gh Rr
variable {E : En} {s : Sx}
def pieces : List (List Nat) := [[97], [97, 98], [97, 45, 98], [120, 46, 57, 122], [32], [32], [32, 32], [98, 32]]
theorem pieces_eq : ([D.str "a", .str "ab", .str "a-b", .str "x.9z", .str " ", .str " ", .str "  ", .str "b "] : List D) = pieces.map fun p => .str (txt p) := by
  have e : ([("a" : Str), "ab", "a-b", "x.9z", " ", " ", "  ", "b "] : List Str) = pieces.map txt := by decide +kernel
  have := congrArg (List.map D.str) e
  rw [List.map_map] at this
  exact this
theorem pieces_ok {q : List Nat} (h : q ∈ pieces) : q.length ≤ 4 ∧ ∀ c ∈ q, c ∈ codes := by
  rw [codes_eq]
  simp only [pieces, List.mem_cons, List.not_mem_nil, or_false] at h
  rcases h with rfl | rfl | rfl | rfl | rfl | rfl | rfl | rfl <;> exact ⟨by decide, by decide⟩
theorem txt_append (a b : List Nat) : txt a ++ txt b = txt (a ++ b) := by
  show (⟨(txt a).cps ++ (txt b).cps⟩ : Str) = _
  simp [txt]
theorem txt_length (a : List Nat) : (txt a).length = a.length := by
  show (txt a).cps.size = _
  simp [txt]
theorem rn_some_text (T : Tc E) {n : Nat} {zs : List Nat} (h : St n s) (hn : n + 100 < 2 ^ 40) (hz : zs ≠ []) (hz1 : ∀ z ∈ zs, 0 < z ∧ z ≤ 5) (hz2 : zs.length ≤ 1000) : ∃ (z : Nat) (t : List Nat) (s' : Sx), Gd (.text z t) ∧ St (n + 6) s' ∧ Rn E 3 "_law_some_text" [.mut, .lst (nsD zs)] s (thD (.text z t)) s' := by
  obtain ⟨m, s1, hm, h1, R1⟩ := rn_draw T h (by omega) (many := 4) (by decide) (by decide)
  obtain ⟨tr, t0, tg, ts⟩ := trace (α := List Nat × Sx) (N := 1 + m) (R := fun x y => ∃ q, Rn E 2 "_law_pick" [.mut, .lst (pieces.map fun p => .str (txt p))] x.2 (.str (txt q)) y.2 ∧ y.1 = x.1 ++ q)
    (G := fun i x => x.1.length ≤ 4 * i ∧ (∀ c ∈ x.1, c ∈ codes) ∧ St (n + 1 + i) x.2) ([], s1) ⟨by simp, by simp, h1⟩ (by
      rintro i ⟨cs, s2⟩ hi ⟨g1, g2, g3⟩
      dsimp only at g1 g2 g3
      obtain ⟨q, s3, hq, h3, R⟩ := rn_pickM T (fun p => D.str (txt p)) pieces g3 (by omega) (by decide) (by decide)
      obtain ⟨p1, p2⟩ := pieces_ok hq
      refine ⟨(cs ++ q, s3), ⟨q, R, rfl⟩, by simp; omega, fun c hc => ?_, h3⟩
      rcases List.mem_append.mp hc with hc | hc
      · exact g2 c hc
      · exact p2 c hc)
  obtain ⟨g1, g2, g3⟩ := tg (1 + m) (Nat.le_refl _)
  obtain ⟨z, s2, hz3, h2, R2⟩ := rn_pickM T (fun (p : Nat) => D.int (p : Int)) zs g3 (by omega) hz (by omega)
  refine ⟨z, (tr (1 + m)).1, s2, ⟨⟨(hz1 z hz3).1, (hz1 z hz3).2, by omega⟩, g2⟩, h2.mono (by omega), ?_⟩
  refine T.d__law_some_text.rn sc__law_some_text (by rw [h.some, h2.some]) rfl fun fa cdv A outer sh H0 EX S0 p hr => ?_
  conv => arg 2; whnf
  refine bk_cons (bs_set 2 (d := .str (txt [])) sc__law_some_text.nd rfl (.inl rfl) (Ed.is ed_str (congrArg D.str (by decide +kernel))) ?_)
  refine bk_cons (bs_for PassesOwn.never rfl (ei_range1 (j := ((1 + m : Nat) : Int)) T.bf (Ed.is (ed_bin ed_int (ed_cl (ea_cons (ed_var 0 rfl (.inl rfl) rfl) (ea_cons ed_int ea_nil)) (hr.mono (by decide)) R1) rfl trivial) (congrArg D.int (by omega))) (by omega) (by omega)) (fun i ρ s' => s' = (tr i).2 ∧ ∃ g, ρ = [.val .mut, .val (.lst (nsD zs)), .val (.str (txt (tr i).1)), g]) ⟨by rw [t0], _, by rw [t0]; rfl⟩ ?_ ?_)
  · rintro i d ρ' s' hi ⟨rfl, g, rfl⟩
    have hi2 : i < 1 + m := by
      have := (List.getElem?_eq_some_iff.mp hi).1
      rw [rangeD_length] at this; omega
    obtain ⟨q, R, e⟩ := ts i hi2
    obtain ⟨k1, k2, k3⟩ := tg (i + 1) hi2
    rw [e] at k1
    rw [List.length_append] at k1
    refine ⟨_, _, eg_name 3 sc__law_some_text.nd rfl (.inl rfl), bk_cons (bs_set 2 (d := .str (txt (tr (i + 1)).1)) sc__law_some_text.nd rfl (.inl rfl) (Ed.is (ed_bin (ed_var 2 rfl (.inl rfl) rfl) (ed_cl (ea_cons (ed_var 0 rfl (.inl rfl) rfl) (ea_cons (El.ed (El.is (el_lst (ea_cons ed_str (ea_cons ed_str (ea_cons ed_str (ea_cons ed_str (ea_cons ed_str (ea_cons ed_str (ea_cons ed_str (ea_cons ed_str ea_nil))))))))) pieces_eq)) ea_nil)) (hr.mono (by decide)) R) rfl ?_) ?_) (bk_nil ⟨rfl, _, rfl⟩))⟩
    · show (txt (tr i).1).length + (txt q).length ≤ sizeLine
      rw [txt_length, txt_length]
      exact small (by omega)
    · rw [txt_append, e]
  · rintro ρ' s' ⟨rfl, g, rfl⟩
    have e : (rangeD 0 (((1 + m : Nat) : Int)).toNat).length = 1 + m := by rw [rangeD_length]; omega
    rw [e]
    exact bk_cons (bs_ret (ed_tup (ea_cons (ed_cl (ea_cons (ed_var 0 rfl (.inl rfl) rfl) (ea_cons (ed_var 1 rfl (.inl rfl) rfl) ea_nil)) (hr.mono (by decide)) R2) (ea_cons (ed_var 2 rfl (.inl rfl) rfl) ea_nil))) ⟨rfl, rfl⟩)
theorem rn_some_float (T : Tc E) {n m : Nat} (h : St n s) (hn : n + 100 < 2 ^ 40) (hm : m ≤ 50) : ∃ (l : Bool) (w h : Nat) (s' : Sx), Gd (.flt l w h) ∧ St (n + 3) s' ∧ Rn E 3 "_law_some_float" [.mut, .int m] s (thD (.flt l w h)) s' := by
  obtain ⟨y, s1, hy, h1, R1⟩ := rn_pickM T (fun (p : Nat) => D.int (p : Int)) [0, 1, 2, 3, 5, 8, 4, 6] h (by omega) (by decide) (by decide)
  obtain ⟨l, s2, hl, h2, R2⟩ := rn_pickM T (fun (p : Bool) => D.str (sideD p)) [true, true, false] h1 (by omega) (by decide) (by decide)
  obtain ⟨w, s3, hw, h3, R3⟩ := rn_draw T h2 (by omega) (many := m + 1) (by omega) (by omega)
  have hy2 : y ≤ 8 := by
    simp only [List.mem_cons, List.not_mem_nil, or_false] at hy
    omega
  refine ⟨l, w, y, s3, ⟨⟨by omega, by omega⟩, fun c hc => by simp [Th.cs] at hc⟩, h3, ?_⟩
  refine T.d__law_some_float.rn sc__law_some_float (by rw [h.some, h3.some]) rfl fun fa cdv A outer sh H0 EX S0 p hr => ?_
  conv => arg 2; whnf
  refine bk_cons (bs_set 2 sc__law_some_float.nd rfl (.inl rfl) (ed_cl (ea_cons (ed_var 0 rfl (.inl rfl) rfl) (ea_cons (El.ed (el_lst (ea_cons ed_int (ea_cons ed_int (ea_cons ed_int (ea_cons ed_int (ea_cons ed_int (ea_cons ed_int (ea_cons ed_int (ea_cons ed_int ea_nil)))))))))) ea_nil)) (hr.mono (by decide)) R1) ?_)
  exact bk_cons (bs_ret (ed_tup (ea_cons (ed_cl (ea_cons (ed_var 0 rfl (.inl rfl) rfl) (ea_cons (El.ed (el_lst (ea_cons ed_str (ea_cons ed_str (ea_cons ed_str ea_nil))))) ea_nil)) (hr.mono (by decide)) R2) (ea_cons (ed_cl (ea_cons (ed_var 0 rfl (.inl rfl) rfl) (ea_cons (Ed.is (ed_bin (ed_var 1 rfl (.inl rfl) rfl) ed_int rfl trivial) (congrArg D.int (show _ = ((m + 1 : Nat) : Int) by omega))) ea_nil)) (hr.mono (by decide)) R3) (ea_cons (ed_var 2 rfl (.inl rfl) rfl) ea_nil)))) ⟨rfl, rfl⟩)
def sizesL : List (List Nat) := [[1], [1, 2], [1, 2, 3], [2, 5]]
theorem rn_some_run (T : Tc E) {n many floats : Nat} (h : St n s) (hn : n + 1000 < 2 ^ 40) (hm : 1 ≤ many ∧ many ≤ 10) (hf : floats ≤ 10) : ∃ (r : List Th) (s' : Sx), RunOk r ∧ St (n + 2 + 7 * many) s' ∧ Rn E 4 "_law_some_run" [.mut, .int many, .int floats] s (.lst (r.map thD)) s' := by
  obtain ⟨zs, s1, hzs, h1, R1⟩ := rn_pickM T (fun (p : List Nat) => D.lst (nsD p)) sizesL h (by omega) (by decide) (by decide)
  obtain ⟨N, s2, hN, h2, R2⟩ := rn_pickM T (fun (p : Nat) => D.int (p : Int)) [0, 1, many / 2, many, many, many] h1 (by omega) (by simp) (by simp)
  have hz1 : zs ≠ [] ∧ (∀ z ∈ zs, 0 < z ∧ z ≤ 5) ∧ zs.length ≤ 1000 := by
    simp only [sizesL, List.mem_cons, List.not_mem_nil, or_false] at hzs
    rcases hzs with rfl | rfl | rfl | rfl <;> exact ⟨by decide, by decide, by decide⟩
  have hN2 : N ≤ many := by
    simp only [List.mem_cons, List.not_mem_nil, or_false] at hN
    omega
  obtain ⟨tr, t0, tg, ts⟩ := trace (α := List Th × Nat × Sx) (N := N) (R := fun x y => (0 < x.2.1 ∧ ∃ (d : Nat) (sd : Sx), sd.isSome = true ∧ Rn E 1 "_law_draw" [.mut, .int 5] x.2.2 (.int d) sd ∧ ((2 < d ∧ ∃ t, Rn E 3 "_law_some_float" [.mut, .int 9] sd (thD t) y.2.2 ∧ y.1 = x.1 ++ [t] ∧ y.2.1 = x.2.1 - 1) ∨ (d ≤ 2 ∧ ∃ t, Rn E 3 "_law_some_text" [.mut, .lst (nsD zs)] sd (thD t) y.2.2 ∧ y.1 = x.1 ++ [t] ∧ y.2.1 = x.2.1))) ∨
      (x.2.1 = 0 ∧ ∃ t, Rn E 3 "_law_some_text" [.mut, .lst (nsD zs)] x.2.2 (thD t) y.2.2 ∧ y.1 = x.1 ++ [t] ∧ y.2.1 = 0))
    (G := fun i x => x.1.length = i ∧ (∀ t ∈ x.1, Gd t) ∧ x.2.1 ≤ 10 ∧ St (n + 2 + 7 * i) x.2.2) ([], floats, s2) ⟨rfl, by simp, hf, h2⟩ (by
      rintro i ⟨r, fr', sx⟩ hi ⟨g1, g2, g3, g4⟩
      dsimp only at g1 g2 g3 g4
      have app : ∀ t, Gd t → ∀ u ∈ r ++ [t], Gd u := fun t gt u hu => by
        rcases List.mem_append.mp hu with hu | hu
        · exact g2 u hu
        · rw [List.mem_singleton.mp hu]; exact gt
      by_cases hfr : 0 < fr'
      · obtain ⟨d, sd, hd, hsd, Rd⟩ := rn_draw T g4 (by omega) (many := 5) (by decide) (by decide)
        by_cases hd2 : 2 < d
        · obtain ⟨l, w, h, s3, gd, h3, R3⟩ := rn_some_float T hsd (by omega) (m := 9) (by decide)
          exact ⟨(r ++ [.flt l w h], fr' - 1, s3), .inl ⟨hfr, d, sd, hsd.some, Rd, .inl ⟨hd2, _, R3, rfl, rfl⟩⟩, by simp [g1], app _ gd, by simp; omega, h3.mono (by omega)⟩
        · obtain ⟨z, t, s3, gd, h3, R3⟩ := rn_some_text T hsd (by omega) hz1.1 hz1.2.1 hz1.2.2
          exact ⟨(r ++ [.text z t], fr', s3), .inl ⟨hfr, d, sd, hsd.some, Rd, .inr ⟨by omega, _, R3, rfl, rfl⟩⟩, by simp [g1], app _ gd, g3, h3.mono (by omega)⟩
      · obtain ⟨z, t, s3, gd, h3, R3⟩ := rn_some_text T g4 (by omega) hz1.1 hz1.2.1 hz1.2.2
        exact ⟨(r ++ [.text z t], 0, s3), .inr ⟨by simp; omega, _, R3, rfl, rfl⟩, by simp [g1], app _ gd, by simp, h3.mono (by omega)⟩)
  obtain ⟨g1, g2, g3, g4⟩ := tg N (Nat.le_refl _)
  refine ⟨(tr N).1, (tr N).2.2, ⟨g2, by omega⟩, g4.mono (by omega), ?_⟩
  refine T.d__law_some_run.rn sc__law_some_run (by rw [h.some, g4.some]) rfl fun fa cdv A outer sh H0 EX S0 p hr => ?_
  conv => arg 2; whnf
  refine bk_cons (bs_par3G 3 4 5 rfl sc__law_some_run.nd rfl rfl rfl (by decide) (by decide) (by decide) rfl rfl rfl (eag_val (ed_cl (ea_cons (ed_var 0 rfl (.inl rfl) rfl) (ea_cons (El.ed (el_lst (ea_cons (El.ed (el_lst (ea_cons ed_int ea_nil))) (ea_cons (El.ed (el_lst (ea_cons ed_int (ea_cons ed_int ea_nil)))) (ea_cons (El.ed (el_lst (ea_cons ed_int (ea_cons ed_int (ea_cons ed_int ea_nil))))) (ea_cons (El.ed (el_lst (ea_cons ed_int (ea_cons ed_int ea_nil)))) ea_nil)))))) ea_nil)) (hr.mono (by decide)) R1) (eag_own (el_lst ea_nil) (eag_val (ed_var 2 rfl (.inl rfl) rfl) eag_nil))) ?_)
  refine bk_cons (bs_for PassesOwn.never rfl (ei_range1 (j := (N : Int)) T.bf (ed_cl (ea_cons (ed_var 0 rfl (.inl rfl) rfl) (ea_cons (El.ed (el_lst (ea_cons ed_int (ea_cons ed_int (ea_cons (Ed.is (ed_bin (ed_var 1 rfl (.inl rfl) rfl) ed_int rfl (wide_div (i := (many : Int)) (b := 60) (by decide) (by decide) (by decide) (by decide))) (congrArg D.int (show _ = ((many / 2 : Nat) : Int) by omega))) (ea_cons (ed_var 1 rfl (.inl rfl) rfl) (ea_cons (ed_var 1 rfl (.inl rfl) rfl) (ea_cons (ed_var 1 rfl (.inl rfl) rfl) ea_nil)))))))) ea_nil)) (hr.mono (by decide)) R2) (by omega) (by omega)) (fun i ρ s' => s' = (tr i).2.2 ∧ ∃ g, ρ = [.val .mut, .val (.int many), .val (.int floats), .val (.lst (nsD zs)), .own ((tr i).1.map thD), .val (.int (tr i).2.1), g]) ⟨by rw [t0], _, by rw [t0]; rfl⟩ ?_ ?_)
  · rintro i d ρ' s' hi ⟨rfl, g, rfl⟩
    have hi2 : i < N := by
      have := (List.getElem?_eq_some_iff.mp hi).1
      rw [rangeD_length] at this; omega
    obtain ⟨q1, q2, q3, q4⟩ := tg i (by omega)
    have hsz : ((tr i).1.map thD).length < sizeLine := by
      rw [List.length_map, q1]; exact Nat.lt_of_le_of_lt (show i ≤ 1000 by omega) (by decide)
    refine ⟨_, _, eg_name 6 sc__law_some_run.nd rfl (.inl rfl), ?_⟩
    rcases ts i hi2 with ⟨hfr, dn, sd, hsd, Rd, ⟨hd, t, R3, e1, e2⟩ | ⟨hd, t, R3, e1, e2⟩⟩ | ⟨hfr, t, R3, e1, e2⟩
    · refine bk_cons (bs_ifT (Ew.et (ew_andT (Cp.et (Cp.is (cp_gt (ed_var 5 rfl (.inl rfl) rfl) ed_int) (decide_eq_true (by omega)))) (ew_and1 (Cp.et (Cp.is (cp_gt (ed_cl (ea_cons (ed_var 0 rfl (.inl rfl) rfl) (ea_cons ed_int ea_nil)) (hr.mono (by decide)) Rd) ed_int) (decide_eq_true (by omega))))))) ?_)
      refine bk_cons (bs_append 4 rfl (.inl rfl) rfl (ed_cl (ea_cons (ed_var 0 rfl (.inl rfl) rfl) (ea_cons ed_int ea_nil)) (hr.mono (by decide)) R3) hsz ?_)
      refine bk_cons (bs_set 5 (d := .int (((tr (i + 1)).2.1 : Nat) : Int)) sc__law_some_run.nd rfl (.inl rfl) (Ed.is (ed_bin (ed_var 5 rfl (.inl rfl) rfl) ed_int rfl trivial) (congrArg D.int (by rw [e2]; omega))) (bk_nil (bk_nil ⟨rfl, .val d, ?_⟩)))
      rw [e1, List.map_append]; rfl
    · refine bk_cons (bs_ifF (Ew.et (ew_andT (Cp.et (Cp.is (cp_gt (ed_var 5 rfl (.inl rfl) rfl) ed_int) (decide_eq_true (by omega)))) (ew_and1 (Cp.et (Cp.is (cp_gt (ed_cl (ea_cons (ed_var 0 rfl (.inl rfl) rfl) (ea_cons ed_int ea_nil)) (hr.mono (by decide)) Rd) ed_int) (decide_eq_false (by omega))))))) ?_)
      refine bk_cons (bs_append 4 rfl (.inl rfl) rfl (ed_cl (ea_cons (ed_var 0 rfl (.inl rfl) rfl) (ea_cons (ed_var 3 rfl (.inl rfl) rfl) ea_nil)) (hr.mono (by decide)) R3) hsz (bk_nil (bk_nil ⟨rfl, .val d, ?_⟩)))
      rw [e1, e2, List.map_append]; rfl
    · refine bk_cons (bs_ifF (Ew.et (ew_andF (Cp.et (Cp.is (cp_gt (ed_var 5 rfl (.inl rfl) rfl) ed_int) (decide_eq_false (by omega)))))) ?_)
      refine bk_cons (bs_append 4 rfl (.inl rfl) rfl (ed_cl (ea_cons (ed_var 0 rfl (.inl rfl) rfl) (ea_cons (ed_var 3 rfl (.inl rfl) rfl) ea_nil)) (hr.mono (by decide)) R3) hsz (bk_nil (bk_nil ⟨rfl, .val d, ?_⟩)))
      rw [e1, e2, List.map_append, hfr]; rfl
  · rintro ρ' s' ⟨rfl, g, rfl⟩
    have e : (rangeD 0 ((N : Int)).toNat).length = N := by rw [rangeD_length]; omega
    rw [e]
    exact bk_freeze 4 rfl (bk_cons (bs_ret (ed_var 4 rfl (.inl rfl) rfl) ⟨rfl, rfl⟩))
end Law
set_option Elab.async false
set_option linter.all false
set_option maxRecDepth 100000
set_option maxHeartbeats 4000000
namespace Rr
theorem iter_proj {α β : Type} {f : Nat → α → α} {f' : Nat → β → β} (g : α → β) (h : ∀ k x, g (f k x) = f' k (g x)) (a : α) : ∀ k, g (iter f a k) = iter f' (g a) k
  | 0 => rfl
  | k + 1 => by
    show g (f k (iter f a k)) = f' k (iter f' (g a) k)
    rw [h, iter_proj g h a k]
end Rr
namespace Law
open PySem PySem.Spec PyProof.Rows L2 Gh Rr
variable {E : En} {s : Sx}
/-- the law's own walk: words, the order of words and floats, floats held -/
structure Ms where
  w : Ws
  o : List D
  h : List D
  m : Nat
def Ms.spot (c : Nat) (x : Ms) : Nat := if c ≠ 32 ∧ x.w.opn = true then x.o.length - 1 else x.o.length
def Ms.o1 (c : Nat) (x : Ms) : List D := x.o.take (x.spot c) ++ x.h ++ x.o.drop (x.spot c)
def Ms.sign (i p z c : Nat) (x : Ms) : Ms := ⟨x.w.sign i p z c, if c ≠ 32 ∧ x.w.opn = false then x.o1 c ++ [.tup [.str "word", .int (x.w.found.length : Nat)]] else x.o1 c, [], x.m⟩
def Ms.thing (i : Nat) (t : Th) (x : Ms) : Ms := match t with
  | .text z t => iter (fun p x => x.sign i p z (t.getD p 0)) x t.length
  | .flt .. => ⟨x.w, x.o, x.h ++ [.tup [.str "float", .int (x.m : Nat)]], x.m + 1⟩
def mscan (r : List Th) (n : Nat) : Ms := iter (fun i x => match r[i]? with | some t => x.thing i t | none => x) ⟨w0, [], [], 0⟩ n
theorem mthing_w (i : Nat) (t : Th) (x : Ms) : (x.thing i t).w = x.w.thing i t := by
  cases t with
  | text z t => exact iter_proj Ms.w (fun k x => rfl) x t.length
  | flt l w h => rfl
theorem mscan_w (r : List Th) (n : Nat) : (mscan r n).w = scan r n := iter_proj Ms.w (fun k x => by cases r[k]? with | none => rfl | some t => exact mthing_w k t x) _ n
theorem mscan_succ {r : List Th} {k : Nat} {t : Th} (h : r[k]? = some t) : mscan r (k + 1) = (mscan r k).thing k t := by
  show (match r[k]? with | some t => (mscan r k).thing k t | none => mscan r k) = _
  rw [h]
structure Ms.Ok (b : Nat) (x : Ms) : Prop where
  len : x.o.length + x.h.length ≤ b
  opn : x.w.opn = true → 0 < x.o.length
theorem o1_len (c : Nat) (x : Ms) : (x.o1 c).length = x.o.length + x.h.length := by
  unfold Ms.o1
  simp only [List.length_append, List.length_take, List.length_drop]
  omega
theorem sign_opn (i p z c : Nat) (w : Ws) : (w.sign i p z c).opn = decide (c ≠ 32) := by
  unfold Ws.sign
  split
  · rename_i h; simp [h]
  · rename_i h; split <;> simp [h]
theorem Ms.Ok.sign {b : Nat} {x : Ms} (ok : x.Ok b) (i p z c : Nat) : (x.sign i p z c).Ok (b + 1) := by
  have h1 := o1_len c x
  have h2 := ok.len
  refine ⟨?_, fun ho => ?_⟩
  · show (if c ≠ 32 ∧ x.w.opn = false then x.o1 c ++ [_] else x.o1 c).length + 0 ≤ b + 1
    split
    · rw [List.length_append]; simp; omega
    · omega
  · have : c ≠ 32 := by
      have := sign_opn i p z c x.w
      rw [show (x.w.sign i p z c).opn = true from ho] at this
      simpa using this.symm
    show 0 < (if c ≠ 32 ∧ x.w.opn = false then x.o1 c ++ [_] else x.o1 c).length
    split
    · simp
    · rename_i hn
      have : x.w.opn = true := by
        cases e : x.w.opn with
        | true => rfl
        | false => exact absurd ⟨this, e⟩ hn
      have := ok.opn this
      omega
theorem mthing_ok {b : Nat} {x : Ms} (ok : x.Ok b) {t : Th} (sm : t.Sm 5 16) (i : Nat) : (x.thing i t).Ok (b + 16) := by
  cases t with
  | text z t =>
    have := iter_inv' (f := fun p x => Ms.sign i p z (t.getD p 0) x) (a := x) (fun k y => y.Ok (b + k)) ok t.length (fun k y _ h => h.sign _ _ _ _) t.length (Nat.le_refl _)
    have hl : t.length ≤ 16 := sm.2.2
    exact ⟨Nat.le_trans this.len (by omega), this.opn⟩
  | flt l w h =>
    refine ⟨?_, ok.opn⟩
    show x.o.length + (x.h ++ [_]).length ≤ b + 16
    have := ok.len
    rw [List.length_append]; simp; omega
theorem mscan_ok {r : List Th} (g : ∀ t ∈ r, Gd t) : ∀ k, k ≤ r.length → (mscan r k).Ok (16 * k) := by
  intro k hk
  refine iter_inv' (fun k (x : Ms) => x.Ok (16 * k)) ⟨by simp, fun h => by cases h⟩ r.length (fun k x hk ok => ?_) k hk
  have e : r[k]? = some r[k] := List.getElem?_eq_getElem hk
  simp only [e]
  have := mthing_ok ok (g r[k] (List.getElem_mem hk)).1 k
  exact ⟨Nat.le_trans this.len (by omega), this.opn⟩
abbrev mfr (x : D) (M : Ms) : List G := [.val x, .own (M.w.found.map wdD), .own M.o, .own M.h, .val (.bl M.w.opn), .val (.int M.w.gap), .val (.int (M.m : Nat))]
def ordD (r : List Th) : List D := (mscan r r.length).o ++ (mscan r r.length).h
theorem rn_met_in (T : Tc E) {r : List Th} (ok : RunOk r) : Rn E 2 "_law_met_in" [.lst (r.map thD)] s (.tup [wsD (words r), .lst (ordD r)]) s := by
  have g := ok.g
  have hl := ok.len
  refine T.d__law_met_in.rn sc__law_met_in rfl rfl fun fa cdv A outer sh H0 EX S0 p hr => ?_
  conv => arg 2; whnf
  refine bk_cons (bs_unpack (is := [1, 2, 3, 4, 5, 6]) rfl sc__law_met_in.nd (nms_cons rfl (.inl rfl) (nms_cons rfl (.inl rfl) (nms_cons rfl (.inl rfl) (nms_cons rfl (.inl rfl) (nms_cons rfl (.inl rfl) (nms_cons rfl (.inl rfl) nms_nil)))))) (eag_own (el_lst ea_nil) (eag_own (el_lst ea_nil) (eag_own (el_lst ea_nil) (eag_val ed_bl (eag_val ed_int (eag_val ed_int eag_nil)))))) rfl ?_)
  refine bk_cons (bs_for PassesOwn.never rfl (ei_enum T.bf (ed_var 0 rfl (.inl rfl) rfl)) (fun i ρ s' => s' = s ∧ ∃ gs, gs.length = 9 ∧ ρ = mfr (.lst (r.map thD)) (mscan r i) ++ gs) ⟨rfl, _, rfl, rfl⟩ ?_ ?_)
  · rintro i d ρ' s' hi ⟨rfl, gs, hgs, rfl⟩
    obtain ⟨y, hy, rfl⟩ := enumD_inv hi
    rw [List.getElem?_map] at hy
    cases ht : r[i]? with
    | none => rw [ht] at hy; cases hy
    | some t =>
    rw [ht] at hy; cases hy
    have gt := g t (List.mem_of_getElem? ht)
    have hir : i < r.length := (List.getElem?_eq_some_iff.mp ht).1
    have okS := scan_ok (m := 5) (l := 16) (fun t m => (g t m).1) i (by omega)
    have okM := mscan_ok g i (by omega)
    have es := mscan_succ ht
    match gs, hgs with
    | [g7, g8, g9, g10, g11, g12, g13, g14, g15], _ =>
    refine ⟨_, _, eg_tup rfl (egs_cons (eg_name 7 sc__law_met_in.nd rfl (.inl rfl)) (egs_cons (eg_name 8 sc__law_met_in.nd rfl (.inl rfl)) egs_nil)), ?_⟩
    cases t with
    | flt l w h =>
      refine bk_cons (bs_ifT (et_val (ed_cl (ea_cons (ed_var 8 rfl (.inl rfl) rfl) ea_nil) (hr.mono (by decide)) (rn_is_float T _))) ?_)
      refine bk_cons (bs_append 3 rfl (.inl rfl) rfl (ed_tup (ea_cons ed_str (ea_cons (ed_var 6 rfl (.inl rfl) rfl) ea_nil))) (Nat.lt_of_le_of_lt (show (mscan r i).h.length ≤ 1000 by have := okM.len; omega) (by decide)) ?_)
      refine bk_cons (bs_set 6 (d := .int (((mscan r i).m + 1 : Nat) : Int)) sc__law_met_in.nd rfl (.inl rfl) (Ed.is (ed_bin (ed_var 6 rfl (.inl rfl) rfl) ed_int rfl trivial) (congrArg D.int (by omega))) (bk_nil ?_))
      refine bk_cons (bs_for PassesOwn.never rfl (ei_enumS (z := "") T.bf (ed_ifT (et_val (ed_cl (ea_cons (ed_var 8 rfl (.inl rfl) rfl) ea_nil) (hr.mono (by decide)) (rn_is_float T _))) ed_str)) (fun _ ρ s1 => s1 = s' ∧ ∃ gs, gs.length = 9 ∧ ρ = mfr (.lst (r.map thD)) (mscan r (i + 1)) ++ gs) ⟨rfl, [.val (.int i), .val (thD (.flt l w h)), g9, g10, g11, g12, g13, g14, g15], rfl, by rw [es]; rfl⟩ (fun j d ρ s1 hj => by
        have : (enumD (sgns "")) = [] := by decide +kernel
        rw [this] at hj; cases hj) ?_)
      rintro ρ' s1 ⟨rfl, gs, hgs, rfl⟩
      exact bk_nil ⟨rfl, gs, hgs, rfl⟩
    | text z t =>
      obtain ⟨⟨hz0, hz5, hl16⟩, hcs⟩ := gt
      refine bk_cons (bs_ifF (et_val (ed_cl (ea_cons (ed_var 8 rfl (.inl rfl) rfl) ea_nil) (hr.mono (by decide)) (rn_is_float T _))) (bk_nil ?_))
      refine bk_cons (bs_for PassesOwn.never rfl (ei_enumS (z := txt t) T.bf (ed_ifF (et_val (ed_cl (ea_cons (ed_var 8 rfl (.inl rfl) rfl) ea_nil) (hr.mono (by decide)) (rn_is_float T _))) (ed_ix (ed_var 8 rfl (.inl rfl) rfl) ed_int rfl))) (fun j ρ s1 => s1 = s' ∧ ∃ gs, gs.length = 7 ∧ ρ = mfr (.lst (r.map thD)) (iter (fun p x => x.sign i p z (t.getD p 0)) (mscan r i) j) ++ [.val (.int i), .val (thD (.text z t))] ++ gs) ⟨rfl, _, rfl, rfl⟩ ?_ ?_)
      · rintro j d ρ' s1 hj ⟨rfl, gs, hgs, rfl⟩
        obtain ⟨y, hy, rfl⟩ := enumD_inv hj
        rw [signs_txt, List.getElem?_map] at hy
        cases hc : t[j]? with
        | none => rw [hc] at hy; cases hy
        | some c =>
        rw [hc] at hy; cases hy
        have hjt : j < t.length := (List.getElem?_eq_some_iff.mp hc).1
        have c128 := codes_lt (hcs c (List.mem_of_getElem? hc))
        have okW := sign_ok (i := i) okS (t := .text z t) (m := 5) (l := 16) ⟨hz0, hz5, hl16⟩ j (Nat.le_of_lt hjt)
        have okX := iter_inv' (f := fun p x => Ms.sign i p z (t.getD p 0) x) (a := mscan r i) (fun k y => y.Ok (16 * i + k)) okM t.length (fun k y _ h => h.sign _ _ _ _) j (Nat.le_of_lt hjt)
        have ewp : (iter (fun p x => Ms.sign i p z (t.getD p 0) x) (mscan r i) j).w = iter (fun p s => s.sign i p z (t.getD p 0)) (scan r i) j := by
          rw [← mscan_w]; exact iter_proj Ms.w (fun k x => rfl) _ j
        have egd : t.getD j 0 = c := by rw [List.getD_eq_getElem?_getD, hc]; rfl
        have ew : iter (fun p x => Ms.sign i p z (t.getD p 0) x) (mscan r i) (j + 1) = (iter (fun p x => Ms.sign i p z (t.getD p 0) x) (mscan r i) j).sign i j z c := by
          show Ms.sign i j z (t.getD j 0) _ = _
          rw [egd]
        rw [ew]
        have okW : (iter (fun p x => Ms.sign i p z (t.getD p 0) x) (mscan r i) j).w.Ok (5 * 16 * i + 5 * j) := by rw [ewp]; exact okW
        generalize iter (fun p x => Ms.sign i p z (t.getD p 0) x) (mscan r i) j = M at okW okX ⊢
        clear ew ewp
        obtain ⟨⟨fd, gp, op⟩, o, hd, mm⟩ := M
        have hol : o.length + hd.length ≤ 900 := by have := okX.len; simp only at this; omega
        match gs, hgs with
        | [g9, g10, g11, g12, g13, g14, g15], _ =>
        refine ⟨_, _, eg_tup rfl (egs_cons (eg_name 9 sc__law_met_in.nd rfl (.inl rfl)) (egs_cons (eg_name 10 sc__law_met_in.nd rfl (.inl rfl)) egs_nil)), ?_⟩
        have hspl : (Ms.spot c ⟨⟨fd, gp, op⟩, o, hd, mm⟩) ≤ o.length := by unfold Ms.spot; simp only; split <;> omega
        refine bk_cons (bs_set 11 (d := .int ((Ms.spot c ⟨⟨fd, gp, op⟩, o, hd, mm⟩ : Nat) : Int)) (s1 := s1) sc__law_met_in.nd rfl (.inl rfl) ?_ ?_)
        · by_cases h32 : c = 32
          · have e : Ms.spot c ⟨⟨fd, gp, op⟩, o, hd, mm⟩ = o.length := by unfold Ms.spot; rw [if_neg (by simp [h32])]
            rw [e]
            exact ed_ifF (Ew.et (ew_andF (Cp.et (Cp.is (cp_ne hr (ed_var 10 rfl (.inl rfl) rfl) ed_str (strC c128) strL) (by rw [eqb_blank, decide_eq_true h32]; rfl))))) (ed_lenV T.bf (ev_own 2 rfl (.inl rfl) rfl))
          · cases op with
            | true =>
              have e : Ms.spot c ⟨⟨fd, gp, true⟩, o, hd, mm⟩ = o.length - 1 := by unfold Ms.spot; rw [if_pos ⟨h32, rfl⟩]
              have h0 := okX.opn rfl
              rw [e]
              exact ed_ifT (Ew.et (ew_andT (Cp.et (Cp.is (cp_ne hr (ed_var 10 rfl (.inl rfl) rfl) ed_str (strC c128) strL) (by rw [eqb_blank, decide_eq_false h32]; rfl))) (ew_and1 (et_val (ed_var 4 rfl (.inl rfl) rfl))))) (Ed.is (ed_bin (ed_lenV T.bf (ev_own 2 rfl (.inl rfl) rfl)) ed_int rfl trivial) (congrArg D.int (by dsimp only at h0 ⊢; omega)))
            | false =>
              have e : Ms.spot c ⟨⟨fd, gp, false⟩, o, hd, mm⟩ = o.length := by unfold Ms.spot; rw [if_neg (by simp)]
              rw [e]
              exact ed_ifF (Ew.et (ew_andT (Cp.et (Cp.is (cp_ne hr (ed_var 10 rfl (.inl rfl) rfl) ed_str (strC c128) strL) (by rw [eqb_blank, decide_eq_false h32]; rfl))) (ew_and1 (et_val (ed_var 4 rfl (.inl rfl) rfl))))) (ed_lenV T.bf (ev_own 2 rfl (.inl rfl) rfl))
        generalize hsp : Ms.spot c ⟨⟨fd, gp, op⟩, o, hd, mm⟩ = sp at hspl ⊢
        have eo1 : Ms.o1 c ⟨⟨fd, gp, op⟩, o, hd, mm⟩ = o.take sp ++ hd ++ o.drop sp := by unfold Ms.o1; rw [hsp]
        refine bk_cons (bs_parOO 2 3 (xs := Ms.o1 c ⟨⟨fd, gp, op⟩, o, hd, mm⟩) rfl sc__law_met_in.nd rfl rfl (by decide) rfl rfl (El.is (el_catV (by rw [List.length_append, cut_to _ _ hspl, cut_from _ _ hspl, List.length_take, List.length_drop]; exact small (by dsimp only at hol ⊢; omega)) (El.ev (el_catV (by rw [cut_to _ _ hspl, List.length_take]; exact small (by dsimp only at hol ⊢; omega)) (El.ev (el_sliceV (ev_own 2 rfl (.inl rfl) rfl) .none (.some (ed_var 11 rfl (.inl rfl) rfl)))) (ev_own 3 rfl (.inl rfl) rfl))) (El.ev (el_sliceV (ev_own 2 rfl (.inl rfl) rfl) (.some (ed_var 11 rfl (.inl rfl) rfl)) .none))) (by rw [eo1, cut_to _ _ hspl, cut_from _ _ hspl])) (el_lst ea_nil) ?_)
        have ho1 : (Ms.o1 c ⟨⟨fd, gp, op⟩, o, hd, mm⟩).length ≤ 900 := by rw [o1_len]; exact hol
        unfold Ms.sign
        generalize Ms.o1 c ⟨⟨fd, gp, op⟩, o, hd, mm⟩ = o1 at ho1 ⊢
        by_cases h32 : c = 32
        · have e2 : Ws.sign i j z c ⟨fd, gp, op⟩ = ⟨fd, if gp = 0 ∧ fd ≠ [] then z else gp, false⟩ := if_pos h32
          rw [e2]
          rw [if_neg (show ¬ (c ≠ 32 ∧ (⟨⟨fd, gp, op⟩, o, hd, mm⟩ : Ms).w.opn = false) from fun q => q.1 h32)]
          refine bk_cons (bs_ifT (Cp.et (Cp.is (cp_eq hr (ed_var 10 rfl (.inl rfl) rfl) ed_str (strC c128) strL) (by rw [eqb_blank, decide_eq_true h32]))) ?_)
          refine bk_cons (bs_set 5 (d := .int ((if gp = 0 ∧ fd ≠ [] then z else gp : Nat) : Int)) (s1 := s1) sc__law_met_in.nd rfl (.inl rfl) ?_ (bk_nil ?_))
          · by_cases hg : gp = 0
            · by_cases hf : fd = []
              · rw [if_neg (by simp [hf])]
                exact ed_ifF (Ew.et (ew_andT (Cp.et (Cp.is (cp_eq hr (ed_var 5 rfl (.inl rfl) rfl) ed_int (eqC_int _) (eqC_int _)) (by rw [eqb_int, decide_eq_true (by dsimp only; omega)]))) (ew_and1 (Cp.et (Cp.is (cp_neV hr (ev_own 1 rfl (.inl rfl) rfl) (El.ev (el_lst ea_nil)) (wds_eqC _) nil_eqC) (by rw [lst_nil, isEmpty_map, decide_eq_true hf]; rfl)))))) (ed_var 5 rfl (.inl rfl) rfl)
              · rw [if_pos ⟨hg, hf⟩]
                exact ed_ifT (Ew.et (ew_andT (Cp.et (Cp.is (cp_eq hr (ed_var 5 rfl (.inl rfl) rfl) ed_int (eqC_int _) (eqC_int _)) (by rw [eqb_int, decide_eq_true (by dsimp only; omega)]))) (ew_and1 (Cp.et (Cp.is (cp_neV hr (ev_own 1 rfl (.inl rfl) rfl) (El.ev (el_lst ea_nil)) (wds_eqC _) nil_eqC) (by rw [lst_nil, isEmpty_map, decide_eq_false hf]; rfl)))))) (ed_ix (ed_var 8 rfl (.inl rfl) rfl) ed_int rfl)
            · rw [if_neg (by omega)]
              exact ed_ifF (Ew.et (ew_andF (Cp.et (Cp.is (cp_eq hr (ed_var 5 rfl (.inl rfl) rfl) ed_int (eqC_int _) (eqC_int _)) (by rw [eqb_int, decide_eq_false (by dsimp only; omega)]))))) (ed_var 5 rfl (.inl rfl) rfl)
          · refine bk_cons (bs_set 4 (d := .bl false) sc__law_met_in.nd rfl (.inl rfl) (Ed.is (Cp.ed (cp_ne hr (ed_var 10 rfl (.inl rfl) rfl) ed_str (strC c128) strL)) (by rw [eqb_blank, decide_eq_true h32]; rfl)) (bk_nil ⟨rfl, [.val (.int j), .val (.str ⟨#[c]⟩), .val (.int sp), g12, g13, g14, g15], rfl, rfl⟩))
        · refine bk_cons (bs_ifF (Cp.et (Cp.is (cp_eq hr (ed_var 10 rfl (.inl rfl) rfl) ed_str (strC c128) strL) (by rw [eqb_blank, decide_eq_false h32]))) ?_)
          cases op with
          | true =>
            have e2 : Ws.sign i j z c ⟨fd, gp, true⟩ = ⟨Rr.bump fd z, gp, true⟩ := by unfold Ws.sign; rw [if_neg h32]; rfl
            rw [e2, if_neg (show ¬ (c ≠ 32 ∧ (⟨⟨fd, gp, true⟩, o, hd, mm⟩ : Ms).w.opn = false) from fun q => by cases q.2)]
            obtain ⟨x, hx⟩ := last_of (okW.opn rfl)
            have hlen : 0 < fd.length := List.length_pos_iff.mpr (okW.opn rfl)
            have hx2 : (fd.map wdD).getLast? = some (wdD x) := by rw [List.getLast?_map, hx]; rfl
            refine bk_cons (bs_ifT (et_val (ed_var 4 rfl (.inl rfl) rfl)) ?_)
            refine bk_cons (bs_asg (ed_ixV (ev_own 1 rfl (.inl rfl) rfl) (ed_neg ed_int) (atI_last hx2)) (eg_tup rfl (egs_cons (eg_name 12 sc__law_met_in.nd rfl (.inl rfl)) (egs_cons (eg_name 13 sc__law_met_in.nd rfl (.inl rfl)) (egs_cons (eg_name 14 sc__law_met_in.nd rfl (.inl rfl)) (egs_cons (eg_name 15 sc__law_met_in.nd rfl (.inl rfl)) egs_nil))))) ?_)
            refine bk_cons (bs_asgM (d := wdD { x with w := x.w + z, h := max x.h (2 * z) }) (Ed.is (ed_tup (ea_cons (ed_var 12 rfl (.inl rfl) rfl) (ea_cons (ed_bin (ed_var 13 rfl (.inl rfl) rfl) (ed_ix (ed_var 8 rfl (.inl rfl) rfl) ed_int rfl) rfl trivial) (ea_cons (ed_max2 T.bf rfl (ed_var 14 rfl (.inl rfl) rfl) (ed_bin ed_int (ed_ix (ed_var 8 rfl (.inl rfl) rfl) ed_int rfl) rfl (mulS (by decide) (by omega)))) (ea_cons (ed_var 15 rfl (.inl rfl) rfl) ea_nil))))) (by simp [wdD]; omega)) (egm_sub 1 (j := fd.length - 1) rfl (.inl rfl) rfl (ed_neg ed_int) (by rw [List.length_map]; exact ixN_last hlen)) (bk_nil (bk_nil ?_)))
            refine bk_cons (bs_set 4 (d := .bl true) sc__law_met_in.nd rfl (.inl rfl) (Ed.is (Cp.ed (cp_ne hr (ed_var 10 rfl (.inl rfl) rfl) ed_str (strC c128) strL)) (by rw [eqb_blank, decide_eq_false h32]; rfl)) (bk_nil ⟨rfl, [.val (.int j), .val (.str ⟨#[c]⟩), .val (.int sp), .val (.tup [.int x.i, .int x.p]), .val (.int x.w), .val (.int x.h), .val (.int x.g)], rfl, ?_⟩))
            refine Eq.trans ?_ (congrArg (fun l : List D => ([.val (.lst (r.map thD)), .own l, .own o1, .own [], .val (.bl true), .val (.int gp), .val (.int (mm : Nat))] ++ [.val (.int i), .val (thD (.text z t))] ++ [.val (.int j), .val (.str ⟨#[c]⟩), .val (.int sp), .val (.tup [.int x.i, .int x.p]), .val (.int x.w), .val (.int x.h), .val (.int x.g)] : List G)) (bump_map hx z).symm)
            rfl
          | false =>
            have e2 : Ws.sign i j z c ⟨fd, gp, false⟩ = ⟨fd ++ [⟨i, j, z, 2 * z, gp⟩], 0, true⟩ := by unfold Ws.sign; rw [if_neg h32]; rfl
            rw [e2, if_pos (show c ≠ 32 ∧ (⟨⟨fd, gp, false⟩, o, hd, mm⟩ : Ms).w.opn = false from ⟨h32, rfl⟩)]
            have hfl : fd.length ≤ 1000 := by have := okW.len; simp only at this; omega
            refine bk_cons (bs_ifF (et_val (ed_var 4 rfl (.inl rfl) rfl)) ?_)
            refine bk_cons (bs_append 1 (d := wdD ⟨i, j, z, 2 * z, gp⟩) rfl (.inl rfl) rfl (Ed.is (ed_tup (ea_cons (ed_tup (ea_cons (ed_var 7 rfl (.inl rfl) rfl) (ea_cons (ed_var 9 rfl (.inl rfl) rfl) ea_nil))) (ea_cons (ed_ix (ed_var 8 rfl (.inl rfl) rfl) ed_int rfl) (ea_cons (ed_bin ed_int (ed_ix (ed_var 8 rfl (.inl rfl) rfl) ed_int rfl) rfl (mulS (by decide) (by omega))) (ea_cons (ed_var 5 rfl (.inl rfl) rfl) ea_nil))))) (by simp [wdD])) (by rw [List.length_map]; exact Nat.lt_of_le_of_lt hfl (by decide)) ?_)
            refine bk_cons (bs_parOV 2 5 rfl sc__law_met_in.nd rfl rfl (by decide) rfl rfl (el_catV (by simp; exact small (by omega)) (ev_own 2 rfl (.inl rfl) rfl) (El.ev (el_lst (ea_cons (ed_tup (ea_cons ed_str (ea_cons (Ed.is (ed_bin (ed_lenV T.bf (ev_own 1 rfl (.inl rfl) rfl)) ed_int rfl trivial) (congrArg D.int (show _ = ((fd.length : Nat) : Int) by simp))) ea_nil))) ea_nil)))) ed_int (bk_nil (bk_nil ?_)))
            refine bk_cons (bs_set 4 (d := .bl true) sc__law_met_in.nd rfl (.inl rfl) (Ed.is (Cp.ed (cp_ne hr (ed_var 10 rfl (.inl rfl) rfl) ed_str (strC c128) strL)) (by rw [eqb_blank, decide_eq_false h32]; rfl)) (bk_nil ⟨rfl, [.val (.int j), .val (.str ⟨#[c]⟩), .val (.int sp), g12, g13, g14, g15], rfl, ?_⟩))
            simp only [mfr, List.map_append, List.map_cons, List.map_nil]
            rfl
      · rintro ρ' s1 ⟨rfl, gs, hgs, rfl⟩
        refine bk_nil ⟨rfl, [.val (.int i), .val (thD (.text z t))] ++ gs, by simp [hgs], ?_⟩
        rw [es, enumD_length, signs_txt, List.length_map, List.append_assoc]
        rfl
  · rintro ρ' s' ⟨rfl, gs, hgs, rfl⟩
    rw [enumD_length, List.length_map]
    have okM := mscan_ok g r.length (Nat.le_refl _)
    refine bk_freeze 1 rfl ?_
    refine bk_cons (bs_ret (ed_tup (ea_cons (ed_var 1 rfl (.inl rfl) rfl) (ea_cons (El.ed (el_catV (small (by have := okM.len; omega)) (ev_own 2 rfl (.inl rfl) rfl) (ev_own 3 rfl (.inl rfl) rfl))) ea_nil))) ⟨?_, rfl⟩)
    unfold words
    rw [← mscan_w]; rfl
end Law
set_option Elab.async false
set_option linter.all false
set_option maxRecDepth 100000
set_option maxHeartbeats 4000000
namespace Rr
/-- a row's width, the law's way -/
theorem rowW_sums (ws : List Wd) : ∀ (b a : Nat), a ≤ b → b ≤ ws.length → rowW ws a b = (((ws.drop a).take (b - a)).map (·.w)).sum + (((ws.drop (a + 1)).take (b - (a + 1))).map (·.g)).sum
  | 0, a, h, _ => by
    have : a = 0 := by omega
    subst this; simp [rowW]
  | b + 1, a, h, hb => by
    rcases Nat.lt_or_ge a b with z | z
    · rw [rowW_succ ws z, rowW_sums ws b a (by omega) (by omega)]
      have e1 : ws.getD b ⟨0, 0, 0, 0, 0⟩ = ws.getD b dW := rfl
      rw [e1]
      have t1 : (ws.drop a).take (b + 1 - a) = (ws.drop a).take (b - a) ++ [ws.getD b dW] := by
        rw [show b + 1 - a = (b - a) + 1 by omega, List.take_add_one, List.getElem?_drop, show a + (b - a) = b by omega, List.getElem?_eq_getElem (by omega), List.getD_eq_getElem?_getD, List.getElem?_eq_getElem (by omega)]; rfl
      have t2 : (ws.drop (a + 1)).take (b + 1 - (a + 1)) = (ws.drop (a + 1)).take (b - (a + 1)) ++ [ws.getD b dW] := by
        rw [show b + 1 - (a + 1) = (b - (a + 1)) + 1 by omega, List.take_add_one, List.getElem?_drop, show a + 1 + (b - (a + 1)) = b by omega, List.getElem?_eq_getElem (by omega), List.getD_eq_getElem?_getD, List.getElem?_eq_getElem (by omega)]; rfl
      rw [t1, t2]
      simp; omega
    · rcases Nat.lt_or_ge b a with z2 | z2
      · have : a = b + 1 := by omega
        subst this
        simp [rowW]
      · have : a = b := by omega
        subst this
        rw [rowW_one, show a + 1 - a = 1 by omega, show a + 1 - (a + 1) = 0 by omega, drop_cons (by omega)]
        simp; rfl
end Rr
namespace Law
open PySem PySem.Spec PyProof.Rows L2 Gh Rr
variable {E : En} {s : Sx}
theorem cut_mid {α : Type} (xs : List α) (a b : Nat) (hb : b ≤ xs.length) : cutD xs (some (a : Int)) (some (b : Int)) = (xs.drop a).take (b - a) := by
  unfold Gh.cutD
  rw [HT.sIx_nat, HT.sIx_nat, Nat.min_eq_left hb]
  rcases Nat.le_total a xs.length with z | z
  · rw [Nat.min_eq_left z]
  · rw [Nat.min_eq_right z, List.drop_of_length_le (Nat.le_refl _), List.drop_of_length_le z]; simp
def unW : D → Wd
  | .tup [.tup [.int i, .int p], .int w, .int h, .int g] => ⟨i.toNat, p.toNat, w.toNat, h.toNat, g.toNat⟩
  | _ => dW
theorem unW_wd (w : Wd) : unW (wdD w) = w := by simp [unW, wdD]
theorem cut_wd (ws : List Wd) {a b : Nat} (hb : b ≤ ws.length) : cutD (ws.map wdD) (some (a : Int)) (some (b : Int)) = ((ws.drop a).take (b - a)).map wdD := by
  rw [cut_mid _ _ _ (by simpa using hb), List.map_take, List.map_drop]
theorem rn_law_row (T : Tc E) {ws : List Wd} {a b : Nat} (ok : Wok ws) (hab : a ≤ b) (hb : b ≤ ws.length) : Rn E 1 "_law_row" [wsD ws, .int a, .int b] s (.int (rowW ws a b)) s := by
  have hl := ok.len
  refine T.d__law_row.rn sc__law_row rfl rfl fun fa cdv A outer sh H0 EX S0 p hr => ?_
  conv => arg 2; whnf
  refine bk_cons (bs_ret (Ed.is (ed_bin (ed_sum T.bf rfl (ns := (((ws.drop a).take (b - a)).map (·.w)).map fun (n : Nat) => (n : Int)) (Ed.is (El.ed (el_map [("_law_word", 3)] (fun d => .int ((unW d).w : Nat)) rfl sc__law_row.nd (ei_seq (El.ed (El.is (el_slice (ed_var 0 rfl (.inl rfl) rfl) (.some (ed_var 1 rfl (.inl rfl) rfl)) (.some (ed_var 2 rfl (.inl rfl) rfl))) (cut_wd ws hb))) (.inl rfl)) (blkOk_by rfl) (by rw [List.length_map, List.length_take, List.length_drop]; exact small (by omega)) (fun i d hi => ?_))) ?_)) (ed_sum T.bf rfl (ns := (((ws.drop (a + 1)).take (b - (a + 1))).map (·.g)).map fun (n : Nat) => (n : Int)) (Ed.is (El.ed (el_map [("_law_word", 3)] (fun d => .int ((unW d).g : Nat)) rfl sc__law_row.nd (ei_seq (El.ed (El.is (el_slice (i := some ((a + 1 : Nat) : Int)) (ed_var 0 rfl (.inl rfl) rfl) (.some (Ed.is (ed_bin (ed_var 1 rfl (.inl rfl) rfl) ed_int rfl trivial) (congrArg D.int (by omega)))) (.some (ed_var 2 rfl (.inl rfl) rfl))) (cut_wd ws hb))) (.inl rfl)) (blkOk_by rfl) (by rw [List.length_map, List.length_take, List.length_drop]; exact small (by omega)) (fun i d hi => ?_))) ?_)) rfl trivial) ?_) ⟨rfl, rfl⟩)
  · obtain ⟨w, _, rfl⟩ := List.mem_map.mp (List.mem_of_getElem? hi)
    refine ⟨_, _, fun c => eg_name 3 sc__law_row.nd rfl (.inl rfl), by decide, fun c => ?_⟩
    rw [unW_wd]
    exact ed_ix (ed_var 3 rfl (.inl rfl) rfl) ed_int rfl
  · congr 1
    rw [List.map_map, List.map_map, List.map_map]
    exact List.map_congr_left fun w _ => by simp only [Function.comp, unW_wd]
  · obtain ⟨w, _, rfl⟩ := List.mem_map.mp (List.mem_of_getElem? hi)
    refine ⟨_, _, fun c => eg_name 3 sc__law_row.nd rfl (.inl rfl), by decide, fun c => ?_⟩
    rw [unW_wd]
    exact ed_ix (ed_var 3 rfl (.inl rfl) rfl) ed_int rfl
  · congr 1
    rw [List.map_map, List.map_map, List.map_map]
    exact List.map_congr_left fun w _ => by simp only [Function.comp, unW_wd]
  · congr 1
    have c1 := cast_sum (fun n : Nat => n) (((ws.drop a).take (b - a)).map (·.w))
    have c2 := cast_sum (fun n : Nat => n) (((ws.drop (a + 1)).take (b - (a + 1))).map (·.g))
    rw [List.map_id'] at c1 c2
    rw [← c1, ← c2, rowW_sums ws b a hab hb]
    omega
/-- widths of floats -/
def fltW : Th → Nat
  | .flt _ w _ => w
  | _ => 0
def isF : Th → Bool
  | .flt .. => true
  | _ => false
def wide (r : List Th) : Nat := rowW (words r) 0 (words r).length + ((r.filter isF).map fltW).sum
def shrink (most : Nat) (r : List Th) (n : Nat) : List Th := iter (fun _ r => if most < wide r then r.dropLast else r) r n
theorem shrink_ok {r : List Th} (ok : RunOk r) (most n : Nat) : RunOk (shrink most r n) := by
  refine iter_inv (fun r => RunOk r) ok n (fun k r _ ok => ?_) n (Nat.le_refl _)
  split
  · exact ⟨fun t m => ok.g t (List.dropLast_subset _ m), by have := ok.len; rw [List.length_dropLast]; omega⟩
  · exact ok
def unTh : D → Th
  | .tup [.int z, .str t] => .text z.toNat t.cps.toList
  | .tup [.str s, .int w, .int h] => .flt (decide (s = "left")) w.toNat h.toNat
  | _ => .text 0 []
theorem unTh_th (t : Th) : unTh (thD t) = t := by
  cases t with
  | text z t => simp [unTh, thD, fs, txt]
  | flt l w h =>
    have : decide (sideD l = ("left" : Str)) = l := by cases l <;> decide +kernel
    simp [unTh, thD, fs, this]
theorem cut_last (xs : List D) : cutD xs none (some (-1)) = xs.dropLast := by
  simp only [Gh.cutD, HT.sIx, List.dropLast_eq_take]
  simp
  congr 1
  omega
end Law
set_option Elab.async false
set_option linter.all false
set_option maxRecDepth 100000
set_option maxHeartbeats 4000000
namespace Rr
theorem spans_concat (n : Nat) (bs : List Nat) (l : Nat) : spans n (bs ++ [l]) = bs.zip ((bs ++ [l]).drop 1) ++ [(l, n)] := by
  unfold spans
  rw [List.zip_append (by simp)]
  rfl
theorem spans_push (k : Nat) (bs : List Nat) : spans (k + 1) (bs ++ [k]) = spans k bs ++ [(k, k + 1)] := by
  rw [spans_concat]
  cases bs with
  | nil => rfl
  | cons b bs => simp [spans]
theorem spans_ext {k l : Nat} {bs : List Nat} (h : bs.getLast? = some l) : spans (k + 1) bs = (spans k bs).set ((spans k bs).length - 1) (l, k + 1) ∧ (spans k bs).getLast? = some (l, k) := by
  have hn : bs ≠ [] := by intro z; subst z; simp at h
  rw [List.getLast?_eq_some_getLast hn] at h
  injection h with h
  have e : bs = bs.dropLast ++ [l] := by rw [← h, List.dropLast_concat_getLast hn]
  rw [e, spans_concat, spans_concat]
  constructor
  · rw [List.set_append_right _ _ (by simp)]
    simp
  · simp
end Rr
namespace Law
open PySem PySem.Spec PyProof.Rows L2 Gh Rr
variable {E : En} {s : Sx} {x : D} {ds : List D} {r : List Th}
theorem sp_eqD (w : Nat × Nat) : eqD 1 (spD w) := (eqDs.cons (n := 0) (.int _) (.cons (.int _) .nil)).tup
theorem sps_eqC (l : List (Nat × Nat)) : (D.lst (l.map spD)).eqC := (eqDs.of (n := 1) fun x m => by
  obtain ⟨w, _, rfl⟩ := List.mem_map.mp m
  exact sp_eqD w).lst.eqC
theorem isEmpty_mapG {α β : Type} {f : α → β} {l : List α} : (l.map f).isEmpty = l.isEmpty := by cases l <;> simp
theorem rn_law_lines (T : Tc E) {ws : List Wd} {t b : Nat} (ok : Wok ws) (hb : b < 2 ^ 60) : Rn E 2 "_law_lines" [wsD ws, rmD t b] s (.lst ((spans ws.length (begins (fit t b) ws)).map spD)) s := by
  have hl := ok.len
  have ht := ok.tot
  refine T.d__law_lines.rn sc__law_lines rfl rfl fun fa cdv A outer sh H0 EX S0 p hr => ?_
  conv => arg 2; whnf
  refine bk_cons (bs_parOV 2 3 rfl sc__law_lines.nd rfl rfl (by decide) rfl rfl (el_lst ea_nil) ed_int ?_)
  refine bk_cons (bs_for PassesOwn.never rfl (ei_enum T.bf (ed_var 0 rfl (.inl rfl) rfl)) (fun i ρ s' => s' = s ∧ ∃ (bs : List Nat) (wd : Nat) (g4 g5 g6 : G), ρ = [.val (wsD ws), .val (rmD t b), .own ((spans i bs).map spD), .val (.int wd), g4, g5, g6] ∧ (i = 0 → bs = []) ∧ (0 < i → bs ≠ [] ∧ bs ++ begs (fit t b) i wd (ws.drop i) = begins (fit t b) ws) ∧ wd + tot (ws.drop i) ≤ tot ws ∧ bs.length ≤ i) ⟨rfl, [], 0, .no, .no, .no, rfl, fun _ => rfl, fun h => by omega, by simp, by simp⟩ ?_ ?_)
  · rintro i d ρ' s' hi ⟨rfl, bs, wd, g4, g5, g6, rfl, hB0, hB1, hw, hbl⟩
    obtain ⟨y, hy, rfl⟩ := enumD_inv hi
    rw [List.getElem?_map] at hy
    cases hwi : ws[i]? with
    | none => rw [hwi] at hy; cases hy
    | some w =>
    rw [hwi] at hy; cases hy
    have hin : i < ws.length := (List.getElem?_eq_some_iff.mp hwi).1
    have ew : ws.getD i dW = w := by rw [List.getD_eq_getElem?_getD, hwi]; rfl
    have ed := drop_cons hin
    rw [ew] at ed
    rw [ed] at hw hB1
    have et : tot (w :: ws.drop (i + 1)) = w.w + w.g + tot (ws.drop (i + 1)) := by simp [Rr.tot]
    rw [et] at hw
    refine ⟨_, _, eg_tup rfl (egs_cons (eg_name 4 sc__law_lines.nd rfl (.inl rfl)) (egs_cons (eg_name 5 sc__law_lines.nd rfl (.inl rfl)) egs_nil)), ?_⟩
    refine bk_cons (bs_set 6 (d := .int ((wd + w.g + w.w : Nat) : Int)) sc__law_lines.nd rfl (.inl rfl) (Ed.is (ed_bin (ed_bin (ed_var 3 rfl (.inl rfl) rfl) (ed_ix (ed_var 5 rfl (.inl rfl) rfl) ed_int rfl) rfl trivial) (ed_ix (ed_var 5 rfl (.inl rfl) rfl) ed_int rfl) rfl trivial) (congrArg D.int (by omega))) ?_)
    refine bk_cons (bs_if (t := decide (bs ≠ []) && fit t b (wd + w.g + w.w)) (Ew.et (ew_and (l := fit t b (wd + w.g + w.w)) (Cp.et (Cp.is (cp_neV hr (ev_own 2 rfl (.inl rfl) rfl) (El.ev (el_lst ea_nil)) (sps_eqC _) nil_eqC) (by rw [lst_nil, isEmpty_mapG]; cases bs <;> simp [spans]))) fun _ => (ew_and1 (Cp.et (Cp.is (cp_le (ed_bin (ed_var 6 rfl (.inl rfl) rfl) (ed_ix (ed_var 1 rfl (.inl rfl) rfl) ed_int rfl) rfl (mulS (by omega) (by omega))) (ed_ix (ed_var 1 rfl (.inl rfl) rfl) ed_int rfl)) (by unfold fit; exact decide_eq_decide.mpr (by rw [← Int.natCast_mul]; omega))))))) (fun hc => ?_) (fun hc => ?_))
    · obtain ⟨hc1, hc2⟩ := Bool.and_eq_true_iff.mp hc
      have hne : bs ≠ [] := of_decide_eq_true hc1
      have hlast := List.getLast?_eq_some_getLast hne
      obtain ⟨e1, e2⟩ := spans_ext (k := i) hlast
      have hlen : 0 < (spans i bs).length := by rw [spans_length]; exact List.length_pos_iff.mpr hne
      have hipos : 0 < i := by
        rcases Nat.eq_zero_or_pos i with z | z
        · exact absurd (hB0 z) hne
        · exact z
      have e3 : ((spans i bs).map spD).getLast? = some (spD (bs.getLast hne, i)) := by rw [List.getLast?_map, e2]; rfl
      refine bk_cons (bs_asgM (d := .tup [spD (bs.getLast hne, i + 1), .int ((wd + w.g + w.w : Nat) : Int)]) (Ed.is (ed_tup (ea_cons (ed_tup (ea_cons (ed_ix (ed_ixV (ev_own 2 rfl (.inl rfl) rfl) (ed_neg ed_int) (atI_last e3)) ed_int rfl) (ea_cons (ed_bin (ed_var 4 rfl (.inl rfl) rfl) ed_int rfl trivial) ea_nil))) (ea_cons (ed_var 6 rfl (.inl rfl) rfl) ea_nil))) (by simp [spD])) (egm_tup rfl (egms_cons (egm_sub 2 (j := (spans i bs).length - 1) rfl (.inl rfl) rfl (ed_neg ed_int) (by rw [List.length_map]; exact ixN_last hlen)) (egms_cons (egm_name 3 sc__law_lines.nd rfl (.inl rfl)) egms_nil))) (bk_nil (bk_nil ⟨rfl, bs, wd + w.g + w.w, .val (.int i), .val (wdD w), .val (.int ((wd + w.g + w.w : Nat) : Int)), ?_, (fun z => by omega), (fun _ => ⟨hne, ?_⟩), by omega, by omega⟩)))
      · rw [e1, List.map_set]; rfl
      · rw [← (hB1 hipos).2]
        congr 1
        show _ = (if fit t b (wd + w.g + w.w) then begs (fit t b) (i + 1) (wd + w.g + w.w) (ws.drop (i + 1)) else _)
        rw [if_pos hc2]
    · have hsz : ((spans i bs).map spD).length < sizeLine := by
        rw [List.length_map, spans_length]; exact Nat.lt_of_le_of_lt (show bs.length ≤ 1000 by omega) (by decide)
      refine bk_cons (bs_append 2 (d := spD (i, i + 1)) rfl (.inl rfl) rfl (Ed.is (ed_tup (ea_cons (ed_var 4 rfl (.inl rfl) rfl) (ea_cons (ed_bin (ed_var 4 rfl (.inl rfl) rfl) ed_int rfl trivial) ea_nil))) (by simp [spD])) hsz ?_)
      refine bk_cons (bs_set 3 sc__law_lines.nd rfl (.inl rfl) (ed_ix (ed_var 5 rfl (.inl rfl) rfl) ed_int rfl) (bk_nil (bk_nil ⟨rfl, bs ++ [i], w.w, .val (.int i), .val (wdD w), .val (.int ((wd + w.g + w.w : Nat) : Int)), ?_, (fun z => by omega), (fun _ => ⟨by simp, ?_⟩), by omega, by simp; omega⟩)))
      · rw [spans_push, List.map_append]; rfl
      · rcases Nat.eq_zero_or_pos i with z | z
        · subst z
          rw [hB0 rfl]
          rw [List.drop_zero] at ed
          rw [ed]; rfl
        · obtain ⟨hne, hB⟩ := hB1 z
          have hf : fit t b (wd + w.g + w.w) = false := by
            rw [decide_eq_true hne, Bool.true_and] at hc
            exact hc
          rw [← hB, List.append_assoc]
          congr 1
          show _ = (if fit t b (wd + w.g + w.w) then _ else i :: begs (fit t b) (i + 1) w.w (ws.drop (i + 1)))
          rw [hf]; rfl
  · rintro ρ' s' ⟨rfl, bs, wd, g4, g5, g6, rfl, hB0, hB1, hw, hbl⟩
    rw [enumD_length, List.length_map] at *
    refine bk_freeze 2 rfl (bk_cons (bs_ret (ed_var 2 rfl (.inl rfl) rfl) ⟨?_, rfl⟩))
    rcases Nat.eq_zero_or_pos ws.length with z | z
    · rw [hB0 z]
      rw [List.length_eq_zero_iff] at z
      subst z; rfl
    · have := (hB1 z).2
      rw [List.drop_length] at this
      rw [← this]
      simp [begs]
theorem rn_law_tall (T : Tc E) {ws : List Wd} {a b : Nat} (ok : Wok ws) (hb : b ≤ ws.length) : Rn E 1 "_law_tall" [wsD ws, .int a, .int b] s (.int (rowH ws a b)) s := by
  have hl := ok.len
  refine T.d__law_tall.rn sc__law_tall rfl rfl fun fa cdv A outer sh H0 EX S0 p hr => ?_
  conv => arg 2; whnf
  have hlen : (hs ws a b).length ≤ 1000 := by unfold hs; simp; omega
  have ecut := cut_wd (a := a) ws hb
  have elen : (((cutD (ws.map wdD) (some (a : Int)) (some (b : Int))).map fun d => D.int ((unW d).h : Nat))) = nsD (hs ws a b) := by
    rw [ecut]
    unfold hs nsD
    rw [List.map_map, List.map_map]
    exact List.map_congr_left fun w _ => by simp only [Function.comp, unW_wd]
  refine bk_cons (bs_ret (ed_maxL T.bf rfl (ns := (0 :: hs ws a b).map fun (n : Nat) => (n : Int)) (m := ((rowH ws a b : Nat) : Int)) (Ed.is (El.ed (el_cat (xs := [.int 0]) (ys := nsD (hs ws a b)) (by rw [nsD_length]; exact Nat.le_trans (Nat.add_le_add_left hlen 1) (by decide)) (El.ed (el_lst (ea_cons ed_int ea_nil))) (Ed.is (El.ed (el_map [("_law_word", 3)] (fun d => .int ((unW d).h : Nat)) rfl sc__law_tall.nd (ei_seq (El.ed (el_slice (ed_var 0 rfl (.inl rfl) rfl) (.some (ed_var 1 rfl (.inl rfl) rfl)) (.some (ed_var 2 rfl (.inl rfl) rfl)))) (.inl rfl)) (blkOk_by rfl) ?_ (fun i d hi => ?_))) (congrArg D.lst elen)))) ?_) ?_ ?_) ⟨rfl, rfl⟩)
  · have := congrArg List.length elen
    rw [List.length_map, nsD_length] at this
    rw [this]; exact small (by omega)
  · rw [ecut] at hi
    obtain ⟨w, _, rfl⟩ := List.mem_map.mp (List.mem_of_getElem? hi)
    refine ⟨_, _, fun c => eg_name 3 sc__law_tall.nd rfl (.inl rfl), by decide, fun c => ?_⟩
    rw [unW_wd]
    exact ed_ix (ed_var 3 rfl (.inl rfl) rfl) ed_int rfl
  · rw [nsD_ints]; rfl
  · refine List.mem_map.mpr ⟨_, ?_, rfl⟩
    unfold rowH
    cases e : hs ws a b with
    | nil => simp [mx]
    | cons y ys => exact List.mem_cons_of_mem _ (mx_mem (by simp))
  · intro y m
    obtain ⟨n, hn', rfl⟩ := List.mem_map.mp m
    have : n ≤ mx (hs ws a b) := by
      rcases List.mem_cons.mp hn' with rfl | h
      · omega
      · exact mx_ge h
    show (n : Int) ≤ ((mx (hs ws a b) : Nat) : Int)
    omega
end Law
set_option Elab.async false
set_option linter.all false
set_option maxRecDepth 100000
set_option maxHeartbeats 4000000
namespace Rr
/-! the lines are as few as can be: the plain law -/
theorem fit_upto {t b : Nat} (hb : 0 < b) : fit t b = upto (t / b) := by
  funext w
  unfold fit upto
  exact decide_eq_decide.mpr (Nat.le_div_iff_mul_le hb).symm
theorem fit_mono {t b v w : Nat} (h : v ≤ w) (hw : fit t b w = true) : fit t b v = true := by
  unfold fit at hw ⊢
  have := of_decide_eq_true hw
  exact decide_eq_true (Nat.le_trans (Nat.mul_le_mul_right _ h) this)
/-- the begins among the first n words -/
def gst (f : Nat → Bool) (ws : List Wd) : Nat → List Nat
  | 0 => []
  | n + 1 => if (!(gst f ws n).isEmpty && f (rowW ws ((gst f ws n).getLastD 0) (n + 1))) = true then gst f ws n else gst f ws n ++ [n]
theorem gst_lt {f : Nat → Bool} {ws : List Wd} : ∀ n, ∀ b ∈ gst f ws n, b < n
  | 0, b, h => by simp [gst] at h
  | n + 1, b, h => by
    unfold gst at h
    split at h
    · have := gst_lt n b h; omega
    · rcases List.mem_append.mp h with h | h
      · have := gst_lt n b h; omega
      · rw [List.mem_singleton.mp h]; omega
theorem gst_last {f : Nat → Bool} {ws : List Wd} : ∀ n, 0 < n → ∃ l, l < n ∧ gst f ws n = gst f ws l ++ [l] ∧ (n = l + 1 ∨ f (rowW ws l n) = true)
  | 0, h => by omega
  | n + 1, _ => by
    by_cases hc : (!(gst f ws n).isEmpty && f (rowW ws ((gst f ws n).getLastD 0) (n + 1))) = true
    · have e : gst f ws (n + 1) = gst f ws n := by conv => lhs; unfold gst; rw [if_pos hc]
      obtain ⟨h1, h2⟩ := Bool.and_eq_true_iff.mp hc
      have hn : 0 < n := by
        rcases Nat.eq_zero_or_pos n with z | z
        · subst z; simp [gst] at h1
        · exact z
      obtain ⟨l, l1, l2, l3⟩ := gst_last (f := f) (ws := ws) n hn
      refine ⟨l, by omega, by rw [e]; exact l2, .inr ?_⟩
      rw [l2] at h2
      simpa using h2
    · have e : gst f ws (n + 1) = gst f ws n ++ [n] := by conv => lhs; unfold gst; rw [if_neg hc]
      exact ⟨n, by omega, e, .inl rfl⟩
theorem gst_succ {f : Nat → Bool} {ws : List Wd} {n l : Nat} (h : gst f ws n = gst f ws l ++ [l]) : gst f ws (n + 1) = if f (rowW ws l (n + 1)) = true then gst f ws n else gst f ws n ++ [n] := by
  conv => lhs; unfold gst
  rw [h]
  simp
theorem gst_begins {f : Nat → Bool} (ws : List Wd) : ∀ n, n ≤ ws.length → ∀ l, gst f ws n = gst f ws l ++ [l] → l < n → gst f ws n ++ begs f n (rowW ws l n) (ws.drop n) = begins f ws
  | 0, _, l, _, h => by omega
  | n + 1, hn, l, hl, hln => by
    have hd := drop_cons (ws := ws) (n := n) (by omega)
    rcases Nat.eq_zero_or_pos n with z | z
    · subst z
      have : l = 0 := by omega
      subst this
      have e1 : gst f ws 1 = [0] := by simp [gst]
      rw [e1, rowW_one]
      rw [List.drop_zero] at hd
      conv => rhs; rw [hd]
      rfl
    · obtain ⟨m, m1, m2, m3⟩ := gst_last (f := f) (ws := ws) n z
      have ih := gst_begins ws n (by omega) m m2 m1
      rw [hd] at ih
      have er := rowW_succ ws m1
      have eb : begs f n (rowW ws m n) (ws.getD n dW :: ws.drop (n + 1)) = if f (rowW ws m (n + 1)) = true then begs f (n + 1) (rowW ws m (n + 1)) (ws.drop (n + 1)) else n :: begs f (n + 1) (ws.getD n dW).w (ws.drop (n + 1)) := by
        show (if f (rowW ws m n + (ws.getD n dW).g + (ws.getD n dW).w) = true then begs f (n + 1) (rowW ws m n + (ws.getD n dW).g + (ws.getD n dW).w) (ws.drop (n + 1)) else n :: begs f (n + 1) (ws.getD n dW).w (ws.drop (n + 1))) = _
        rw [er]; rfl
      rw [eb] at ih
      have es := gst_succ m2
      by_cases hc : f (rowW ws m (n + 1)) = true
      · rw [if_pos hc] at ih es
        have hlm : l = m := by
          rw [es, m2] at hl
          have := congrArg List.getLast? hl
          simpa using this.symm
        rw [es, hlm]; exact ih
      · rw [if_neg hc] at ih es
        have hlm : l = n := by
          rw [es] at hl
          have := congrArg List.getLast? hl
          simpa using this.symm
        rw [es, hlm, rowW_one, List.append_assoc]
        exact ih
theorem gst_all {f : Nat → Bool} (ws : List Wd) : gst f ws ws.length = begins f ws := by
  rcases Nat.eq_zero_or_pos ws.length with z | z
  · rw [List.length_eq_zero_iff] at z
    subst z; rfl
  · obtain ⟨l, l1, l2, l3⟩ := gst_last (f := f) (ws := ws) ws.length z
    have := gst_begins (f := f) ws ws.length (Nat.le_refl _) l l2 l1
    rw [List.drop_length] at this
    simpa [begs] using this
/-- how many lines the first n words take -/
def cnt (f : Nat → Bool) (ws : List Wd) (n : Nat) : Nat := (gst f ws n).length
theorem cnt_succ (f : Nat → Bool) (ws : List Wd) (n : Nat) : cnt f ws n ≤ cnt f ws (n + 1) ∧ cnt f ws (n + 1) ≤ cnt f ws n + 1 := by
  unfold cnt
  conv => rhs; rw [gst]
  conv => lhs; rw [gst]
  split <;> simp
theorem rowW_mono {ws : List Wd} {a a' b b' : Nat} (h1 : a' ≤ a) (h2 : a < b) (h3 : b ≤ b') : rowW ws a b ≤ rowW ws a' b' := by
  have right : ∀ b', b ≤ b' → rowW ws a b ≤ rowW ws a b' := fun b' => by
    induction b' with
    | zero => intro h; omega
    | succ n ih =>
      intro h
      rcases Nat.lt_or_ge b (n + 1) with z | z
      · rw [rowW_succ ws (show a < n by omega)]
        have := ih (by omega)
        omega
      · have : b = n + 1 := by omega
        subst this; exact Nat.le_refl _
  refine Nat.le_trans (right b' h3) ?_
  have left : ∀ b', a < b' → rowW ws a b' ≤ rowW ws a' b' := fun b' => by
    induction b' with
    | zero => intro h; omega
    | succ n ih =>
      intro h
      rcases Nat.lt_or_ge a n with z | z
      · rw [rowW_succ ws z, rowW_succ ws (show a' < n by omega)]
        have := ih z
        omega
      · have : a = n := by omega
        subst this
        rcases Nat.lt_or_ge a' a with z2 | z2
        · rw [rowW_one, rowW_succ ws z2]; omega
        · have : a' = a := by omega
          subst this; exact Nat.le_refl _
  exact left b' (by omega)
theorem cnt_step {t b : Nat} {ws : List Wd} {a u : Nat} (h : a < u) (hf : u = a + 1 ∨ fit t b (rowW ws a u) = true) : cnt (fit t b) ws u ≤ cnt (fit t b) ws a + 1 := by
  rcases hf with rfl | hf
  · exact (cnt_succ _ _ _).2
  · have key : ∀ m, a < m → m ≤ u → cnt (fit t b) ws m ≤ cnt (fit t b) ws a + 1 ∧ (cnt (fit t b) ws m = cnt (fit t b) ws a + 1 → ∃ l, a ≤ l ∧ l < m ∧ gst (fit t b) ws m = gst (fit t b) ws l ++ [l]) := fun m => by
      induction m with
      | zero => intro h; omega
      | succ m ih =>
        intro h1 h2
        rcases Nat.lt_or_ge a m with z | z
        · obtain ⟨i1, i2⟩ := ih z (by omega)
          obtain ⟨l, l1, l2, l3⟩ := gst_last (f := fit t b) (ws := ws) m (by omega)
          have es := gst_succ l2
          by_cases hc : fit t b (rowW ws l (m + 1)) = true
          · rw [if_pos hc] at es
            have e : cnt (fit t b) ws (m + 1) = cnt (fit t b) ws m := by unfold cnt; rw [es]
            rw [e]
            refine ⟨i1, fun hh => ?_⟩
            obtain ⟨l', q1, q2, q3⟩ := i2 hh
            exact ⟨l', q1, by omega, by rw [es]; exact q3⟩
          · rw [if_neg hc] at es
            have e : cnt (fit t b) ws (m + 1) = cnt (fit t b) ws m + 1 := by unfold cnt; rw [es]; simp
            rw [e]
            have hne : cnt (fit t b) ws m ≠ cnt (fit t b) ws a + 1 := fun hh => by
              obtain ⟨l', q1, q2, q3⟩ := i2 hh
              have : l' = l := by
                rw [l2] at q3
                have := congrArg List.getLast? q3
                simpa using this.symm
              subst this
              exact hc (fit_mono (rowW_mono q1 (by omega) h2) hf)
            exact ⟨by omega, fun _ => ⟨m, by omega, by omega, es⟩⟩
        · have : m = a := by omega
          subst this
          refine ⟨(cnt_succ _ _ _).2, fun hh => ?_⟩
          obtain ⟨l, l1, l2, l3⟩ := gst_last (f := fit t b) (ws := ws) (m + 1) (by omega)
          refine ⟨l, ?_, l1, l2⟩
          rcases Nat.lt_or_ge l m with z2 | z2
          · exfalso
            have : cnt (fit t b) ws (m + 1) ≤ cnt (fit t b) ws m := by
              unfold cnt
              rcases Nat.eq_zero_or_pos m with z3 | z3
              · omega
              · obtain ⟨k, k1, k2, k3⟩ := gst_last (f := fit t b) (ws := ws) m z3
                have es := gst_succ k2
                by_cases hc : fit t b (rowW ws k (m + 1)) = true
                · rw [if_pos hc] at es; rw [es]; exact Nat.le_refl _
                · rw [if_neg hc] at es
                  rw [es] at l2
                  have := congrArg List.getLast? l2
                  simp at this
                  omega
            omega
          · exact z2
    exact (key u h (Nat.le_refl _)).1
theorem cnt_at {f : Nat → Bool} {ws : List Wd} {u : Nat} (h : 0 < u) : ∃ l, l < u ∧ cnt f ws u = cnt f ws l + 1 ∧ (u = l + 1 ∨ f (rowW ws l u) = true) := by
  obtain ⟨l, l1, l2, l3⟩ := gst_last (f := f) (ws := ws) u h
  exact ⟨l, l1, by unfold cnt; rw [l2]; simp, l3⟩
theorem gst_prefix {f : Nat → Bool} {ws : List Wd} {a u : Nat} (h : a ≤ u) : ∃ rest, gst f ws u = gst f ws a ++ rest ∧ ∀ b ∈ rest, a ≤ b := by
  induction u with
  | zero => have : a = 0 := by omega
            subst this; exact ⟨[], by simp, by simp⟩
  | succ n ih =>
    rcases Nat.lt_or_ge a (n + 1) with z | z
    · obtain ⟨rest, e, hb⟩ := ih (by omega)
      by_cases hc : (!(gst f ws n).isEmpty && f (rowW ws ((gst f ws n).getLastD 0) (n + 1))) = true
      · exact ⟨rest, by conv => lhs; unfold gst; rw [if_pos hc]
                        exact e, hb⟩
      · refine ⟨rest ++ [n], by conv => lhs; unfold gst; rw [if_neg hc, e, List.append_assoc], fun b m => ?_⟩
        rcases List.mem_append.mp m with m | m
        · exact hb b m
        · rw [List.mem_singleton.mp m]; omega
    · have : a = n + 1 := by omega
      subst this
      exact ⟨[], by simp, by simp⟩
/-- no line of a breaking begins later -/
theorem ahead {f : Nat → Bool} {ws : List Wd} {k o : Nat} (ho : o ≤ ws.length) (hc : cnt f ws o ≤ k) {g : Nat} (hg : (begins f ws)[k]? = some g) : o ≤ g := by
  obtain ⟨rest, e, hb⟩ := gst_prefix (f := f) (ws := ws) ho
  rw [gst_all] at e
  rw [e, List.getElem?_append_right hc] at hg
  exact hb g (List.mem_of_getElem? hg)
end Rr
set_option Elab.async false
set_option linter.all false
set_option maxRecDepth 100000
set_option maxHeartbeats 4000000
namespace Law
open PySem PySem.Spec PyProof.Rows L2 Gh Rr
variable {E : En} {s : Sx} {x : D} {ds : List D} {r : List Th}
theorem fr_rmG {t b : Nat} (hb : b ≠ 0) : fr (mkRat t b) = rmD (t / Nat.gcd t b) (b / Nat.gcd t b) := by
  unfold fr rmD
  rw [mk_num _ _ hb, mk_den _ _ hb, Int.natAbs_natCast]
  simp
/-- a room as it is passed -/
def Pas (y : D) (t b : Nat) : Prop := (y = .tup [.int t, .int b] ∨ y = .lst [.int t, .int b] ∨ (y = .int t ∧ b = 1))
theorem fit_low {t b : Nat} (hb : 0 < b) : fit (t / Nat.gcd t b) (b / Nat.gcd t b) = fit t b := by
  have g0 : 0 < Nat.gcd t b := Nat.gcd_pos_of_pos_right _ hb
  funext w
  unfold fit
  refine decide_eq_decide.mpr ?_
  obtain ⟨u, hu⟩ := Nat.gcd_dvd_left t b
  obtain ⟨v, hv⟩ := Nat.gcd_dvd_right t b
  generalize Nat.gcd t b = g at *
  subst hu hv
  rw [Nat.mul_div_cancel_left _ g0, Nat.mul_div_cancel_left _ g0, show w * (g * v) = g * (w * v) by rw [Nat.mul_left_comm]]
  exact (Nat.mul_le_mul_left_iff g0).symm
theorem rn_checked_roomP (T : Tc E) {y : D} {t b : Nat} (hy : Pas y t b) (hb : 0 < b) (hb2 : b < 2 ^ 60) : Rn E 5 "checked_room" [y] s (rmD (t / Nat.gcd t b) (b / Nat.gcd t b)) s := by
  have pair : ∀ y : D, (y = .tup [.int t, .int b] ∨ y = .lst [.int t, .int b]) → Rn E 5 "checked_room" [y] s (rmD (t / Nat.gcd t b) (b / Nat.gcd t b)) s := fun y hy => by
    have hi : items y = some [.int t, .int b] := by rcases hy with rfl | rfl <;> rfl
    have hk : ∃ k, y.kind = some k := by rcases hy with rfl | rfl <;> exact ⟨_, rfl⟩
    obtain ⟨k, hk⟩ := hk
    have hn : isN y = false := by rcases hy with rfl | rfl <;> rfl
    have hd : dat y = true := by rcases hy with rfl | rfl <;> rfl
    have hf : isFr y = true := by unfold isFr; rw [hi]; exact decide_eq_true (by omega)
    have hw : isWd y = true := by
      unfold isWd topGe
      rw [hf, hi]
      show (true && decide ((0 : Int) ≤ (t : Int))) = true
      rw [decide_eq_true (by omega)]; rfl
    have hq : frq y = mkRat t b := by unfold frq; rw [hi]; simp
    refine T.d_checked_room.rn sc_checked_room rfl rfl fun fa cdv A outer sh H0 EX S0 p hr => ?_
    conv => arg 2; whnf
    refine bk_cons (bs_ifF (et_val (ed_cl (ea_cons (ed_var 0 rfl (.inl rfl) rfl) ea_nil) (hr.mono (by decide)) ((rn_is_natural T.toTx hk).is (by rw [hn])))) (bk_nil ?_))
    refine bk_cons (bs_ifF (et_not (k := true) (et_val (ed_cl (ea_cons (ed_var 0 rfl (.inl rfl) rfl) ea_nil) (hr.mono (by decide)) ((rn_is_width T.toTx hd).is (by rw [hw]))))) (bk_nil ?_))
    refine bk_cons (bs_ret (ed_cl (ea_cons (ed_var 0 rfl (.inl rfl) rfl) ea_nil) (hr.mono (by decide)) ((rn_frac_of T.toTx hf (fun t' b' e => by rw [hi] at e; cases e; rw [Int.natAbs_natCast]; exact Nat.lt_trans hb2 (Nat.pow_lt_pow_right (by decide) (by decide)))).is (by rw [hq]; exact fr_rmG (by omega)))) ⟨rfl, rfl⟩)
  rcases hy with rfl | rfl | ⟨rfl, rfl⟩
  · exact pair _ (.inl rfl)
  · exact pair _ (.inr rfl)
  · have := rn_checked_roomI (s := s) T (n := t)
    rw [Nat.gcd_one_right, Nat.div_one, Nat.div_one]
    exact this
/-! spans and breakings of any object -/
def sp1 (ws : List Wd) (f : Nat → Bool) (a : Nat) (d : D) : Option Nat := match items d with
  | some [.int x, .int y] => if x = (a : Int) ∧ (a : Int) < y ∧ y ≤ ws.length ∧ (y = (a : Int) + 1 ∨ f (rowW ws a y.toNat) = true) then some y.toNat else none
  | _ => none
def brk (ws : List Wd) (f : Nat → Bool) : Nat → List D → Bool
  | a, [] => decide (a = ws.length)
  | a, d :: ds => match sp1 ws f a d with
    | some b => brk ws f b ds
    | none => false
def isBrk (ws : List Wd) (f : Nat → Bool) (d : D) : Bool := match items d with
  | some xs => brk ws f 0 xs
  | none => false
theorem sp1_len {ws : List Wd} {f : Nat → Bool} {a : Nat} {d : D} {xs : List D} (h : items d = some xs) (hl : xs.length ≠ 2) : sp1 ws f a d = none := by
  unfold sp1
  rw [h]
  split
  · rename_i e; cases e; exact absurd rfl hl
  · rfl
theorem sp1_nat {ws : List Wd} {f : Nat → Bool} {a : Nat} {d u v : D} (h : items d = some [u, v]) (hn : (isN u && isN v) = false) : sp1 ws f a d = none := by
  unfold sp1
  rw [h]
  split
  · rename_i x y e
    cases e
    rw [if_neg]
    rintro ⟨h1, h2, _⟩
    have : (isN (.int x) && isN (.int y)) = true := by
      show (decide (0 ≤ x) && decide (0 ≤ y)) = true
      rw [decide_eq_true (by omega), decide_eq_true (by omega)]; rfl
    rw [this] at hn; cases hn
  · rfl
theorem isN_int {u : D} (h : isN u = true) : ∃ n : Nat, u = .int n := by
  cases u <;> first | cases h | skip
  rename_i i
  have : 0 ≤ i := of_decide_eq_true h
  exact ⟨i.toNat, congrArg D.int (by omega)⟩
theorem rn_is_span (T : Tc E) {ws : List Wd} {t b a : Nat} {d : D} (ok : Wok ws) (hb : b < 2 ^ 60) (ha : a ≤ ws.length) (hd : dat d = true) : Rn E 3 "is_span" [wsD ws, rmD t b, d, .int a] s (.bl (sp1 ws (fit t b) a d).isSome) s := by
  obtain ⟨k, hk⟩ := dat_kind hd
  have hl := ok.len
  have ht := ok.tot
  have h1 := isL_items hk hd
  refine T.d_is_span.rn sc_is_span rfl rfl fun fa cdv A outer sh H0 EX S0 p hr => ?_
  conv => arg 2; whnf
  cases e : items d with
  | none =>
    rw [e] at h1
    refine bk_cons (bs_ifT (Ew.et (ew_orT (et_not (k := false) (et_val (ed_cl (ea_cons (ed_var 2 rfl (.inl rfl) rfl) ea_nil) (hr.mono (by decide)) ((rn_is_list T.toTx hk).is (by rw [h1]; rfl))))))) (bk_cons (bs_ret ed_bl ⟨?_, rfl⟩)))
    unfold sp1; rw [e]; rfl
  | some xs =>
    rw [e] at h1
    have R1 : Rn E 1 "is_list" [d] s (.bl true) s := (rn_is_list T.toTx hk).is (by rw [h1]; rfl)
    have hds := items_dat e hd
    by_cases hx2 : xs.length = 2
    · match xs, hx2 with
      | [u, v], _ =>
      obtain ⟨d1, d2⟩ := dats_cons hds
      obtain ⟨d2, _⟩ := dats_cons d2
      have i0 : d.at 0 = some u := by rw [items_at e]; rfl
      have i1 : d.at 1 = some v := by rw [items_at e]; rfl
      refine bk_cons (bs_if (t := !(isN u && isN v)) (Ew.et (ew_orF (et_not (k := true) (et_val (ed_cl (ea_cons (ed_var 2 rfl (.inl rfl) rfl) ea_nil) (hr.mono (by decide)) R1))) (ew_orF (Cp.et (Cp.is (cp_ne hr (ed_len T.bf (ed_var 2 rfl (.inl rfl) rfl) (items_size e)) ed_int (eqC_int _) (eqC_int _)) (by rw [eqb_int]; rfl))) (ew_or1 (et_not (et_val (Ed.is (ed_all T.bf rfl (bs := [isN u, isN v]) (El.ed (el_map [("number", 4)] (fun d => .bl (isN d)) rfl sc_is_span.nd (ei_seq (ed_var 2 rfl (.inl rfl) rfl) (items_or e)) (blkOk_by rfl) (show 2 ≤ sizeLine by decide) (fun i z hz => ?_)))) (by simp)))))))) (fun hc => ?_) (fun hc => ?_))
      · have hm := dats_mem hds (List.mem_of_getElem? hz)
        obtain ⟨k2, hk2⟩ := dat_kind hm
        exact ⟨_, _, fun c => eg_name 4 sc_is_span.nd rfl (.inl rfl), by decide, fun c => ed_cl (ea_cons (ed_var 4 rfl (.inl rfl) rfl) ea_nil) (hr.mono (by decide)) (rn_is_natural T.toTx hk2)⟩
      · refine bk_cons (bs_ret ed_bl ⟨?_, rfl⟩)
        rw [sp1_nat e (by rw [Bool.not_eq_true'] at hc; exact hc)]; rfl
      · have hc : (isN u && isN v) = true := by simpa using hc
        obtain ⟨n1, n2⟩ := Bool.and_eq_true_iff.mp hc
        obtain ⟨x', rfl⟩ := isN_int n1
        obtain ⟨y', rfl⟩ := isN_int n2
        have es : sp1 ws (fit t b) a d = if x' = a ∧ a < y' ∧ y' ≤ ws.length ∧ (y' = a + 1 ∨ fit t b (rowW ws a y') = true) then some y' else none := by
          unfold sp1
          rw [e]
          show (if ((x' : Nat) : Int) = (a : Int) ∧ (a : Int) < ((y' : Nat) : Int) ∧ ((y' : Nat) : Int) ≤ ws.length ∧ (((y' : Nat) : Int) = (a : Int) + 1 ∨ fit t b (rowW ws a ((y' : Nat) : Int).toNat) = true) then some ((y' : Nat) : Int).toNat else none) = _
          rw [Int.toNat_natCast]
          by_cases hq : x' = a ∧ a < y' ∧ y' ≤ ws.length ∧ (y' = a + 1 ∨ fit t b (rowW ws a y') = true)
          · rw [if_pos hq, if_pos ⟨by omega, by omega, by omega, by rcases hq.2.2.2 with h | h; exact .inl (by omega); exact .inr h⟩]
          · rw [if_neg hq, if_neg fun hh => hq ⟨by omega, by omega, by omega, by rcases hh.2.2.2 with h | h; exact .inl (by omega); exact .inr h⟩]
        rw [es]
        refine bk_nil ?_
        refine bk_cons (bs_if (t := !(decide (x' = a)) || !(decide (a < y') && decide (y' ≤ ws.length))) (Ew.et (ew_or (Cp.et (Cp.is (cp_ne hr (ed_ix (ed_var 2 rfl (.inl rfl) rfl) ed_int i0) (ed_var 3 rfl (.inl rfl) rfl) (eqC_int _) (eqC_int _)) (by rw [eqb_int]; congr 1; exact decide_eq_decide.mpr (by omega)))) fun _ => ew_or1 (et_not (Et.is (et_chainII op_lt op_le (ed_var 3 rfl (.inl rfl) rfl) (ed_ix (ed_var 2 rfl (.inl rfl) rfl) ed_int i1) (ed_len T.bf (ed_var 0 rfl (.inl rfl) rfl) rfl)) (by rw [List.length_map]; congr 1 <;> exact decide_eq_decide.mpr (by omega)))))) (fun h2 => ?_) (fun h2 => ?_))
        · refine bk_cons (bs_ret ed_bl ⟨?_, rfl⟩)
          rw [if_neg]; rfl
          rintro ⟨q1, q2, q3, _⟩
          rw [decide_eq_true q1, decide_eq_true q2, decide_eq_true q3] at h2
          cases h2
        · have h3 : x' = a ∧ a < y' ∧ y' ≤ ws.length := by
            simp only [Bool.or_eq_false_iff, Bool.not_eq_false', Bool.and_eq_true, decide_eq_true_eq] at h2
            exact ⟨h2.1, h2.2.1, h2.2.2⟩
          obtain ⟨rfl, q2, q3⟩ := h3
          have hw := rowW_le ws (a := x') (b := y') q3
          refine bk_nil (bk_cons (bs_ret (Ed.is (ed_or (k := decide (y' = x' + 1)) (l := fit t b (rowW ws x' y')) (Ed.is (Cp.ed (cp_eq hr (ed_ix (ed_var 2 rfl (.inl rfl) rfl) ed_int i1) (ed_bin (ed_var 3 rfl (.inl rfl) rfl) ed_int rfl trivial) (eqC_int _) (eqC_int _))) (congrArg D.bl (by rw [eqb_int]; exact decide_eq_decide.mpr (by omega)))) fun _ => ed_one (ed_cl (ea_cons (ed_cl (ea_cons (ed_var 0 rfl (.inl rfl) rfl) (ea_cons (ed_var 3 rfl (.inl rfl) rfl) (ea_cons (ed_ix (ed_var 2 rfl (.inl rfl) rfl) ed_int i1) ea_nil))) (hr.mono (by decide)) (rn_row_width T ok (by omega) q3)) (ea_cons (ed_var 1 rfl (.inl rfl) rfl) ea_nil)) (hr.mono (by decide)) (rn_is_room_for T (by omega) hb))) ?_) ⟨rfl, rfl⟩))
          congr 1
          by_cases hq : y' = x' + 1 ∨ fit t b (rowW ws x' y') = true
          · rw [if_pos ⟨rfl, q2, q3, hq⟩]
            rcases hq with hq | hq
            · rw [decide_eq_true hq]; rfl
            · rw [hq]; simp
          · rw [if_neg fun hh => hq hh.2.2.2]
            have : ¬ y' = x' + 1 := fun z => hq (.inl z)
            rw [decide_eq_false this]
            cases hf : fit t b (rowW ws x' y') with
            | true => exact absurd (.inr hf) hq
            | false => rfl
    · refine bk_cons (bs_ifT (Ew.et (ew_orF (et_not (k := true) (et_val (ed_cl (ea_cons (ed_var 2 rfl (.inl rfl) rfl) ea_nil) (hr.mono (by decide)) R1))) (ew_orT (Cp.et (Cp.is (cp_ne hr (ed_len T.bf (ed_var 2 rfl (.inl rfl) rfl) (items_size e)) ed_int (eqC_int _) (eqC_int _)) (by rw [eqb_int, decide_eq_false (by omega)]; rfl)))))) (bk_cons (bs_ret ed_bl ⟨?_, rfl⟩)))
      rw [sp1_len e hx2]; rfl
end Law
set_option Elab.async false
set_option linter.all false
set_option maxRecDepth 100000
set_option maxHeartbeats 4000000
namespace Law
open PySem PySem.Spec PyProof.Rows L2 Gh Rr
variable {E : En} {s : Sx} {x : D} {ds : List D} {r : List Th}
theorem sp1_some {ws : List Wd} {f : Nat → Bool} {a b : Nat} {d : D} (h : sp1 ws f a d = some b) : d.at 1 = some (.int b) ∧ a < b ∧ b ≤ ws.length ∧ items d = some [.int a, .int b] ∧ (b = a + 1 ∨ f (rowW ws a b) = true) := by
  unfold sp1 at h
  split at h
  · rename_i x y e
    split at h
    · rename_i hc
      cases h
      obtain ⟨h1, h2, h3, h4⟩ := hc
      have ey : y = ((y.toNat : Nat) : Int) := by omega
      refine ⟨by rw [items_at e, ← ey]; rfl, by omega, by omega, by rw [e, h1, ← ey], ?_⟩
      rcases h4 with h4 | h4
      · exact .inl (by omega)
      · exact .inr h4
    · cases h
  · cases h
theorem rn_is_breaking (T : Tc E) (h : LsR x ds r) (ok : RunOk r) {y d : D} {t b : Nat} (hb : b < 2 ^ 60) (R : ∀ s, Rn E 5 "checked_room" [y] s (rmD t b) s) (hd : dat d = true) : Rn E 6 "is_breaking" [x, y, d] s (.bl (isBrk (words r) (fit t b) d)) s := by
  have wok := ok.wok
  obtain ⟨k, hk⟩ := dat_kind hd
  have h1 := isL_items hk hd
  refine T.d_is_breaking.rn sc_is_breaking rfl rfl fun fa cdv A outer sh H0 EX S0 p hr => ?_
  conv => arg 2; whnf
  refine bk_cons (bs_par3G 3 4 5 rfl sc_is_breaking.nd rfl rfl rfl (by decide) (by decide) (by decide) rfl rfl rfl (eag_val (ed_cl (ea_cons (ed_cl (ea_cons (ed_var 0 rfl (.inl rfl) rfl) ea_nil) (hr.mono (by decide)) (rn_run T h ok)) ea_nil) (hr.mono (by decide)) (rn_ws T ok)) (eag_val (ed_cl (ea_cons (ed_var 1 rfl (.inl rfl) rfl) ea_nil) (hr.mono (by decide)) (R _)) (eag_val ed_int eag_nil))) ?_)
  generalize words r = ws at *
  cases e : items d with
  | none =>
    rw [e] at h1
    refine bk_cons (bs_ifT (et_not (k := false) (et_val (ed_cl (ea_cons (ed_var 2 rfl (.inl rfl) rfl) ea_nil) (hr.mono (by decide)) ((rn_is_list T.toTx hk).is (by rw [h1]; rfl))))) (bk_cons (bs_ret ed_bl ⟨?_, rfl⟩)))
    unfold isBrk; rw [e]
  | some xs =>
    rw [e] at h1
    have hds := items_dat e hd
    have eB : isBrk ws (fit t b) d = brk ws (fit t b) 0 xs := by unfold isBrk; rw [e]
    rw [eB]
    refine bk_cons (bs_ifF (et_not (k := true) (et_val (ed_cl (ea_cons (ed_var 2 rfl (.inl rfl) rfl) ea_nil) (hr.mono (by decide)) ((rn_is_list T.toTx hk).is (by rw [h1]; rfl))))) (bk_nil ?_))
    refine bk_cons (bs_for PassesOwn.never rfl (ei_seq (ed_var 2 rfl (.inl rfl) rfl) (items_or e)) (fun i ρ s' => s' = s ∧ ∃ (a : Nat) (g6 : G), ρ = [.val x, .val y, .val d, .val (wsD ws), .val (rmD t b), .val (.int a), g6] ∧ a ≤ ws.length ∧ brk ws (fit t b) a (xs.drop i) = brk ws (fit t b) 0 xs) ⟨rfl, 0, .no, rfl, Nat.zero_le _, rfl⟩ ?_ ?_)
    · rintro i z ρ' s' hi ⟨rfl, a, g6, rfl, ha, hB⟩
      have hil := (List.getElem?_eq_some_iff.mp hi).1
      have ed : xs.drop i = z :: xs.drop (i + 1) := by
        rw [List.drop_eq_getElem_cons hil]
        rw [(List.getElem?_eq_some_iff.mp hi).2]
      rw [ed] at hB
      have hB2 : brk ws (fit t b) a (z :: xs.drop (i + 1)) = match sp1 ws (fit t b) a z with | some b' => brk ws (fit t b) b' (xs.drop (i + 1)) | none => false := rfl
      rw [hB2] at hB
      refine ⟨_, _, eg_name 6 sc_is_breaking.nd rfl (.inl rfl), ?_⟩
      have R3 := rn_is_span (s := s') T (t := t) (b := b) (a := a) (d := z) wok hb ha (dats_mem hds (List.mem_of_getElem? hi))
      cases hs : sp1 ws (fit t b) a z with
      | none =>
        rw [hs] at hB R3
        refine bk_cons (bs_ifT (et_not (k := false) (et_val (ed_cl (ea_cons (ed_var 3 rfl (.inl rfl) rfl) (ea_cons (ed_var 4 rfl (.inl rfl) rfl) (ea_cons (ed_var 6 rfl (.inl rfl) rfl) (ea_cons (ed_var 5 rfl (.inl rfl) rfl) ea_nil)))) (hr.mono (by decide)) R3))) (bk_cons (bs_ret ed_bl ⟨?_, rfl⟩)))
        rw [← hB]
      | some b' =>
        rw [hs] at hB R3
        obtain ⟨q1, q2, q3, _, _⟩ := sp1_some hs
        refine bk_cons (bs_ifF (et_not (k := true) (et_val (ed_cl (ea_cons (ed_var 3 rfl (.inl rfl) rfl) (ea_cons (ed_var 4 rfl (.inl rfl) rfl) (ea_cons (ed_var 6 rfl (.inl rfl) rfl) (ea_cons (ed_var 5 rfl (.inl rfl) rfl) ea_nil)))) (hr.mono (by decide)) R3))) (bk_nil ?_))
        exact bk_cons (bs_set 5 sc_is_breaking.nd rfl (.inl rfl) (ed_ix (ed_var 6 rfl (.inl rfl) rfl) ed_int q1) (bk_nil ⟨rfl, b', _, rfl, q3, hB⟩))
    · rintro ρ' s' ⟨rfl, a, g6, rfl, ha, hB⟩
      rw [List.drop_length] at hB
      refine bk_cons (bs_ret (Cp.ed (cp_eq hr (ed_var 5 rfl (.inl rfl) rfl) (ed_len T.bf (ed_var 3 rfl (.inl rfl) rfl) rfl) (eqC_int _) (eqC_int _))) ⟨?_, rfl⟩)
      rw [← hB, eqb_int, List.length_map]
      exact congrArg D.bl (decide_eq_decide.mpr (by omega))
/-! chains of any object -/
def unI : D → Nat
  | .int i => i.toNat
  | _ => 0
theorem unI_int (n : Nat) : unI (.int n) = n := by simp [unI]
def inW (n : Nat) : D → Bool
  | .int i => decide (0 ≤ i) && decide (i < n)
  | _ => false
def lnk (ws : List Wd) (f : Nat → Bool) (p : Nat × Nat) : Bool := decide (p.1 < p.2) && !f (rowW ws p.1 (p.2 + 1))
def isChn (ws : List Wd) (f : Nat → Bool) (d : D) : Bool := match items d with
  | some xs => !xs.isEmpty && xs.all (inW ws.length) && (((xs.map unI).zip ((xs.map unI).drop 1)).all (lnk ws f))
  | none => false
theorem inW_int {n : Nat} {d : D} (h : inW n d = true) : ∃ m : Nat, d = .int m ∧ m < n := by
  cases d <;> first | cases h | skip
  rename_i i
  obtain ⟨h1, h2⟩ := Bool.and_eq_true_iff.mp h
  have h1 := of_decide_eq_true h1
  have h2 := of_decide_eq_true h2
  exact ⟨i.toNat, congrArg D.int (by omega), by omega⟩
theorem all_ns {n : Nat} {xs : List D} (h : xs.all (inW n) = true) : xs = nsD (xs.map unI) ∧ ∀ m ∈ xs.map unI, m < n := by
  induction xs with
  | nil => exact ⟨rfl, by simp⟩
  | cons z zs ih =>
    rw [List.all_cons] at h
    obtain ⟨h1, h2⟩ := Bool.and_eq_true_iff.mp h
    obtain ⟨m, rfl, hm⟩ := inW_int h1
    obtain ⟨i1, i2⟩ := ih h2
    refine ⟨?_, fun k hk => ?_⟩
    · show _ = D.int ((unI (.int m) : Nat) : Int) :: nsD (zs.map unI)
      rw [← i1, unI_int]
    · rcases List.mem_cons.mp hk with rfl | hk
      · first | exact hm | (rw [unI_int]; exact hm)
      · exact i2 k hk
theorem rn_is_natW (T : Tc E) {z : D} {n : Nat} (hz : dat z = true) : ∀ k, z.kind = some k → (isN z = false → inW n z = false) ∧ (isN z = true → ∃ i : Int, z = .int i ∧ inW n z = decide (i < n)) := fun k hk => by
  refine ⟨fun h => ?_, fun h => ?_⟩
  · cases z <;> first | rfl | skip
    rename_i i
    have : decide (0 ≤ i) = false := h
    show (decide (0 ≤ i) && _) = false
    rw [this]; rfl
  · cases z <;> first | cases h | skip
    rename_i i
    refine ⟨i, rfl, ?_⟩
    have : decide (0 ≤ i) = true := h
    show (decide (0 ≤ i) && _) = _
    rw [this]; rfl
theorem rn_is_chain (T : Tc E) (h : LsR x ds r) (ok : RunOk r) {y d : D} {t b : Nat} (hb : b < 2 ^ 60) (R : ∀ s, Rn E 5 "checked_room" [y] s (rmD t b) s) (hd : dat d = true) (hl2 : ∀ xs, items d = some xs → xs.length ≤ 1000) : Rn E 6 "is_chain" [x, y, d] s (.bl (isChn (words r) (fit t b) d)) s := by
  have wok := ok.wok
  have hl := wok.len
  have ht := wok.tot
  obtain ⟨k, hk⟩ := dat_kind hd
  have h1 := isL_items hk hd
  refine T.d_is_chain.rn sc_is_chain rfl rfl fun fa cdv A outer sh H0 EX S0 p hr => ?_
  conv => arg 2; whnf
  refine bk_cons (bs_asg (ed_tup (ea_cons (ed_cl (ea_cons (ed_cl (ea_cons (ed_var 0 rfl (.inl rfl) rfl) ea_nil) (hr.mono (by decide)) (rn_run T h ok)) ea_nil) (hr.mono (by decide)) (rn_ws T ok)) (ea_cons (ed_cl (ea_cons (ed_var 1 rfl (.inl rfl) rfl) ea_nil) (hr.mono (by decide)) (R _)) ea_nil))) (eg_tup rfl (egs_cons (eg_name 3 sc_is_chain.nd rfl (.inr rfl)) (egs_cons (eg_name 4 sc_is_chain.nd rfl (.inl rfl)) egs_nil))) ?_)
  generalize words r = ws at *
  cases e : items d with
  | none =>
    rw [e] at h1
    refine bk_cons (bs_ifT (Ew.et (ew_orT (et_not (k := false) (et_val (ed_cl (ea_cons (ed_var 2 rfl (.inl rfl) rfl) ea_nil) (hr.mono (by decide)) ((rn_is_list T.toTx hk).is (by rw [h1]; rfl))))))) (bk_cons (bs_ret ed_bl ⟨?_, rfl⟩)))
    unfold isChn; rw [e]
  | some xs =>
    rw [e] at h1
    have hds := items_dat e hd
    have hx1 := hl2 xs e
    have eC : isChn ws (fit t b) d = (!xs.isEmpty && xs.all (inW ws.length) && (((xs.map unI).zip ((xs.map unI).drop 1)).all (lnk ws (fit t b)))) := by unfold isChn; rw [e]
    rw [eC]
    have R1 : ∀ s, Rn E 1 "is_list" [d] s (.bl true) s := fun s => (rn_is_list T.toTx hk).is (by rw [h1]; rfl)
    refine bk_cons (bs_if (t := xs.isEmpty) (Ew.et (ew_orF (et_not (k := true) (et_val (ed_cl (ea_cons (ed_var 2 rfl (.inl rfl) rfl) ea_nil) (hr.mono (by decide)) (R1 _)))) (ew_or1 (Cp.et (Cp.is (cp_eq hr (ed_len T.bf (ed_var 2 rfl (.inl rfl) rfl) (items_size e)) ed_int (eqC_int _) (eqC_int _)) (by rw [eqb_int]; cases xs with | nil => rfl | cons z zs => exact decide_eq_false (by simp; omega))))))) (fun hc => bk_cons (bs_ret ed_bl ⟨by rw [hc]; rfl, rfl⟩)) (fun hc => bk_nil ?_))
    rw [hc]
    refine bk_cons (bs_if (t := !xs.all (inW ws.length)) (et_not (et_val (Ed.is (ed_all T.bf rfl (bs := xs.map (inW ws.length)) (Ed.is (El.ed (el_map [("number", 5)] (fun d => .bl (inW ws.length d)) rfl sc_is_chain.nd (ei_seq (ed_var 2 rfl (.inl rfl) rfl) (items_or e)) (blkOk_by rfl) (small hx1) (fun i z hz => ?_))) (by rw [List.map_map]; rfl))) (congrArg D.bl (by rw [List.all_map]; rfl))))) (fun hc2 => bk_cons (bs_ret ed_bl ⟨by rw [Bool.not_eq_true'] at hc2; rw [hc2]; rfl, rfl⟩)) (fun hc2 => bk_nil ?_))
    · have hm := dats_mem hds (List.mem_of_getElem? hz)
      obtain ⟨k2, hk2⟩ := dat_kind hm
      obtain ⟨n1, n2⟩ := rn_is_natW (n := ws.length) T hm k2 hk2
      refine ⟨_, _, fun c => eg_name 5 sc_is_chain.nd rfl (.inl rfl), by decide, fun c => ?_⟩
      cases hn : isN z with
      | false => exact Ed.is (ed_andF (ed_cl (ea_cons (ed_var 5 rfl (.inl rfl) rfl) ea_nil) (hr.mono (by decide)) ((rn_is_natural T.toTx hk2).is (by rw [hn])))) (by rw [n1 hn])
      | true =>
        obtain ⟨i', rfl, hi'⟩ := n2 hn
        exact Ed.is (ed_andT (ed_cl (ea_cons (ed_var 5 rfl (.inl rfl) rfl) ea_nil) (hr.mono (by decide)) ((rn_is_natural T.toTx hk2).is (by rw [hn]))) (ed_one (Cp.ed (cp_lt (ed_var 5 rfl (.inl rfl) rfl) (ed_len T.bf (ed_var 3 rfl (.inr (.inl rfl)) rfl) rfl))))) (by rw [hi', List.length_map])
    have hall : xs.all (inW ws.length) = true := by
      cases hh : xs.all (inW ws.length) with
      | true => rfl
      | false => rw [hh] at hc2; cases hc2
    rw [hall]
    obtain ⟨ex, hm⟩ := all_ns hall
    generalize xs.map unI = l at *
    subst ex
    have ez : zipD (nsD l) (cutD (nsD l) (some 1) none) = (l.zip (l.drop 1)).map spD := by
      rw [cut_from1, show (nsD l).drop 1 = nsD (l.drop 1) by simp [nsD, List.map_drop], zipD_ns]
    refine bk_cons (bs_for (items := (l.zip (l.drop 1)).map spD) (s1 := s) PassesOwn.never rfl ?_ (fun i ρ s' => (s' = s ∧ ∃ g5 g6 g7, ρ = [.val x, .val y, .val d, .val (wsD ws), .val (rmD t b), g5, g6, g7]) ∧ ∀ j q, j < i → (l.zip (l.drop 1))[j]? = some q → lnk ws (fit t b) q = true) ⟨⟨rfl, _, _, _, rfl⟩, fun j q hj => by omega⟩ ?_ ?_)
    · rw [← ez]
      rcases items_or e with rfl | rfl
      · exact ei_zipM T.bf (ed_var 2 rfl (.inl rfl) rfl) (.inl rfl) (El.ed (el_slice (ed_var 2 rfl (.inl rfl) rfl) (.some ed_int) .none)) (.inl rfl)
      · exact ei_zipM T.bf (ed_var 2 rfl (.inl rfl) rfl) (.inr rfl) (ed_sliceT (ed_var 2 rfl (.inl rfl) rfl) (.some ed_int) .none) (.inr rfl)
    · rintro i z ρ' s' hi ⟨⟨rfl, g5, g6, g7, rfl⟩, hn⟩
      rw [List.getElem?_map] at hi
      cases eq : (l.zip (l.drop 1))[i]? with
      | none => rw [eq] at hi; cases hi
      | some q =>
      rw [eq] at hi; cases hi
      have hq := List.of_mem_zip (List.mem_of_getElem? eq)
      have hq1 := hm q.1 hq.1
      have hq2 := hm q.2 (List.mem_of_mem_drop hq.2)
      refine ⟨_, _, eg_tup rfl (egs_cons (eg_name 6 sc_is_chain.nd rfl (.inl rfl)) (egs_cons (eg_name 7 sc_is_chain.nd rfl (.inl rfl)) egs_nil)), ?_⟩
      have hw := rowW_le ws (a := q.1) (b := q.2 + 1) (by omega)
      refine bk_cons (bs_if (t := !lnk ws (fit t b) q) (Et.is (Ew.et (ew_or (l := fit t b (rowW ws q.1 (q.2 + 1))) (Cp.et (cp_ge (ed_var 6 rfl (.inl rfl) rfl) (ed_var 7 rfl (.inl rfl) rfl))) fun hlt => ew_or1 (et_val (ed_cl (ea_cons (ed_cl (ea_cons (ed_var 3 rfl (.inr (.inl rfl)) rfl) (ea_cons (ed_var 6 rfl (.inl rfl) rfl) (ea_cons (Ed.is (ed_bin (ed_var 7 rfl (.inl rfl) rfl) ed_int rfl trivial) (congrArg D.int (show _ = ((q.2 + 1 : Nat) : Int) by omega))) ea_nil))) (hr.mono (by decide)) (rn_row_width T wok (by have := of_decide_eq_false hlt; omega) (by omega))) (ea_cons (ed_var 4 rfl (.inl rfl) rfl) ea_nil)) (hr.mono (by decide)) (rn_is_room_for T (by omega) hb))))) (by
        unfold lnk
        by_cases hlt : q.1 < q.2
        · rw [decide_eq_true hlt, decide_eq_false (show ¬ ((q.2 : Int) ≤ (q.1 : Int)) by omega)]; simp
        · rw [decide_eq_false hlt, decide_eq_true (show ((q.2 : Int) ≤ (q.1 : Int)) by omega)]; rfl)) (fun hc3 => ?_) (fun hc3 => ?_))
      · refine bk_cons (bs_ret ed_bl ⟨?_, rfl⟩)
        have : (l.zip (l.drop 1)).all (lnk ws (fit t b)) = false := by
          rw [List.all_eq_false]
          exact ⟨q, List.mem_of_getElem? eq, by rw [Bool.not_eq_true'] at hc3; rw [hc3]; decide⟩
        rw [this]; rfl
      · refine bk_nil (bk_nil ⟨⟨rfl, _, _, _, rfl⟩, fun j q' hj hq' => ?_⟩)
        rcases Nat.lt_or_ge j i with w | w
        · exact hn j q' w hq'
        · have : j = i := by omega
          subst this
          rw [eq] at hq'; cases hq'
          cases hh : lnk ws (fit t b) q with
          | true => rfl
          | false => rw [hh] at hc3; cases hc3
    · rintro ρ' s' ⟨⟨rfl, g5, g6, g7, rfl⟩, hn⟩
      rw [List.length_map] at hn
      refine bk_cons (bs_ret ed_bl ⟨?_, rfl⟩)
      have : (l.zip (l.drop 1)).all (lnk ws (fit t b)) = true := by
        rw [List.all_eq_true]
        intro q hq
        obtain ⟨j, hj⟩ := List.mem_iff_getElem?.mp hq
        exact hn j q (List.getElem?_eq_some_iff.mp hj).1 hj
      rw [this]; rfl
end Law
set_option Elab.async false
set_option linter.all false
set_option maxRecDepth 100000
set_option maxHeartbeats 4000000
namespace Law
open PySem PySem.Spec PyProof.Rows L2 Gh Rr
variable {E : En} {s : Sx} {x : D} {ds : List D} {r : List Th}
theorem rn_line_sizes (T : Tc E) (h : LsR x ds r) (ok : RunOk r) {y : D} {t b : Nat} (hb : b < 2 ^ 60) (R : ∀ s, Rn E 5 "checked_room" [y] s (rmD t b) s) : Rn E 6 "line_sizes" [x, y] s (.lst ((spans (words r).length (begins (fit t b) (words r))).map fun p => spD (rowW (words r) p.1 p.2, rowH (words r) p.1 p.2))) s := by
  have wok := ok.wok
  have hbl := begins_length (fit := fit t b) (words r)
  have hl := wok.len
  refine T.d_line_sizes.rn sc_line_sizes rfl rfl fun fa cdv A outer sh H0 EX S0 p hr => ?_
  conv => arg 2; whnf
  refine bk_cons (bs_set 2 sc_line_sizes.nd rfl (.inr rfl) (ed_cl (ea_cons (ed_cl (ea_cons (ed_var 0 rfl (.inl rfl) rfl) ea_nil) (hr.mono (by decide)) (rn_run T h ok)) ea_nil) (hr.mono (by decide)) (rn_ws T ok)) ?_)
  refine bk_cons (bs_set 3 sc_line_sizes.nd rfl (.inl rfl) (ed_cl (ea_cons (ed_var 2 rfl (.inr (.inl rfl)) rfl) (ea_cons (ed_cl (ea_cons (ed_var 2 rfl (.inr (.inl rfl)) rfl) (ea_cons (ed_cl (ea_cons (ed_var 1 rfl (.inl rfl) rfl) ea_nil) (hr.mono (by decide)) (R _)) ea_nil)) (hr.mono (by decide)) (rn_begins_in T wok hb)) ea_nil)) (hr.mono (by decide)) (rn_spans_of T (by omega)).rn) ?_)
  refine bk_cons (bs_ret (El.ed (el_map [("first", 4), ("upto", 5)] (fun d => spD (rowW (words r) (un2 d).1 (un2 d).2, rowH (words r) (un2 d).1 (un2 d).2)) rfl sc_line_sizes.nd (ei_seq (ed_var 3 rfl (.inl rfl) rfl) (.inl rfl)) (blkOk_by rfl) (by rw [List.length_map, spans_length]; exact small (by omega)) (fun i d hi => ?_))) ⟨?_, rfl⟩)
  · obtain ⟨q, hq, rfl⟩ := List.mem_map.mp (List.mem_of_getElem? hi)
    obtain ⟨h1, h2⟩ := span_ok hq
    refine ⟨_, _, fun c => eg_tup rfl (egs_cons (eg_name 4 sc_line_sizes.nd rfl (.inl rfl)) (egs_cons (eg_name 5 sc_line_sizes.nd rfl (.inl rfl)) egs_nil)), by decide, fun c => ?_⟩
    rw [un2_sp]
    exact ed_tup (ea_cons (ed_cl (ea_cons (ed_var 2 rfl (.inr (.inl rfl)) rfl) (ea_cons (ed_var 4 rfl (.inl rfl) rfl) (ea_cons (ed_var 5 rfl (.inl rfl) rfl) ea_nil))) (hr.mono (by decide)) (rn_row_width T wok (by omega) h2)) (ea_cons (ed_cl (ea_cons (ed_var 2 rfl (.inr (.inl rfl)) rfl) (ea_cons (ed_var 4 rfl (.inl rfl) rfl) (ea_cons (ed_var 5 rfl (.inl rfl) rfl) ea_nil))) (hr.mono (by decide)) (rn_row_height T wok h1 h2)) ea_nil))
  · rw [List.map_map]
    exact congrArg D.lst (List.map_congr_left fun q _ => by simp only [Function.comp, un2_sp])
theorem rn_height_in (T : Tc E) (h : LsR x ds r) (ok : RunOk r) {y : D} {t b : Nat} (hb : b < 2 ^ 60) (R : ∀ s, Rn E 5 "checked_room" [y] s (rmD t b) s) : Rn E 6 "height_in" [x, y] s (.int ((heights (words r) (begins (fit t b) (words r))).sum : Nat)) s := by
  have wok := ok.wok
  refine T.d_height_in.rn sc_height_in rfl rfl fun fa cdv A outer sh H0 EX S0 p hr => ?_
  conv => arg 2; whnf
  refine bk_cons (bs_set 2 sc_height_in.nd rfl (.inl rfl) (ed_cl (ea_cons (ed_cl (ea_cons (ed_var 0 rfl (.inl rfl) rfl) ea_nil) (hr.mono (by decide)) (rn_run T h ok)) ea_nil) (hr.mono (by decide)) (rn_ws T ok)) ?_)
  refine bk_cons (bs_ret (ed_sum T.bf rfl (ns := (heights (words r) (begins (fit t b) (words r))).map fun (n : Nat) => (n : Int)) (Ed.is (ed_cl (ea_cons (ed_var 2 rfl (.inl rfl) rfl) (ea_cons (ed_cl (ea_cons (ed_var 1 rfl (.inl rfl) rfl) ea_nil) (hr.mono (by decide)) (R _)) ea_nil)) (hr.mono (by decide)) (rn_heights_in T wok hb)) (by rw [nsD_ints]))) ⟨?_, rfl⟩)
  have := cast_sum (fun n : Nat => n) (heights (words r) (begins (fit t b) (words r)))
  rw [List.map_id'] at this
  rw [this]
/-- a drawn room -/
theorem rn_some_room (T : Tc E) {n top : Nat} (h : St n s) (hn : n + 10 < 2 ^ 40) (ht : top ≤ 100000) : ∃ (t b : Nat) (s' : Sx), 0 < b ∧ b ≤ 4 ∧ St (n + 3) s' ∧ Rn E 3 "_law_some_room" [.mut, .int top] s (rmD t b) s' := by
  obtain ⟨w, s1, hw, h1, R1⟩ := rn_draw T h (by omega) (many := 3) (by decide) (by decide)
  by_cases h0 : w = 0
  · subst h0
    obtain ⟨t, s2, ht2, h2, R2⟩ := rn_draw T h1 (by omega) (many := top + 2) (by omega) (by omega)
    refine ⟨t, 1, s2, by decide, by decide, h2.mono (by omega), ?_⟩
    refine T.d__law_some_room.rn sc__law_some_room (by rw [h.some, h2.some]) rfl fun fa cdv A outer sh H0 EX S0 p hr => ?_
    conv => arg 2; whnf
    refine bk_cons (bs_set 2 sc__law_some_room.nd rfl (.inl rfl) (ed_cl (ea_cons (ed_var 0 rfl (.inl rfl) rfl) (ea_cons ed_int ea_nil)) (hr.mono (by decide)) R1) ?_)
    exact bk_cons (bs_ifT (Cp.et (Cp.is (cp_eq hr (ed_var 2 rfl (.inl rfl) rfl) ed_int (eqC_int _) (eqC_int _)) (by rw [eqb_int]; rfl))) (bk_cons (bs_ret (ed_tup (ea_cons (ed_cl (ea_cons (ed_var 0 rfl (.inl rfl) rfl) (ea_cons (Ed.is (ed_bin (ed_var 1 rfl (.inl rfl) rfl) ed_int rfl trivial) (congrArg D.int (show _ = ((top + 2 : Nat) : Int) by omega))) ea_nil)) (hr.mono (by decide)) R2) (ea_cons ed_int ea_nil))) ⟨rfl, rfl⟩)))
  · obtain ⟨b, s2, hb, h2, R2⟩ := rn_pickM T (fun (p : Nat) => D.int (p : Int)) [1, 2, 3, 4] h1 (by omega) (by decide) (by decide)
    have hb4 : 0 < b ∧ b ≤ 4 := by
      simp only [List.mem_cons, List.not_mem_nil, or_false] at hb
      omega
    have hm : (top + 2) * b ≤ 1000000 := Nat.le_trans (Nat.mul_le_mul (show top + 2 ≤ 100002 by omega) hb4.2) (by decide)
    have hm0 : 0 < (top + 2) * b := Nat.mul_pos (by omega) hb4.1
    obtain ⟨t, s3, ht2, h3, R3⟩ := rn_draw T h2 (by omega) (many := (top + 2) * b) hm0 (by omega)
    refine ⟨t, b, s3, hb4.1, hb4.2, h3.mono (by omega), ?_⟩
    refine T.d__law_some_room.rn sc__law_some_room (by rw [h.some, h3.some]) rfl fun fa cdv A outer sh H0 EX S0 p hr => ?_
    conv => arg 2; whnf
    refine bk_cons (bs_set 2 sc__law_some_room.nd rfl (.inl rfl) (ed_cl (ea_cons (ed_var 0 rfl (.inl rfl) rfl) (ea_cons ed_int ea_nil)) (hr.mono (by decide)) R1) ?_)
    refine bk_cons (bs_ifF (Cp.et (Cp.is (cp_eq hr (ed_var 2 rfl (.inl rfl) rfl) ed_int (eqC_int _) (eqC_int _)) (by rw [eqb_int]; exact decide_eq_false (by omega)))) (bk_nil ?_))
    refine bk_cons (bs_set 3 sc__law_some_room.nd rfl (.inl rfl) (ed_cl (ea_cons (ed_var 0 rfl (.inl rfl) rfl) (ea_cons (El.ed (el_lst (ea_cons ed_int (ea_cons ed_int (ea_cons ed_int (ea_cons ed_int ea_nil)))))) ea_nil)) (hr.mono (by decide)) R2) ?_)
    exact bk_cons (bs_ret (ed_tup (ea_cons (ed_cl (ea_cons (ed_var 0 rfl (.inl rfl) rfl) (ea_cons (Ed.is (ed_bin (ed_bin (ed_var 1 rfl (.inl rfl) rfl) ed_int rfl trivial) (ed_var 3 rfl (.inl rfl) rfl) rfl (mulS (by omega) (by omega))) (congrArg D.int (show _ = (((top + 2) * b : Nat) : Int) by rw [Int.natCast_mul]; rfl))) ea_nil)) (hr.mono (by decide)) R3) (ea_cons (ed_var 3 rfl (.inl rfl) rfl) ea_nil))) ⟨rfl, rfl⟩)
/-- a room as it is passed -/
theorem rn_passed (T : Tc E) {n t b : Nat} (h : St n s) (hn : n + 10 < 2 ^ 40) : ∃ (y : D) (s' : Sx), Pas y t b ∧ St (n + 1) s' ∧ Rn E 3 "_law_passed" [.mut, rmD t b] s y s' := by
  by_cases hb : b = 1
  · subst hb
    obtain ⟨y, s1, hy, h1, R1⟩ := rn_pick T (xs := [rmD t 1, .lst [.int t, .int 1], .int t]) h (by omega) (by simp) (by simp)
    refine ⟨y, s1, ?_, h1, ?_⟩
    · simp only [List.mem_cons, List.not_mem_nil, or_false] at hy
      rcases hy with rfl | rfl | rfl
      · exact .inl rfl
      · exact .inr (.inl rfl)
      · exact .inr (.inr ⟨rfl, rfl⟩)
    · refine T.d__law_passed.rn sc__law_passed (by rw [h.some, h1.some]) rfl fun fa cdv A outer sh H0 EX S0 p hr => ?_
      conv => arg 2; whnf
      exact bk_cons (bs_ret (ed_ifT (Cp.et (Cp.is (cp_eq hr (ed_ix (ed_var 1 rfl (.inl rfl) rfl) ed_int rfl) ed_int (eqC_int _) (eqC_int _)) (by rw [eqb_int]; rfl))) (ed_cl (ea_cons (ed_var 0 rfl (.inl rfl) rfl) (ea_cons (El.ed (el_lst (ea_cons (ed_var 1 rfl (.inl rfl) rfl) (ea_cons (El.ed (el_listOf T.bf (ed_var 1 rfl (.inl rfl) rfl) (.inr rfl))) (ea_cons (ed_ix (ed_var 1 rfl (.inl rfl) rfl) ed_int rfl) ea_nil))))) ea_nil)) (hr.mono (by decide)) R1)) ⟨rfl, rfl⟩)
  · refine ⟨rmD t b, s, .inl rfl, h.mono (by omega), ?_⟩
    refine T.d__law_passed.rn sc__law_passed rfl rfl fun fa cdv A outer sh H0 EX S0 p hr => ?_
    conv => arg 2; whnf
    exact bk_cons (bs_ret (ed_ifF (Cp.et (Cp.is (cp_eq hr (ed_ix (ed_var 1 rfl (.inl rfl) rfl) ed_int rfl) ed_int (eqC_int _) (eqC_int _)) (by rw [eqb_int]; exact decide_eq_false (by omega)))) (ed_var 1 rfl (.inl rfl) rfl)) ⟨rfl, rfl⟩)
end Law
set_option Elab.async false
set_option linter.all false
set_option maxRecDepth 100000
set_option maxHeartbeats 4000000
namespace Law
open PySem PySem.Spec PyProof.Rows L2 Gh Rr
variable {E : En} {s : Sx} {x : D} {ds : List D} {r : List Th}
def isI : D → Bool
  | .int _ => true
  | _ => false
theorem isW_isI {x : D} {k : Kn} (hk : x.kind = some k) : isW k = isI x := by
  cases x <;> first | (cases hk; rfl) | cases hk
theorem isW_all {u v : D} {ku kv : Kn} (hu : u.kind = some ku) (hv : v.kind = some kv) (h : (isW ku && isW kv) = false) {ws : List Wd} {f : Nat → Bool} {a : Nat} {d : D} (e : items d = some [u, v]) : sp1 ws f a d = none := by
  unfold sp1
  rw [e]
  split
  · rename_i x y e2
    cases e2
    cases hu; cases hv
    cases h
  · rfl
theorem rn_law_is_breaking (T : Tc E) {ws : List Wd} {t b : Nat} {d : D} (ok : Wok ws) (hb : b < 2 ^ 60) (hd : dat d = true) : Rn E 2 "_law_is_breaking" [wsD ws, rmD t b, d] s (.bl (isBrk ws (fit t b) d)) s := by
  obtain ⟨k, hk⟩ := dat_kind hd
  have hl := ok.len
  have ht := ok.tot
  have h1 := isL_items hk hd
  refine T.d__law_is_breaking.rn sc__law_is_breaking rfl rfl fun fa cdv A outer sh H0 EX S0 p hr => ?_
  conv => arg 2; whnf
  cases e : items d with
  | none =>
    rw [e] at h1
    refine bk_cons (bs_ifT (et_not (k := false) (et_val (Ed.is (ed_isiT T.bf (ed_var 2 rfl (.inl rfl) rfl) hk (cns_cons (cn_list T.bf) (cns_cons (cn_tuple T.bf) cns_nil))) (congrArg D.bl h1)))) (bk_cons (bs_ret ed_bl ⟨?_, rfl⟩)))
    unfold isBrk; rw [e]
  | some xs =>
    rw [e] at h1
    have hds := items_dat e hd
    have eB : isBrk ws (fit t b) d = brk ws (fit t b) 0 xs := by unfold isBrk; rw [e]
    rw [eB]
    refine bk_cons (bs_ifF (et_not (k := true) (et_val (Ed.is (ed_isiT T.bf (ed_var 2 rfl (.inl rfl) rfl) hk (cns_cons (cn_list T.bf) (cns_cons (cn_tuple T.bf) cns_nil))) (congrArg D.bl h1)))) (bk_nil ?_))
    refine bk_cons (bs_set 3 sc__law_is_breaking.nd rfl (.inl rfl) ed_int ?_)
    refine bk_cons (bs_for PassesOwn.never rfl (ei_seq (ed_var 2 rfl (.inl rfl) rfl) (items_or e)) (fun i ρ s' => s' = s ∧ ∃ (a : Nat) (g4 g5 g6 g7 : G), ρ = [.val (wsD ws), .val (rmD t b), .val d, .val (.int a), g4, g5, g6, g7] ∧ a ≤ ws.length ∧ brk ws (fit t b) a (xs.drop i) = brk ws (fit t b) 0 xs) ⟨rfl, 0, .no, .no, .no, .no, rfl, Nat.zero_le _, rfl⟩ ?_ ?_)
    · rintro i z ρ' s' hi ⟨rfl, a, g4, g5, g6, g7, rfl, ha, hB⟩
      have hil := (List.getElem?_eq_some_iff.mp hi).1
      have ed : xs.drop i = z :: xs.drop (i + 1) := by
        rw [List.drop_eq_getElem_cons hil]
        rw [(List.getElem?_eq_some_iff.mp hi).2]
      rw [ed] at hB
      have hB2 : brk ws (fit t b) a (z :: xs.drop (i + 1)) = match sp1 ws (fit t b) a z with | some b' => brk ws (fit t b) b' (xs.drop (i + 1)) | none => false := rfl
      rw [hB2] at hB
      have hz := dats_mem hds (List.mem_of_getElem? hi)
      obtain ⟨kz, hkz⟩ := dat_kind hz
      have h2 := isL_items hkz hz
      refine ⟨_, _, eg_name 4 sc__law_is_breaking.nd rfl (.inl rfl), ?_⟩
      cases ez : items z with
      | none =>
        rw [ez] at h2
        have hs : sp1 ws (fit t b) a z = none := by unfold sp1; rw [ez]
        rw [hs] at hB
        refine bk_cons (bs_ifT (Ew.et (ew_orT (et_not (k := false) (et_val (Ed.is (ed_isiT T.bf (ed_var 4 rfl (.inl rfl) rfl) hkz (cns_cons (cn_list T.bf) (cns_cons (cn_tuple T.bf) cns_nil))) (congrArg D.bl h2)))))) (bk_cons (bs_ret ed_bl ⟨?_, rfl⟩)))
        rw [← hB]
      | some us =>
        rw [ez] at h2
        have huds := items_dat ez hz
        by_cases hx2 : us.length = 2
        · match us, hx2 with
          | [u, v], _ =>
          obtain ⟨d1, d2⟩ := dats_cons huds
          obtain ⟨d2, _⟩ := dats_cons d2
          obtain ⟨ku, hku⟩ := dat_kind d1
          obtain ⟨kv, hkv⟩ := dat_kind d2
          refine bk_cons (bs_ifF (Ew.et (ew_orF (et_not (k := true) (et_val (Ed.is (ed_isiT T.bf (ed_var 4 rfl (.inl rfl) rfl) hkz (cns_cons (cn_list T.bf) (cns_cons (cn_tuple T.bf) cns_nil))) (congrArg D.bl h2)))) (ew_or1 (Cp.et (Cp.is (cp_ne hr (ed_len T.bf (ed_var 4 rfl (.inl rfl) rfl) (items_size ez)) ed_int (eqC_int _) (eqC_int _)) (by rw [eqb_int]; rfl)))))) (bk_nil ?_))
          refine bk_cons (bs_if (t := !(isW ku && isW kv)) (et_not (et_val (Ed.is (ed_all T.bf rfl (bs := [isW ku, isW kv]) (Ed.is (El.ed (el_map [("_law_one", 5)] (fun d => .bl (isI d)) rfl sc__law_is_breaking.nd (ei_seq (ed_var 4 rfl (.inl rfl) rfl) (items_or ez)) (blkOk_by rfl) (show 2 ≤ sizeLine by decide) (fun i z' hz' => ?_))) (by rw [isW_isI hku, isW_isI hkv]; rfl))) (by simp)))) (fun hc => ?_) (fun hc => ?_))
          · have hm := dats_mem huds (List.mem_of_getElem? hz')
            obtain ⟨k2, hk2⟩ := dat_kind hm
            refine ⟨_, _, fun c => eg_name 5 sc__law_is_breaking.nd rfl (.inl rfl), by decide, fun c => Ed.is (ed_and (ed_isi T.bf (ed_var 5 rfl (.inl rfl) rfl) hk2 (cn_int T.bf)) fun _ => ed_one (ed_not (ed_isi T.bf (ed_var 5 rfl (.inl rfl) rfl) hk2 (cn_bool T.bf)))) (congrArg D.bl (isW_isI hk2))⟩
          · have hs : sp1 ws (fit t b) a z = none := isW_all hku hkv (by rw [Bool.not_eq_true'] at hc; exact hc) ez
            rw [hs] at hB
            refine bk_cons (bs_ret ed_bl ⟨?_, rfl⟩)
            rw [← hB]
          · have hc : (isW ku && isW kv) = true := by simpa using hc
            obtain ⟨n1, n2⟩ := Bool.and_eq_true_iff.mp hc
            obtain ⟨x', rfl⟩ := isW_int hku n1
            obtain ⟨y', rfl⟩ := isW_int hkv n2
            have es : sp1 ws (fit t b) a z = if x' = (a : Int) ∧ (a : Int) < y' ∧ y' ≤ ws.length ∧ (y' = (a : Int) + 1 ∨ fit t b (rowW ws a y'.toNat) = true) then some y'.toNat else none := by unfold sp1; rw [ez]
            refine bk_nil ?_
            rw [es] at hB
            rcases items_or ez with rfl | rfl
            all_goals
              refine bk_cons (bs_asg (ed_var 4 rfl (.inl rfl) rfl) (by first | exact eg_lst rfl (egs_cons (eg_name 6 sc__law_is_breaking.nd rfl (.inl rfl)) (egs_cons (eg_name 7 sc__law_is_breaking.nd rfl (.inl rfl)) egs_nil)) | exact eg_tup rfl (egs_cons (eg_name 6 sc__law_is_breaking.nd rfl (.inl rfl)) (egs_cons (eg_name 7 sc__law_is_breaking.nd rfl (.inl rfl)) egs_nil))) ?_)
              refine bk_cons (bs_if (t := !decide (x' = (a : Int)) || (decide (y' ≤ x') || decide ((ws.length : Int) < y'))) (Ew.et (ew_or (Cp.et (Cp.is (cp_ne hr (ed_var 6 rfl (.inl rfl) rfl) (ed_var 3 rfl (.inl rfl) rfl) (eqC_int _) (eqC_int _)) (by rw [eqb_int]))) fun _ => ew_or (Cp.et (cp_le (ed_var 7 rfl (.inl rfl) rfl) (ed_var 6 rfl (.inl rfl) rfl))) fun _ => ew_or1 (Cp.et (Cp.is (cp_gt (ed_var 7 rfl (.inl rfl) rfl) (ed_len T.bf (ed_var 0 rfl (.inl rfl) rfl) rfl)) (by rw [List.length_map]))))) (fun h3 => ?_) (fun h3 => ?_))
              · have hno : ¬ (x' = (a : Int) ∧ (a : Int) < y' ∧ y' ≤ ws.length ∧ (y' = (a : Int) + 1 ∨ fit t b (rowW ws a y'.toNat) = true)) := by
                  rintro ⟨q1, q2, q3, _⟩
                  rw [decide_eq_true q1, decide_eq_false (show ¬ y' ≤ x' by omega), decide_eq_false (show ¬ ((ws.length : Int) < y') by omega)] at h3
                  cases h3
                rw [if_neg hno] at hB
                refine bk_cons (bs_ret ed_bl ⟨?_, rfl⟩)
                rw [← hB]
              · simp only [Bool.or_eq_false_iff, Bool.not_eq_false', decide_eq_true_eq, decide_eq_false_iff_not] at h3
                obtain ⟨q1, q2, q3⟩ := h3
                obtain ⟨n, rfl⟩ : ∃ n : Nat, y' = (n : Int) := ⟨y'.toNat, by omega⟩
                subst q1
                have hw := rowW_le ws (a := a) (b := n) (by omega)
                refine bk_nil ?_
                refine bk_cons (bs_if (t := decide (a + 1 < n) && !fit t b (rowW ws a n)) (Ew.et (ew_and (l := !fit t b (rowW ws a n)) (Cp.et (Cp.is (cp_gt (ed_bin (ed_var 7 rfl (.inl rfl) rfl) (ed_var 6 rfl (.inl rfl) rfl) rfl trivial) ed_int) (decide_eq_decide.mpr (by omega)))) fun _ => ew_and1 (Cp.et (Cp.is (cp_gt (ed_bin (ed_cl (ea_cons (ed_var 0 rfl (.inl rfl) rfl) (ea_cons (ed_var 6 rfl (.inl rfl) rfl) (ea_cons (ed_var 7 rfl (.inl rfl) rfl) ea_nil))) (hr.mono (by decide)) (rn_law_row T ok (by omega) (by omega))) (ed_ix (ed_var 1 rfl (.inl rfl) rfl) ed_int rfl) rfl (mulS (by omega) (by omega))) (ed_ix (ed_var 1 rfl (.inl rfl) rfl) ed_int rfl)) (by unfold fit; rw [← decide_not]; exact decide_eq_decide.mpr (by rw [← Int.natCast_mul]; omega)))))) (fun h4 => ?_) (fun h4 => ?_))
                · obtain ⟨h5, h6⟩ := Bool.and_eq_true_iff.mp h4
                  have h5 := of_decide_eq_true h5
                  rw [Bool.not_eq_true'] at h6
                  have hno : ¬ ((a : Int) = (a : Int) ∧ (a : Int) < (n : Int) ∧ (n : Int) ≤ ws.length ∧ ((n : Int) = (a : Int) + 1 ∨ fit t b (rowW ws a ((n : Int)).toNat) = true)) := by
                    rintro ⟨_, _, _, w | w⟩
                    · omega
                    · rw [Int.toNat_natCast, h6] at w; cases w
                  rw [if_neg hno] at hB
                  refine bk_cons (bs_ret ed_bl ⟨?_, rfl⟩)
                  rw [← hB]
                · have hyes : (a : Int) = (a : Int) ∧ (a : Int) < (n : Int) ∧ (n : Int) ≤ ws.length ∧ ((n : Int) = (a : Int) + 1 ∨ fit t b (rowW ws a ((n : Int)).toNat) = true) := by
                    refine ⟨rfl, by omega, by omega, ?_⟩
                    rw [Int.toNat_natCast]
                    by_cases h5 : a + 1 < n
                    · rw [decide_eq_true h5, Bool.true_and] at h4
                      exact .inr (by cases hh : fit t b (rowW ws a n) with | true => rfl | false => rw [hh] at h4; cases h4)
                    · exact .inl (by omega)
                  rw [if_pos hyes] at hB
                  exact bk_nil (bk_cons (bs_set 3 sc__law_is_breaking.nd rfl (.inl rfl) (ed_var 7 rfl (.inl rfl) rfl) (bk_nil ⟨rfl, n, _, _, _, _, rfl, by omega, hB⟩)))
        · have hs : sp1 ws (fit t b) a z = none := sp1_len ez hx2
          rw [hs] at hB
          refine bk_cons (bs_ifT (Ew.et (ew_orF (et_not (k := true) (et_val (Ed.is (ed_isiT T.bf (ed_var 4 rfl (.inl rfl) rfl) hkz (cns_cons (cn_list T.bf) (cns_cons (cn_tuple T.bf) cns_nil))) (congrArg D.bl h2)))) (ew_or1 (Cp.et (Cp.is (cp_ne hr (ed_len T.bf (ed_var 4 rfl (.inl rfl) rfl) (items_size ez)) ed_int (eqC_int _) (eqC_int _)) (by rw [eqb_int, decide_eq_false (by omega)]; rfl)))))) (bk_cons (bs_ret ed_bl ⟨?_, rfl⟩)))
          rw [← hB]
    · rintro ρ' s' ⟨rfl, a, g4, g5, g6, g7, rfl, ha, hB⟩
      rw [List.drop_length] at hB
      refine bk_cons (bs_ret (Cp.ed (cp_eq hr (ed_var 3 rfl (.inl rfl) rfl) (ed_len T.bf (ed_var 0 rfl (.inl rfl) rfl) rfl) (eqC_int _) (eqC_int _))) ⟨?_, rfl⟩)
      rw [← hB, eqb_int, List.length_map]
      exact congrArg D.bl (decide_eq_decide.mpr (by omega))
end Law
set_option Elab.async false
set_option linter.all false
set_option maxRecDepth 100000
set_option maxHeartbeats 4000000
namespace Law
open PySem PySem.Spec PyProof.Rows L2 Gh Rr
variable {E : En} {s : Sx} {x : D} {ds : List D} {r : List Th}
theorem rn_law_is_chain (T : Tc E) {ws : List Wd} {t b : Nat} {d : D} (ok : Wok ws) (hb : b < 2 ^ 60) (hd : dat d = true) (hl2 : ∀ xs, items d = some xs → xs.length ≤ 1000) : Rn E 2 "_law_is_chain" [wsD ws, rmD t b, d] s (.bl (isChn ws (fit t b) d)) s := by
  obtain ⟨k, hk⟩ := dat_kind hd
  have hl := ok.len
  have ht := ok.tot
  have h1 := isL_items hk hd
  refine T.d__law_is_chain.rn sc__law_is_chain rfl rfl fun fa cdv A outer sh H0 EX S0 p hr => ?_
  conv => arg 2; whnf
  cases e : items d with
  | none =>
    rw [e] at h1
    refine bk_cons (bs_ifT (Ew.et (ew_orT (et_not (k := false) (et_val (Ed.is (ed_isiT T.bf (ed_var 2 rfl (.inl rfl) rfl) hk (cns_cons (cn_list T.bf) (cns_cons (cn_tuple T.bf) cns_nil))) (congrArg D.bl h1)))))) (bk_cons (bs_ret ed_bl ⟨?_, rfl⟩)))
    unfold isChn; rw [e]
  | some xs =>
    rw [e] at h1
    have hds := items_dat e hd
    have hx1 := hl2 xs e
    have eC : isChn ws (fit t b) d = (!xs.isEmpty && xs.all (inW ws.length) && (((xs.map unI).zip ((xs.map unI).drop 1)).all (lnk ws (fit t b)))) := by unfold isChn; rw [e]
    rw [eC]
    refine bk_cons (bs_if (t := xs.isEmpty) (Ew.et (ew_orF (et_not (k := true) (et_val (Ed.is (ed_isiT T.bf (ed_var 2 rfl (.inl rfl) rfl) hk (cns_cons (cn_list T.bf) (cns_cons (cn_tuple T.bf) cns_nil))) (congrArg D.bl h1)))) (ew_or1 (Cp.et (Cp.is (cp_eq hr (ed_len T.bf (ed_var 2 rfl (.inl rfl) rfl) (items_size e)) ed_int (eqC_int _) (eqC_int _)) (by rw [eqb_int]; cases xs with | nil => rfl | cons z zs => exact decide_eq_false (by simp; omega))))))) (fun hc => bk_cons (bs_ret ed_bl ⟨by rw [hc]; rfl, rfl⟩)) (fun hc => bk_nil ?_))
    rw [hc]
    refine bk_cons (bs_if (t := !xs.all (inW ws.length)) (et_not (et_val (Ed.is (ed_all T.bf rfl (bs := xs.map (inW ws.length)) (Ed.is (El.ed (el_map [("_law_one", 3)] (fun d => .bl (inW ws.length d)) rfl sc__law_is_chain.nd (ei_seq (ed_var 2 rfl (.inl rfl) rfl) (items_or e)) (blkOk_by rfl) (small hx1) (fun i z hz => ?_))) (by rw [List.map_map]; rfl))) (congrArg D.bl (by rw [List.all_map]; rfl))))) (fun hc2 => bk_cons (bs_ret ed_bl ⟨by rw [Bool.not_eq_true'] at hc2; rw [hc2]; rfl, rfl⟩)) (fun hc2 => bk_nil ?_))
    · have hm := dats_mem hds (List.mem_of_getElem? hz)
      obtain ⟨k2, hk2⟩ := dat_kind hm
      have hI := isW_isI hk2
      refine ⟨_, _, fun c => eg_name 3 sc__law_is_chain.nd rfl (.inl rfl), by decide, fun c => ?_⟩
      cases z with
      | int i' => exact Ed.is (ed_andT (Ed.is (ed_isi T.bf (ed_var 3 rfl (.inl rfl) rfl) hk2 (cn_int T.bf)) (by cases hk2; rfl)) (ed_andT (Ed.is (ed_not (ed_isi T.bf (ed_var 3 rfl (.inl rfl) rfl) hk2 (cn_bool T.bf))) (by cases hk2; rfl)) (ed_one (ed_chainII op_le op_lt ed_int (ed_var 3 rfl (.inl rfl) rfl) (ed_len T.bf (ed_var 0 rfl (.inr (.inl rfl)) rfl) rfl))))) (by rw [List.length_map]; rfl)
      | bl b' => exact Ed.is (ed_andT (Ed.is (ed_isi T.bf (ed_var 3 rfl (.inl rfl) rfl) hk2 (cn_int T.bf)) (by cases hk2; rfl)) (ed_andF (Ed.is (ed_not (ed_isi T.bf (ed_var 3 rfl (.inl rfl) rfl) hk2 (cn_bool T.bf))) (by cases hk2; rfl)))) rfl
      | _ => first | exact Ed.is (ed_andF (Ed.is (ed_isi T.bf (ed_var 3 rfl (.inl rfl) rfl) hk2 (cn_int T.bf)) (by cases hk2; rfl))) rfl | cases hk2
    have hall : xs.all (inW ws.length) = true := by
      cases hh : xs.all (inW ws.length) with
      | true => rfl
      | false => rw [hh] at hc2; cases hc2
    rw [hall]
    obtain ⟨ex, hm⟩ := all_ns hall
    generalize xs.map unI = l at *
    subst ex
    have ez : zipD (nsD l) (cutD (nsD l) (some 1) none) = (l.zip (l.drop 1)).map spD := by
      rw [cut_from1, show (nsD l).drop 1 = nsD (l.drop 1) by simp [nsD, List.map_drop], zipD_ns]
    have hll : l.length ≤ 1000 := by rw [nsD_length] at hx1; exact hx1
    refine bk_cons (bs_set 4 (d := .lst ((l.zip (l.drop 1)).map spD)) (s1 := s) sc__law_is_chain.nd rfl (.inl rfl) ?_ ?_)
    · rw [← ez]
      rcases items_or e with rfl | rfl
      · exact El.ed (el_listZip T.bf rfl (ed_var 2 rfl (.inl rfl) rfl) (El.ed (el_slice (ed_var 2 rfl (.inl rfl) rfl) (.some ed_int) .none)))
      · exact El.ed (el_listZipT T.bf rfl (ed_var 2 rfl (.inl rfl) rfl) (ed_sliceT (ed_var 2 rfl (.inl rfl) rfl) (.some ed_int) .none) (small hx1))
    refine bk_cons (bs_ret (Ed.is (ed_all T.bf rfl (bs := (l.zip (l.drop 1)).map (lnk ws (fit t b))) (Ed.is (El.ed (el_map [("_law_one", 3), ("_law_two", 5)] (fun d => .bl (lnk ws (fit t b) (un2 d))) rfl sc__law_is_chain.nd (ei_seq (ed_var 4 rfl (.inl rfl) rfl) (.inl rfl)) (blkOk_by rfl) (by rw [List.length_map, List.length_zip]; exact small (by omega)) (fun i z hz => ?_))) ?_)) ?_) ⟨rfl, rfl⟩)
    · obtain ⟨q, hq, rfl⟩ := List.mem_map.mp (List.mem_of_getElem? hz)
      have hq := List.of_mem_zip hq
      have hq1 := hm q.1 hq.1
      have hq2 := hm q.2 (List.mem_of_mem_drop hq.2)
      have hw := rowW_le ws (a := q.1) (b := q.2 + 1) (by omega)
      refine ⟨_, _, fun c => eg_tup rfl (egs_cons (eg_name 3 sc__law_is_chain.nd rfl (.inl rfl)) (egs_cons (eg_name 5 sc__law_is_chain.nd rfl (.inl rfl)) egs_nil)), by decide, fun c => ?_⟩
      rw [un2_sp]
      exact ed_and (k := decide (q.1 < q.2)) (l := !fit t b (rowW ws q.1 (q.2 + 1))) (Ed.is (Cp.ed (cp_lt (ed_var 3 rfl (.inl rfl) rfl) (ed_var 5 rfl (.inl rfl) rfl))) (congrArg D.bl (decide_eq_decide.mpr (by omega)))) fun hlt => ed_one (Ed.is (Cp.ed (cp_gt (ed_bin (ed_cl (ea_cons (ed_var 0 rfl (.inr (.inl rfl)) rfl) (ea_cons (ed_var 3 rfl (.inl rfl) rfl) (ea_cons (Ed.is (ed_bin (ed_var 5 rfl (.inl rfl) rfl) ed_int rfl trivial) (congrArg D.int (show _ = ((q.2 + 1 : Nat) : Int) by omega))) ea_nil))) (hr.mono (by decide)) (rn_law_row T ok (by have := of_decide_eq_true hlt; omega) (by omega))) (ed_ix (ed_var 1 rfl (.inr (.inl rfl)) rfl) ed_int rfl) rfl (mulS (by omega) (by omega))) (ed_ix (ed_var 1 rfl (.inr (.inl rfl)) rfl) ed_int rfl))) (congrArg D.bl (by unfold fit; rw [← decide_not]; exact decide_eq_decide.mpr (by rw [← Int.natCast_mul]; omega))))
    · rw [List.map_map, List.map_map]
      exact congrArg D.lst (List.map_congr_left fun q _ => by simp only [Function.comp, un2_sp])
    · refine congrArg D.bl ?_
      rw [List.all_map]; rfl
end Law
set_option Elab.async false
set_option linter.all false
set_option maxRecDepth 100000
set_option maxHeartbeats 4000000
namespace Law
open PySem PySem.Spec PyProof.Rows L2 Gh Rr
variable {E : En} {s : Sx} {x : D} {ds : List D} {r : List Th}
/-- the numbers that are told for one end: the line of one word, then all that fit -/
def alts (f : Nat → Bool) (ws : List Wd) (u : Nat) (n : Nat) : List Nat := (cnt f ws (u - 1) + 1) :: ((List.range n).filter fun a => f (rowW ws a u)).map fun a => cnt f ws a + 1
theorem alts_succ (f : Nat → Bool) (ws : List Wd) (u n : Nat) : alts f ws u (n + 1) = if f (rowW ws n u) = true then alts f ws u n ++ [cnt f ws n + 1] else alts f ws u n := by
  unfold alts
  rw [List.range_succ, List.filter_append, List.map_append]
  cases h : f (rowW ws n u) <;> simp [h]
theorem alts_min {t b : Nat} {ws : List Wd} {u : Nat} (h : 0 < u) : cnt (fit t b) ws u ∈ alts (fit t b) ws u (u - 1) ∧ ∀ y ∈ alts (fit t b) ws u (u - 1), cnt (fit t b) ws u ≤ y := by
  constructor
  · obtain ⟨l, l1, l2, l3⟩ := cnt_at (f := fit t b) (ws := ws) h
    unfold alts
    rcases Nat.lt_or_ge l (u - 1) with z | z
    · rcases l3 with l3 | l3
      · omega
      · rw [l2]
        exact List.mem_cons_of_mem _ (List.mem_map.mpr ⟨l, List.mem_filter.mpr ⟨List.mem_range.mpr z, l3⟩, rfl⟩)
    · have : l = u - 1 := by omega
      rw [l2, this]; exact List.mem_cons_self
  · intro y hy
    unfold alts at hy
    rcases List.mem_cons.mp hy with rfl | hy
    · exact cnt_step (by omega) (.inl (by omega))
    · obtain ⟨a, ha, rfl⟩ := List.mem_map.mp hy
      obtain ⟨h1, h2⟩ := List.mem_filter.mp ha
      have := List.mem_range.mp h1
      exact cnt_step (by omega) (.inr h2)
theorem alts_len (f : Nat → Bool) (ws : List Wd) (u n : Nat) : (alts f ws u n).length ≤ n + 1 := by
  unfold alts
  rw [List.length_cons, List.length_map]
  have := List.length_filter_le (fun a => f (rowW ws a u)) (List.range n)
  rw [List.length_range] at this
  omega
theorem at_ns {l : List Nat} {n m : Nat} (h : l[n]? = some m) : atI (nsD l) (n : Int) = some (.int m) := by
  refine atI_nat' ?_
  unfold nsD
  rw [List.getElem?_map, h]; rfl
theorem rn_fewest (T : Tc E) {ws : List Wd} {t b : Nat} (ok : Wok ws) (hb : b < 2 ^ 60) : Rn E 2 "_law_fewest" [wsD ws, rmD t b] s (.int (begins (fit t b) ws).length) s := by
  have hl := ok.len
  have ht := ok.tot
  refine T.d__law_fewest.rn sc__law_fewest rfl rfl fun fa cdv A outer sh H0 EX S0 p hr => ?_
  conv => arg 2; whnf
  have get : ∀ {n i : Nat}, i < n → ((List.range n).map (cnt (fit t b) ws))[i]? = some (cnt (fit t b) ws i) := fun {n i} h => by rw [List.getElem?_map, List.getElem?_range h]; rfl
  refine bk_cons (bs_setOwn 2 sc__law_fewest.nd rfl (.inl rfl) (el_lst (ea_cons ed_int ea_nil)) ?_)
  refine bk_cons (bs_for PassesOwn.never rfl (ei_range2 (i := ((1 : Nat) : Int)) (j := ((ws.length + 1 : Nat) : Int)) T.bf ed_int (Ed.is (ed_bin (ed_len T.bf (ed_var 0 rfl (.inl rfl) rfl) rfl) ed_int rfl trivial) (congrArg D.int (by rw [List.length_map]; omega))) ⟨by omega, by omega, by omega, by omega⟩) (fun i ρ s' => s' = s ∧ ∃ g3 g4 g5, ρ = [.val (wsD ws), .val (rmD t b), .own (nsD ((List.range (i + 1)).map (cnt (fit t b) ws))), g3, g4, g5]) ⟨rfl, _, _, _, rfl⟩ ?_ ?_)
  · rintro i z ρ' s' hi ⟨rfl, g3, g4, g5, rfl⟩
    obtain ⟨hin, rfl⟩ := rangeD_inv (lo := 1) hi
    have hiw : i < ws.length := by omega
    refine ⟨_, _, eg_name 3 sc__law_fewest.nd rfl (.inl rfl), ?_⟩
    refine bk_cons (bs_setOwn 4 (ds := nsD (alts (fit t b) ws (1 + i) 0)) sc__law_fewest.nd rfl (.inl rfl) (El.is (el_lst (ea_cons (ed_bin (ed_ixV (ev_own 2 rfl (.inl rfl) rfl) (Ed.is (y := .int (i : Int)) (ed_bin (ed_var 3 rfl (.inl rfl) rfl) ed_int rfl trivial) (congrArg D.int (by omega))) (at_ns (get (by omega)))) ed_int rfl trivial) ea_nil)) ?_) ?_)
    · unfold alts nsD
      simp
    refine bk_cons (bs_for PassesOwn.never rfl (ei_range1 (j := (i : Int)) T.bf (Ed.is (ed_bin (ed_var 3 rfl (.inl rfl) rfl) ed_int rfl trivial) (congrArg D.int (by omega))) (by omega) (by omega)) (fun j ρ s'' => s'' = s' ∧ ∃ g5, ρ = [.val (wsD ws), .val (rmD t b), .own (nsD ((List.range (i + 1)).map (cnt (fit t b) ws))), .val (.int ((1 + i : Nat) : Int)), .own (nsD (alts (fit t b) ws (1 + i) j)), g5]) ⟨rfl, _, rfl⟩ ?_ ?_)
    · rintro j z ρ' s'' hj ⟨rfl, g5, rfl⟩
      obtain ⟨hjn, rfl⟩ := rangeD_inv (lo := 0) hj
      rw [Nat.zero_add]
      have hji : j < i := by omega
      have hw := rowW_le ws (a := j) (b := 1 + i) (by omega)
      have hal := alts_len (fit t b) ws (1 + i) j
      refine ⟨_, _, eg_name 5 sc__law_fewest.nd rfl (.inl rfl), ?_⟩
      rw [alts_succ]
      refine bk_cons (bs_if (t := fit t b (rowW ws j (1 + i))) (Cp.et (Cp.is (cp_le (ed_bin (ed_cl (ea_cons (ed_var 0 rfl (.inl rfl) rfl) (ea_cons (ed_var 5 rfl (.inl rfl) rfl) (ea_cons (ed_var 3 rfl (.inl rfl) rfl) ea_nil))) (hr.mono (by decide)) (rn_law_row T ok (by omega) (by omega))) (ed_ix (ed_var 1 rfl (.inl rfl) rfl) ed_int rfl) rfl (mulS (by omega) (by omega))) (ed_ix (ed_var 1 rfl (.inl rfl) rfl) ed_int rfl)) (by unfold fit; exact decide_eq_decide.mpr (by rw [← Int.natCast_mul]; omega)))) (fun hc => ?_) (fun hc => ?_))
      · rw [if_pos hc]
        refine bk_cons (bs_append 4 (d := .int ((cnt (fit t b) ws j + 1 : Nat) : Int)) rfl (.inl rfl) rfl (Ed.is (ed_bin (ed_ixV (ev_own 2 rfl (.inl rfl) rfl) (ed_var 5 rfl (.inl rfl) rfl) (at_ns (get (by omega)))) ed_int rfl trivial) (congrArg D.int (by omega))) (by rw [nsD_length]; exact Nat.lt_of_le_of_lt (show _ ≤ 1001 by omega) (by decide)) (bk_nil (bk_nil ⟨rfl, _, by simp [nsD]; rfl⟩)))
      · rw [if_neg (by rw [hc]; decide)]
        exact bk_nil (bk_nil ⟨rfl, _, rfl⟩)
    · rintro ρ' s'' ⟨rfl, g5, rfl⟩
      rw [rangeD_length, Int.toNat_natCast]
      refine bk_freeze 4 rfl ?_
      obtain ⟨m1, m2⟩ := alts_min (t := t) (b := b) (ws := ws) (u := 1 + i) (by omega)
      rw [show 1 + i - 1 = i by omega] at m1 m2
      refine bk_cons (bs_append 2 (d := .int ((cnt (fit t b) ws (1 + i) : Nat) : Int)) rfl (.inl rfl) rfl (ed_minL (ns := (alts (fit t b) ws (1 + i) i).map fun (n : Nat) => (n : Int)) T.bf rfl (Ed.is (ed_var 4 rfl (.inl rfl) rfl) (by rw [nsD_ints])) (List.mem_map.mpr ⟨_, m1, rfl⟩) (fun y hy => ?_)) (by rw [nsD_length, List.length_map, List.length_range]; exact Nat.lt_of_le_of_lt (show _ ≤ 1001 by omega) (by decide)) (bk_nil ⟨rfl, .val (.int ((1 + i : Nat) : Int)), .val (.lst (nsD (alts (fit t b) ws (1 + i) i))), g5, ?_⟩))
      · obtain ⟨n, hn, rfl⟩ := List.mem_map.mp hy
        have := m2 n hn
        omega
      · rw [List.range_succ (n := i + 1), List.map_append]
        unfold nsD
        rw [List.map_append, Nat.add_comm 1 i]
        rfl
  · rintro ρ' s' ⟨rfl, g3, g4, g5, rfl⟩
    rw [rangeD_length]
    have e : ((((ws.length + 1 : Nat) : Int) - ((1 : Nat) : Int)).toNat) = ws.length := by omega
    rw [e]
    have el : ((nsD ((List.range (ws.length + 1)).map (cnt (fit t b) ws)))).getLast? = some (.int (begins (fit t b) ws).length) := by
      unfold nsD
      rw [List.range_succ, List.map_append, List.map_append]
      simp [Rr.cnt, gst_all]
    exact bk_cons (bs_ret (ed_ixV (ev_own 2 rfl (.inl rfl) rfl) (ed_neg ed_int) (atI_last el)) ⟨rfl, rfl⟩)
end Law
set_option Elab.async false
set_option linter.all false
set_option maxRecDepth 100000
set_option maxHeartbeats 4000000
namespace Rr
/-- a breaking from a word on -/
inductive Brk (ws : List Wd) (f : Nat → Bool) : Nat → List (Nat × Nat) → Prop
  | nil : Brk ws f ws.length []
  | cons {a b : Nat} {rest : List (Nat × Nat)} : a < b → b ≤ ws.length → (b = a + 1 ∨ f (rowW ws a b) = true) → Brk ws f b rest → Brk ws f a ((a, b) :: rest)
/-- no line of a breaking begins later -/
theorem Brk.ahead {t b : Nat} {ws : List Wd} {rows : List (Nat × Nat)} {a : Nat} (h : Brk ws (fit t b) a rows) : ∀ {k : Nat}, Rr.cnt (fit t b) ws a ≤ k → ∀ {j : Nat} {p : Nat × Nat} {g : Nat}, rows[j]? = some p → (begins (fit t b) ws)[k + j]? = some g → p.1 ≤ g := by
  induction h with
  | nil => intro k _ j p g h; simp at h
  | @cons a b' rest h1 h2 h3 h4 ih =>
    intro k hc j p g h hg
    cases j with
    | zero =>
      have : p = (a, b') := by simpa using h.symm
      subst this
      exact Rr.ahead (by omega) hc hg
    | succ j =>
      have hs := cnt_step (t := t) (b := b) (ws := ws) h1 h3
      refine ih (k := k + 1) (by omega) (j := j) (by simpa using h) ?_
      rw [show k + 1 + j = k + (j + 1) by omega]; exact hg
theorem Brk.len {ws : List Wd} {f : Nat → Bool} {a : Nat} {rows : List (Nat × Nat)} (h : Brk ws f a rows) : rows.length + a ≤ ws.length := by
  induction h with
  | nil => simp
  | cons h1 h2 h3 h4 ih => simp; omega
/-- the ends that a line may have -/
def ends (f : Nat → Bool) (ws : List Wd) (a n : Nat) : List Nat := (a + 1) :: ((List.range n).map fun k => a + 2 + k).filter fun u => f (rowW ws a u)
theorem ends_succ (f : Nat → Bool) (ws : List Wd) (a n : Nat) : ends f ws a (n + 1) = ends f ws a n ++ (if f (rowW ws a (a + 2 + n)) = true then [a + 2 + n] else []) := by
  unfold ends
  rw [List.range_succ, List.map_append, List.filter_append]
  cases h : f (rowW ws a (a + 2 + n)) <;> simp [h]
theorem ends_len (f : Nat → Bool) (ws : List Wd) (a n : Nat) : (ends f ws a n).length ≤ n + 1 := by
  unfold ends
  rw [List.length_cons]
  have := List.length_filter_le (fun u => f (rowW ws a u)) ((List.range n).map fun k => a + 2 + k)
  rw [List.length_map, List.length_range] at this
  omega
theorem ends_mem {f : Nat → Bool} {ws : List Wd} {a u : Nat} (ha : a < ws.length) (h : u ∈ ends f ws a (ws.length - (a + 1))) : a < u ∧ u ≤ ws.length ∧ (u = a + 1 ∨ f (rowW ws a u) = true) := by
  unfold ends at h
  rcases List.mem_cons.mp h with rfl | h
  · exact ⟨by omega, by omega, .inl rfl⟩
  · obtain ⟨h1, h2⟩ := List.mem_filter.mp h
    obtain ⟨k, hk, rfl⟩ := List.mem_map.mp h1
    have := List.mem_range.mp hk
    exact ⟨by omega, by omega, .inr h2⟩
end Rr
namespace Law
open PySem PySem.Spec PyProof.Rows L2 Gh Rr
variable {E : En} {s : Sx} {x : D} {ds : List D} {r : List Th}
def pickL (f : Nat → Bool) (ws : List Wd) (a : Nat) : List D := nsD (ends f ws a (ws.length - (a + 1))) ++ (nsD (ends f ws a (ws.length - (a + 1)))).drop ((ends f ws a (ws.length - (a + 1))).length - 1)
/-- a breaking as it is drawn -/
inductive Path (E : En) (ws : List Wd) (f : Nat → Bool) : Nat → Sx → List (Nat × Nat) → Sx → Prop
  | nil {s : Sx} : Path E ws f ws.length s [] s
  | cons {a b : Nat} {rest : List (Nat × Nat)} {s s1 s2 : Sx} : a < b → b ≤ ws.length → s.isSome = true → Rn E 2 "_law_pick" [.mut, .lst (pickL f ws a)] s (.int b) s1 → Path E ws f b s1 rest s2 → Path E ws f a s ((a, b) :: rest) s2
theorem path_ex (T : Tc E) {ws : List Wd} {f : Nat → Bool} (ok : Wok ws) : ∀ (k a n : Nat) (s : Sx), ws.length - a = k → a ≤ ws.length → St n s → n + k < 2 ^ 40 → ∃ (rows : List (Nat × Nat)) (s' : Sx), Brk ws f a rows ∧ St (n + k) s' ∧ Path E ws f a s rows s' := by
  intro k
  induction k using Nat.strongRecOn with
  | _ k ih =>
    intro a n s hk ha h hn
    rcases Nat.lt_or_ge a ws.length with z | z
    · have hel := ends_len f ws a (ws.length - (a + 1))
      have hl := ok.len
      obtain ⟨d, s1, hd, h1, R1⟩ := rn_pick T (xs := pickL f ws a) h (by omega) (by unfold pickL ends nsD; simp) (by unfold pickL; rw [List.length_append, List.length_drop, nsD_length]; omega)
      have hd2 : ∃ b : Nat, d = .int b ∧ b ∈ ends f ws a (ws.length - (a + 1)) := by
        unfold pickL at hd
        have : d ∈ nsD (ends f ws a (ws.length - (a + 1))) := by
          rcases List.mem_append.mp hd with w | w
          · exact w
          · exact List.mem_of_mem_drop w
        obtain ⟨b, hb, rfl⟩ := List.mem_map.mp this
        exact ⟨b, rfl, hb⟩
      obtain ⟨b, rfl, hb⟩ := hd2
      obtain ⟨q1, q2, q3⟩ := ends_mem z hb
      obtain ⟨rows, s2, B, h2, P⟩ := ih (ws.length - b) (by omega) b (n + 1) s1 rfl q2 h1 (by omega)
      exact ⟨(a, b) :: rows, s2, .cons q1 q2 q3 B, h2.mono (by omega), .cons q1 q2 h.some R1 P⟩
    · have : a = ws.length := by omega
      subst this
      exact ⟨[], s, .nil, h.mono (by omega), .nil⟩
end Law
set_option Elab.async false
set_option linter.all false
set_option maxRecDepth 100000
set_option maxHeartbeats 4000000
namespace Law
open PySem PySem.Spec PyProof.Rows L2 Gh Rr
variable {E : En} {s : Sx} {x : D} {ds : List D} {r : List Th}
theorem cut_end (xs : List D) : cutD xs (some (-1)) none = xs.drop (xs.length - 1) := by
  simp only [Gh.cutD, HT.sIx]
  simp
  have e : ((-1 : Int) + (xs.length : Int)).toNat = xs.length - 1 := by omega
  first
    | (rw [e, List.take_of_length_le (by simp)])
    | (simp [List.take_of_length_le]; congr 1; omega)
theorem rn_some_breaking (T : Tc E) {ws : List Wd} {t b n : Nat} (ok : Wok ws) (hb : b < 2 ^ 60) (h : St n s) (hn : n + 1000 < 2 ^ 40) : ∃ (rows : List (Nat × Nat)) (s' : Sx), Brk ws (fit t b) 0 rows ∧ St (n + ws.length) s' ∧ Rn E 3 "_law_some_breaking" [.mut, wsD ws, rmD t b] s (.lst (rows.map spD)) s' := by
  have hl := ok.len
  have ht := ok.tot
  obtain ⟨rows, s', B, h', P⟩ := path_ex T (f := fit t b) ok ws.length 0 n s (by omega) (by omega) h (by omega)
  refine ⟨rows, s', B, h', ?_⟩
  have hrl := B.len
  refine T.d__law_some_breaking.rn sc__law_some_breaking (by rw [h.some, h'.some]) rfl fun fa cdv A outer sh H0 EX S0 p hr => ?_
  conv => arg 2; whnf
  refine bk_cons (bs_parOV 3 4 rfl sc__law_some_breaking.nd rfl rfl (by decide) rfl rfl (el_lst ea_nil) ed_int ?_)
  refine bk_cons (bs_while PassesOwn.never (fun ρ sx => ∃ (done rest : List (Nat × Nat)) (a : Nat) (g5 g6 : G), ρ = [.val .mut, .val (wsD ws), .val (rmD t b), .own (done.map spD), .val (.int a), g5, g6] ∧ Path E ws (fit t b) a sx rest s' ∧ done ++ rest = rows ∧ a ≤ ws.length) (fun ρ _ => match ρ with | [_, _, _, _, .val (.int a), _, _] => ws.length - a.toNat | _ => 0) ⟨[], rows, 0, .no, .no, rfl, P, rfl, by omega⟩ ?_)
  rintro ρ' sx ⟨done, rest, a, g5, g6, rfl, P', e, ha⟩
  cases P' with
  | nil =>
    refine ⟨false, _, Cp.et (Cp.is (cp_lt (ed_var 4 rfl (.inl rfl) rfl) (ed_len T.bf (ed_var 1 rfl (.inl rfl) rfl) rfl)) (by rw [List.length_map]; exact decide_eq_false (by omega))), (fun z => by cases z), fun _ => ?_⟩
    rw [List.append_nil] at e
    subst e
    exact bk_freeze 3 rfl (bk_cons (bs_ret (ed_var 3 rfl (.inl rfl) rfl) ⟨rfl, rfl⟩))
  | @cons _ u rest s1 _ _ hau hu hsx R1 P2 =>
    have hdl : done.length ≤ 1000 := by
      have : done.length ≤ rows.length := by rw [← e, List.length_append]; omega
      omega
    refine ⟨true, _, Cp.et (Cp.is (cp_lt (ed_var 4 rfl (.inl rfl) rfl) (ed_len T.bf (ed_var 1 rfl (.inl rfl) rfl) rfl)) (by rw [List.length_map]; exact decide_eq_true (by omega))), (fun _ => ?_), (fun z => by cases z)⟩
    refine bk_cons (bs_setOwn 5 (ds := nsD (ends (fit t b) ws a 0)) sc__law_some_breaking.nd rfl (.inl rfl) (El.is (el_lst (ea_cons (ed_bin (ed_var 4 rfl (.inl rfl) rfl) ed_int rfl trivial) ea_nil)) (by unfold ends nsD; simp)) ?_)
    refine bk_cons (bs_for PassesOwn.never rfl (ei_range2 (i := ((a + 2 : Nat) : Int)) (j := ((ws.length + 1 : Nat) : Int)) T.bf (Ed.is (ed_bin (ed_var 4 rfl (.inl rfl) rfl) ed_int rfl trivial) (congrArg D.int (by omega))) (Ed.is (ed_bin (ed_len T.bf (ed_var 1 rfl (.inl rfl) rfl) rfl) ed_int rfl trivial) (congrArg D.int (by rw [List.length_map]; omega))) ⟨by omega, by omega, by omega, by omega⟩) (fun i ρ s'' => s'' = sx ∧ ∃ g6, ρ = [.val .mut, .val (wsD ws), .val (rmD t b), .own (done.map spD), .val (.int a), .own (nsD (ends (fit t b) ws a i)), g6]) ⟨rfl, _, rfl⟩ ?_ ?_)
    · rintro i z ρ' s'' hi ⟨rfl, g6, rfl⟩
      obtain ⟨hin, rfl⟩ := rangeD_inv (lo := a + 2) hi
      have hw := rowW_le ws (a := a) (b := a + 2 + i) (by omega)
      have hel := ends_len (fit t b) ws a i
      refine ⟨_, _, eg_name 6 sc__law_some_breaking.nd rfl (.inl rfl), ?_⟩
      rw [ends_succ]
      refine bk_cons (bs_extend 5 (ds := nsD (if fit t b (rowW ws a (a + 2 + i)) = true then [a + 2 + i] else [])) rfl (.inl rfl) rfl (El.is (el_rep (k := if fit t b (rowW ws a (a + 2 + i)) then 1 else 0) (El.ed (el_lst (ea_cons (ed_var 6 rfl (.inl rfl) rfl) ea_nil))) (ed_intB T.bf (Cp.ed (Cp.is (cp_le (ed_bin (ed_cl (ea_cons (ed_var 1 rfl (.inl rfl) rfl) (ea_cons (ed_var 4 rfl (.inl rfl) rfl) (ea_cons (ed_var 6 rfl (.inl rfl) rfl) ea_nil))) (hr.mono (by decide)) (rn_law_row T ok (by omega) (by omega))) (ed_ix (ed_var 2 rfl (.inl rfl) rfl) ed_int rfl) rfl (mulS (by omega) (by omega))) (ed_ix (ed_var 2 rfl (.inl rfl) rfl) ed_int rfl)) (by unfold fit; exact decide_eq_decide.mpr (by rw [← Int.natCast_mul]; omega))))) (by split <;> decide) (by split; exact (show 1 * 1 ≤ sizeLine by decide); exact (show 1 * 0 ≤ sizeLine by decide))) ?_) (by rw [nsD_length, nsD_length]; refine Nat.le_trans (show _ ≤ 2000 from ?_) (by decide); split <;> simp <;> omega) (bk_nil ⟨rfl, .val (.int ((a + 2 + i : Nat) : Int)), ?_⟩))
      · split <;> simp [nsD]
      · unfold nsD; rw [List.map_append]; rfl
    · rintro ρ' s'' ⟨rfl, g6, rfl⟩
      rw [rangeD_length]
      have e2 : ((((ws.length + 1 : Nat) : Int) - ((a + 2 : Nat) : Int)).toNat) = ws.length - (a + 1) := by omega
      rw [e2]
      have hel := ends_len (fit t b) ws a (ws.length - (a + 1))
      have el : ((done ++ [(a, u)]).map spD).getLast? = some (spD (a, u)) := by simp
      refine bk_cons (bs_append 3 (d := spD (a, u)) rfl (.inl rfl) rfl (ed_tup (ea_cons (ed_var 4 rfl (.inl rfl) rfl) (ea_cons (ed_cl (ea_cons (ed_var 0 rfl (.inl rfl) rfl) (ea_cons (El.ed (El.is (el_catV (by rw [nsD_length, cut_end, List.length_drop, nsD_length]; exact Nat.le_trans (show _ ≤ 3000 by omega) (by decide)) (ev_own 5 rfl (.inl rfl) rfl) (El.ev (el_sliceV (ev_own 5 rfl (.inl rfl) rfl) (.some (ed_neg ed_int)) .none))) ?_)) ea_nil)) (hr.mono (by decide)) R1) ea_nil))) (by rw [List.length_map]; exact Nat.lt_of_le_of_lt hdl (by decide)) ?_)
      · rw [cut_end, nsD_length]; rfl
      refine bk_cons (bs_set 4 sc__law_some_breaking.nd rfl (.inl rfl) (ed_ix (ed_ixV (ev_own 3 rfl (.inl rfl) rfl) (ed_neg ed_int) (atI_last (x := spD (a, u)) ?_)) ed_int rfl) (bk_nil ⟨⟨done ++ [(a, u)], rest, u, .own (nsD (ends (fit t b) ws a (ws.length - (a + 1)))), g6, ?_, P2, by simpa using e, hu⟩, ?_⟩))
      · simp
      · rw [List.map_append]; rfl
      · show ws.length - _ < ws.length - _
        simp
        omega
end Law
set_option Elab.async false
set_option linter.all false
set_option maxRecDepth 100000
set_option maxHeartbeats 4000000
namespace Law
open PySem PySem.Spec PyProof.Rows L2 Gh Rr
variable {E : En} {s : Sx} {x : D} {ds : List D} {r : List Th}
theorem cut_take {α : Type} (xs : List α) (n : Nat) : cutD xs none (some (n : Int)) = xs.take n := by
  rcases Nat.le_total n xs.length with z | z
  · exact cut_to xs n z
  · unfold Gh.cutD
    rw [HT.sIx_none, HT.sIx_nat, List.drop_zero, Nat.sub_zero, Nat.min_eq_right z, List.take_length, List.take_of_length_le z]
theorem cut_drop {α : Type} (xs : List α) (n : Nat) : cutD xs (some (n : Int)) none = xs.drop n := by
  rcases Nat.le_total n xs.length with z | z
  · exact cut_from xs n z
  · unfold Gh.cutD
    rw [HT.sIx_none, HT.sIx_nat, Nat.min_eq_right z, List.drop_of_length_le z, List.drop_length]; simp
/-- a number or a pair of numbers -/
def Row (x : D) : Prop := (∃ n : Nat, x = .int n) ∨ ∃ p, x = spD p
def loosen : D → D
  | .tup xs => .lst xs
  | x => x
def more : D → D
  | .int n => .int (n + 1)
  | .tup [a, .int n] => .tup [a, .int (n + 1)]
  | x => x
def odd : D → D
  | .tup [a, _] => .tup [a, .bl true]
  | _ => .bl true
def lots0 (xs : List D) (a : Nat) : List D := [.lst (xs.take a ++ xs.drop (a + 1)), .lst (xs ++ xs.take 1), .lst xs.reverse, .lst ((xs.take a ++ [.non]) ++ xs.drop a), .tup xs]
def some0 (xs : List D) : List D := [.lst (xs.map loosen), .lst (xs.drop 1), .non, .int 5, .emp, .lst [], .lst [.int 0]]
def lot1 (xs : List D) (a : Nat) (z : D) : List D := [.lst ((xs.take a ++ [more z]) ++ xs.drop (a + 1)), .lst ((xs.take a ++ [odd z]) ++ xs.drop (a + 1))]
def bentL (xs : List D) (a : Nat) : List D := (lots0 xs a ++ ((xs.drop a).take 1).flatMap (lot1 xs a)) ++ some0 xs
/-- a thing that may be asked -/
def Ask (d : D) : Prop := dat d = true ∧ ∀ xs, items d = some xs → xs.length ≤ 1000
theorem Row.dat {x : D} (h : Row x) : dat x = true := by
  rcases h with ⟨n, rfl⟩ | ⟨p, rfl⟩ <;> rfl
theorem Row.more {x : D} (h : Row x) : Law.dat (more x) = true := by
  rcases h with ⟨n, rfl⟩ | ⟨p, rfl⟩ <;> rfl
theorem Row.odd {x : D} (h : Row x) : Law.dat (odd x) = true := by
  rcases h with ⟨n, rfl⟩ | ⟨p, rfl⟩ <;> rfl
theorem Row.loosen {x : D} (h : Row x) : Law.dat (loosen x) = true := by
  rcases h with ⟨n, rfl⟩ | ⟨p, rfl⟩ <;> rfl
theorem dat_lst {xs : List D} (h : ∀ x ∈ xs, dat x = true) : dat (.lst xs) = true := by unfold dat; exact dats_of h
theorem dat_tup {xs : List D} (h : ∀ x ∈ xs, dat x = true) : dat (.tup xs) = true := by unfold dat; exact dats_of h
theorem ask_lst {xs : List D} (h : ∀ x ∈ xs, dat x = true) (hl : xs.length ≤ 1000) : Ask (.lst xs) := ⟨dat_lst h, fun ys e => by cases e; exact hl⟩
theorem ask_tup {xs : List D} (h : ∀ x ∈ xs, dat x = true) (hl : xs.length ≤ 1000) : Ask (.tup xs) := ⟨dat_tup h, fun ys e => by cases e; exact hl⟩
theorem all_app {α : Type} {P : α → Prop} {xs ys : List α} (h1 : ∀ x ∈ xs, P x) (h2 : ∀ x ∈ ys, P x) : ∀ x ∈ xs ++ ys, P x := fun x m => (List.mem_append.mp m).elim (h1 x) (h2 x)
theorem bent_ask {xs : List D} {a : Nat} (h : ∀ x ∈ xs, Row x) (hl : xs.length ≤ 990) : ∀ d ∈ bentL xs a, Ask d := by
  have g : ∀ x ∈ xs, dat x = true := fun x m => (h x m).dat
  have gt : ∀ n, ∀ x ∈ xs.take n, dat x = true := fun n x m => g x (List.mem_of_mem_take m)
  have gd : ∀ n, ∀ x ∈ xs.drop n, dat x = true := fun n x m => g x (List.mem_of_mem_drop m)
  have one : ∀ {y : D}, dat y = true → ∀ x ∈ [y], dat x = true := fun hy x m => by rw [List.mem_singleton.mp m]; exact hy
  have lt : ∀ n, (xs.take n).length ≤ xs.length := fun n => by rw [List.length_take]; omega
  intro d m
  rcases List.mem_append.mp m with m | m
  · rcases List.mem_append.mp m with m | m
    · simp only [lots0, List.mem_cons, List.not_mem_nil, or_false] at m
      rcases m with rfl | rfl | rfl | rfl | rfl
      · exact ask_lst (all_app (gt _) (gd _)) (by rw [List.length_append, List.length_take, List.length_drop]; omega)
      · exact ask_lst (all_app g (gt _)) (by rw [List.length_append, List.length_take]; omega)
      · exact ask_lst (fun x m => g x (List.mem_reverse.mp m)) (by rw [List.length_reverse]; omega)
      · exact ask_lst (all_app (all_app (gt _) (one rfl)) (gd _)) (by rw [List.length_append, List.length_append, List.length_take, List.length_drop]; simp; omega)
      · exact ask_tup g (by omega)
    · obtain ⟨z, hz, m⟩ := List.mem_flatMap.mp m
      have hz : Row z := h z (List.mem_of_mem_drop (List.mem_of_mem_take hz))
      simp only [lot1, List.mem_cons, List.not_mem_nil, or_false] at m
      rcases m with rfl | rfl
      · exact ask_lst (all_app (all_app (gt _) (one hz.more)) (gd _)) (by rw [List.length_append, List.length_append, List.length_take, List.length_drop]; simp; omega)
      · exact ask_lst (all_app (all_app (gt _) (one hz.odd)) (gd _)) (by rw [List.length_append, List.length_append, List.length_take, List.length_drop]; simp; omega)
  · simp only [some0, List.mem_cons, List.not_mem_nil, or_false] at m
    rcases m with rfl | rfl | rfl | rfl | rfl | rfl | rfl
    · refine ask_lst (fun x m => ?_) (by rw [List.length_map]; omega)
      obtain ⟨y, hy, rfl⟩ := List.mem_map.mp m
      exact (h y hy).loosen
    · exact ask_lst (gd _) (by rw [List.length_drop]; omega)
    · exact ⟨rfl, fun ys e => by cases e⟩
    · exact ⟨rfl, fun ys e => by cases e⟩
    · exact ⟨rfl, fun ys e => by cases e⟩
    · exact ⟨rfl, fun ys e => by cases e; simp⟩
    · exact ⟨rfl, fun ys e => by cases e; simp⟩
theorem rn_bent (T : Tc E) {xs : List D} {n : Nat} (hx : ∀ x ∈ xs, Row x) (hl : xs.length ≤ 990) (h : St n s) (hn : n + 10 < 2 ^ 40) : ∃ (d : D) (s' : Sx), Ask d ∧ St (n + 2) s' ∧ Rn E 3 "_law_bent" [.mut, .lst xs] s d s' := by
  obtain ⟨a, s1, ha, h1, R1⟩ := rn_draw T h (by omega) (many := xs.length + 1) (by omega) (by omega)
  have hsm : ∀ k, k ≤ 2000 → k ≤ sizeLine := fun k hk => Nat.le_trans hk (by decide)
  have hfl : (((xs.drop a).take 1).flatMap (lot1 xs a)).length ≤ 2 := by
    rcases hc : (xs.drop a).take 1 with _ | ⟨z, l⟩
    · simp
    · have : ((xs.drop a).take 1).length ≤ 1 := by rw [List.length_take]; omega
      rw [hc] at this
      have : l = [] := List.eq_nil_of_length_eq_zero (by simpa using this)
      subst this
      simp [lot1]
  obtain ⟨d, s2, hd, h2, R2⟩ := rn_pick T (xs := bentL xs a) h1 (by omega) (by unfold bentL lots0; simp) (by unfold bentL; rw [List.length_append, List.length_append]; simp only [lots0, some0, List.length_cons, List.length_nil]; omega)
  refine ⟨d, s2, bent_ask hx hl d hd, h2, ?_⟩
  refine T.d__law_bent.rn sc__law_bent (by rw [h.some, h2.some]) rfl fun fa cdv A outer sh H0 EX S0 p hr => ?_
  conv => arg 2; whnf
  have hlt : ∀ n, (xs.take n).length ≤ xs.length := fun n => by rw [List.length_take]; omega
  have hld : ∀ n, (xs.drop n).length ≤ xs.length := fun n => by rw [List.length_drop]; omega
  have ea1 : ((a : Int) + 1) = ((a + 1 : Nat) : Int) := by omega
  refine bk_cons (bs_set 2 sc__law_bent.nd rfl (.inl rfl) (ed_cl (ea_cons (ed_var 0 rfl (.inl rfl) rfl) (ea_cons (Ed.is (ed_bin (ed_len T.bf (ed_var 1 rfl (.inl rfl) rfl) rfl) ed_int rfl trivial) (congrArg D.int (show _ = ((xs.length + 1 : Nat) : Int) by omega))) ea_nil)) (hr.mono (by decide)) R1) ?_)
  refine bk_cons (bs_setOwn 3 (ds := lots0 xs a) sc__law_bent.nd rfl (.inl rfl) (el_lst
    (ea_cons (El.ed (el_cat (hsm _ (by have := hlt a; have := hld (a + 1); omega)) (El.ed (El.is (el_slice (ed_var 1 rfl (.inl rfl) rfl) .none (.some (ed_var 2 rfl (.inl rfl) rfl))) (cut_take _ _))) (El.ed (El.is (el_slice (ed_var 1 rfl (.inl rfl) rfl) (.some (Ed.is (ed_bin (ed_var 2 rfl (.inl rfl) rfl) ed_int rfl trivial) (congrArg D.int ea1))) .none) (cut_drop _ _)))))
    (ea_cons (El.ed (el_cat (hsm _ (by have := hlt 1; omega)) (ed_var 1 rfl (.inl rfl) rfl) (El.ed (El.is (el_slice (ed_var 1 rfl (.inl rfl) rfl) .none (.some ed_int)) (cut_take _ 1)))))
    (ea_cons (El.ed (el_revL (ed_var 1 rfl (.inl rfl) rfl)))
    (ea_cons (El.ed (el_cat (hsm _ (by have := hlt a; have := hld a; rw [List.length_append]; simp only [List.length_cons, List.length_nil]; omega)) (El.ed (el_cat (hsm _ (by have := hlt a; simp only [List.length_cons, List.length_nil]; omega)) (El.ed (El.is (el_slice (ed_var 1 rfl (.inl rfl) rfl) .none (.some (ed_var 2 rfl (.inl rfl) rfl))) (cut_take _ _))) (El.ed (el_lst (ea_cons ed_non ea_nil))))) (El.ed (El.is (el_slice (ed_var 1 rfl (.inl rfl) rfl) (.some (ed_var 2 rfl (.inl rfl) rfl)) .none) (cut_drop _ _)))))
    (ea_cons (ed_tupleOf T.bf (ed_var 1 rfl (.inl rfl) rfl) (.inl rfl)) ea_nil)))))) ?_)
  refine bk_cons (bs_set 4 (d := .lst (some0 xs)) sc__law_bent.nd rfl (.inl rfl) (El.ed (el_lst
    (ea_cons (El.ed (el_map [("_law_thing", 5)] loosen rfl sc__law_bent.nd (ei_seq (ed_var 1 rfl (.inl rfl) rfl) (.inl rfl)) (blkOk_by rfl) (hsm _ (by omega)) (fun i z hz => ?_)))
    (ea_cons (El.ed (El.is (el_slice (ed_var 1 rfl (.inl rfl) rfl) (.some ed_int) .none) (cut_drop _ 1)))
    (ea_cons ed_non (ea_cons ed_int (ea_cons ed_emp (ea_cons (El.ed (el_lst ea_nil)) (ea_cons (El.ed (el_lst (ea_cons ed_int ea_nil))) ea_nil))))))))) ?_)
  · rcases hx z (List.mem_of_getElem? hz) with ⟨m, rfl⟩ | ⟨q, rfl⟩
    · refine ⟨_, _, fun c => eg_name 5 sc__law_bent.nd rfl (.inl rfl), by decide, fun c => ?_⟩
      exact ed_ifT (et_val ((ed_isi T.bf (ed_var 5 rfl (.inl rfl) rfl) rfl (cn_int T.bf)).is rfl)) (ed_var 5 rfl (.inl rfl) rfl)
    · refine ⟨_, _, fun c => eg_name 5 sc__law_bent.nd rfl (.inl rfl), by decide, fun c => ?_⟩
      exact ed_ifF (et_val ((ed_isi T.bf (ed_var 5 rfl (.inl rfl) rfl) rfl (cn_int T.bf)).is rfl)) (El.ed (el_listOf T.bf (ed_var 5 rfl (.inl rfl) rfl) (.inr rfl)))
  refine bk_cons (bs_for PassesOwn.never rfl (ei_seq (xs := (xs.drop a).take 1) (El.ed (El.is (el_slice (ed_var 1 rfl (.inl rfl) rfl) (.some (ed_var 2 rfl (.inl rfl) rfl)) (.some (ed_bin (ed_var 2 rfl (.inl rfl) rfl) ed_int rfl trivial))) (cut_one _ _ (by omega)))) (.inl rfl)) (fun i ρ s' => s' = s1 ∧ ∃ g5 g6 g7, ρ = [.val .mut, .val (.lst xs), .val (.int a), .own (lots0 xs a ++ (((xs.drop a).take 1).take i).flatMap (lot1 xs a)), .val (.lst (some0 xs)), g5, g6, g7]) ⟨rfl, _, _, _, by rw [List.take_zero, List.flatMap_nil, List.append_nil]; rfl⟩ ?_ ?_)
  · rintro i z ρ' s' hi ⟨rfl, g5, g6, g7, rfl⟩
    have hz : Row z := hx z (List.mem_of_mem_drop (List.mem_of_mem_take (List.mem_of_getElem? hi)))
    have hil := (List.getElem?_eq_some_iff.mp hi).1
    have hil1 : ((xs.drop a).take 1).length ≤ 1 := by rw [List.length_take]; omega
    have hi0 : i = 0 := by omega
    subst hi0
    have et : ((xs.drop a).take 1).take (0 + 1) = [z] := by
      have hh : ((xs.drop a).take 1)[0]? = some z := hi
      rcases hc : (xs.drop a).take 1 with _ | ⟨w, l⟩
      · rw [hc] at hh; simp at hh
      · rw [hc] at hh; simp at hh; subst hh; simp
    rw [et]
    refine ⟨_, _, eg_name 5 sc__law_bent.nd rfl (.inl rfl), ?_⟩
    have A6 : ∀ {F' : Fx} , True := fun {_} => trivial
    refine bk_cons (bs_set 6 (d := more z) (s1 := s') sc__law_bent.nd rfl (.inl rfl) ?_ ?_)
    · rcases hz with ⟨m, rfl⟩ | ⟨q, rfl⟩
      · exact ed_ifT (et_val ((ed_isi T.bf (ed_var 5 rfl (.inl rfl) rfl) rfl (cn_int T.bf)).is rfl)) (ed_bin (ed_var 5 rfl (.inl rfl) rfl) ed_int rfl trivial)
      · exact ed_ifF (et_val ((ed_isi T.bf (ed_var 5 rfl (.inl rfl) rfl) rfl (cn_int T.bf)).is rfl)) (ed_tup (ea_cons (ed_ix (ed_var 5 rfl (.inl rfl) rfl) ed_int rfl) (ea_cons (ed_bin (ed_ix (ed_var 5 rfl (.inl rfl) rfl) ed_int rfl) ed_int rfl trivial) ea_nil)))
    refine bk_cons (bs_set 7 (d := odd z) (s1 := s') sc__law_bent.nd rfl (.inl rfl) ?_ ?_)
    · rcases hz with ⟨m, rfl⟩ | ⟨q, rfl⟩
      · exact ed_ifT (et_val ((ed_isi T.bf (ed_var 5 rfl (.inl rfl) rfl) rfl (cn_int T.bf)).is rfl)) ed_bl
      · exact ed_ifF (et_val ((ed_isi T.bf (ed_var 5 rfl (.inl rfl) rfl) rfl (cn_int T.bf)).is rfl)) (ed_tup (ea_cons (ed_ix (ed_var 5 rfl (.inl rfl) rfl) ed_int rfl) (ea_cons ed_bl ea_nil)))
    refine bk_cons (bs_extend 3 (ds := lot1 xs a z) rfl (.inl rfl) rfl (el_lst
      (ea_cons (El.ed (el_cat (hsm _ (by have := hlt a; have := hld (a + 1); rw [List.length_append]; simp only [List.length_cons, List.length_nil]; omega)) (El.ed (el_cat (hsm _ (by have := hlt a; simp only [List.length_cons, List.length_nil]; omega)) (El.ed (El.is (el_slice (ed_var 1 rfl (.inl rfl) rfl) .none (.some (ed_var 2 rfl (.inl rfl) rfl))) (cut_take _ _))) (El.ed (el_lst (ea_cons (ed_var 6 rfl (.inl rfl) rfl) ea_nil))))) (El.ed (El.is (el_slice (ed_var 1 rfl (.inl rfl) rfl) (.some (Ed.is (ed_bin (ed_var 2 rfl (.inl rfl) rfl) ed_int rfl trivial) (congrArg D.int ea1))) .none) (cut_drop _ _)))))
      (ea_cons (El.ed (el_cat (hsm _ (by have := hlt a; have := hld (a + 1); rw [List.length_append]; simp only [List.length_cons, List.length_nil]; omega)) (El.ed (el_cat (hsm _ (by have := hlt a; simp only [List.length_cons, List.length_nil]; omega)) (El.ed (El.is (el_slice (ed_var 1 rfl (.inl rfl) rfl) .none (.some (ed_var 2 rfl (.inl rfl) rfl))) (cut_take _ _))) (El.ed (el_lst (ea_cons (ed_var 7 rfl (.inl rfl) rfl) ea_nil))))) (El.ed (El.is (el_slice (ed_var 1 rfl (.inl rfl) rfl) (.some (Ed.is (ed_bin (ed_var 2 rfl (.inl rfl) rfl) ed_int rfl trivial) (congrArg D.int ea1))) .none) (cut_drop _ _)))))
      ea_nil))) (hsm _ (by simp [lots0, lot1])) (bk_nil ⟨rfl, .val z, .val (more z), .val (odd z), by simp⟩))
  · rintro ρ' s' ⟨rfl, g5, g6, g7, rfl⟩
    rw [List.take_length]
    refine bk_freeze 3 rfl ?_
    refine bk_cons (bs_ret (ed_cl (ea_cons (ed_var 0 rfl (.inl rfl) rfl) (ea_cons (El.ed (el_cat (hsm _ (by rw [List.length_append]; simp only [lots0, some0, List.length_cons, List.length_nil]; omega)) (ed_var 3 rfl (.inl rfl) rfl) (ed_var 4 rfl (.inl rfl) rfl))) ea_nil)) (hr.mono (by decide)) R2) ⟨rfl, rfl⟩)
end Law
set_option Elab.async false
set_option linter.all false
set_option maxRecDepth 100000
set_option maxHeartbeats 4000000
namespace Law
open PySem PySem.Spec PyProof.Rows L2 Gh Rr
variable {E : En} {s : Sx} {x : D} {ds : List D} {r : List Th}
theorem rn_same_bl (T : Tc E) (i : Bool) : Rn E 1 "_law_same" [.bl i, .bl i] s (.bl true) s := by
  refine T.d__law_same.rn sc__law_same rfl rfl fun fa cdv A outer sh H0 EX S0 p hr => ?_
  conv => arg 2; whnf
  refine bk_cons (bs_ifF (et_val ((ed_isi T.bf (ed_var 1 rfl (.inr (.inl rfl)) rfl) rfl (cn_dict T.bf)).is rfl)) (bk_nil ?_))
  refine bk_cons (bs_ifF (et_val ((ed_isiT T.bf (ed_var 1 rfl (.inr (.inl rfl)) rfl) rfl (cns_cons (cn_list T.bf) (cns_cons (cn_tuple T.bf) cns_nil))).is rfl)) (bk_nil ?_))
  refine bk_cons (bs_ifT (et_val ((ed_isi T.bf (ed_var 1 rfl (.inr (.inl rfl)) rfl) rfl (cn_int T.bf)).is rfl)) (bk_cons ?_))
  exact bs_ret (ed_andT ((ed_isi T.bf (ed_var 0 rfl (.inr (.inl rfl)) rfl) rfl (cn_int T.bf)).is rfl) (ed_andT ((Cp.ed (cp_eq hr (ed_isi T.bf (ed_var 0 rfl (.inr (.inl rfl)) rfl) rfl (cn_bool T.bf)) (ed_isi T.bf (ed_var 1 rfl (.inr (.inl rfl)) rfl) rfl (cn_bool T.bf)) (eqC_bl _) (eqC_bl _))).is (by simp [D.eqb, D.py, PyData.eqv])) (ed_one ((Cp.ed (cp_eq hr (ed_var 0 rfl (.inr (.inl rfl)) rfl) (ed_var 1 rfl (.inr (.inl rfl)) rfl) (eqC_bl _) (eqC_bl _))).is (by simp [D.eqb, D.py, PyData.eqv]))))) ⟨rfl, rfl⟩

theorem RunOk.len9 {r : List Th} (h : RunOk r) : (words r).length ≤ 900 := by
  have := scan_ok (m := 5) (l := 16) (fun t m => (h.g t m).1) r.length (Nat.le_refl _)
  have hl := h.len
  have h1 := this.len
  show (scan r r.length).found.length ≤ 900
  omega
theorem spans_fst (n : Nat) (bs : List Nat) : (spans n bs).map (·.1) = bs := by
  unfold spans
  rw [List.map_fst_zip]
  cases bs <;> simp
theorem rn_same_sp (T : Tc E) (p : Nat × Nat) : Rn E 2 "_law_same" [spD p, spD p] s (.bl true) s := by
  refine rn_same_seq T (k := 0) (xs := [.int p.1, .int p.2]) (.inr rfl) (by simp) fun z hz s => ?_
  simp only [List.mem_cons, List.not_mem_nil, or_false] at hz
  rcases hz with rfl | rfl
  · exact rn_same_int T _
  · exact rn_same_int T _
theorem rn_same_sps (T : Tc E) (l : List (Nat × Nat)) (hl : l.length ≤ 1000) : Rn E 3 "_law_same" [.lst (l.map spD), .lst (l.map spD)] s (.bl true) s := by
  refine rn_same_seq T (k := 1) (.inl rfl) (by rw [List.length_map]; exact hl) fun z hz s => ?_
  obtain ⟨p, _, rfl⟩ := List.mem_map.mp hz
  exact rn_same_sp T p
theorem rn_same_ns (T : Tc E) (l : List Nat) (hl : l.length ≤ 1000) : Rn E 2 "_law_same" [.lst (nsD l), .lst (nsD l)] s (.bl true) s := by
  refine rn_same_seq T (k := 0) (.inl rfl) (by rw [nsD_length]; exact hl) fun z hz s => ?_
  obtain ⟨p, _, rfl⟩ := List.mem_map.mp hz
  exact rn_same_int T _
def sizs (ws : List Wd) (l : List (Nat × Nat)) : List (Nat × Nat) := l.map fun p => (rowW ws p.1 p.2, rowH ws p.1 p.2)
def fndL (ws : List Wd) (l : List (Nat × Nat)) : D := .lst [.lst (l.map spD), .lst ((sizs ws l).map spD), .int (((sizs ws l).map (·.2)).sum : Nat)]
theorem rn_same_fnd (T : Tc E) {ws : List Wd} {l : List (Nat × Nat)} (hl : l.length ≤ 1000) : Rn E 4 "_law_same" [fndL ws l, fndL ws l] s (.bl true) s := by
  refine rn_same_seq T (k := 2) (xs := [.lst (l.map spD), .lst ((sizs ws l).map spD), .int (((sizs ws l).map (·.2)).sum : Nat)]) (.inl rfl) (by simp) fun z hz s => ?_
  simp only [List.mem_cons, List.not_mem_nil, or_false] at hz
  rcases hz with rfl | rfl | rfl
  · exact rn_same_sps T l hl
  · exact rn_same_sps T _ (by unfold sizs; rw [List.length_map]; exact hl)
  · exact (rn_same_int T _).mono (by decide)
theorem rn_same_ch (T : Tc E) {bs : List Nat} {m : Nat} (hl : bs.length ≤ 1000) : Rn E 2 "_law_same" [chD bs m, chD bs m] s (.bl true) s := by
  unfold chD
  split
  · exact rn_same_ns T _ (by rw [List.length_take]; omega)
  · exact (rn_same_non T).mono (by decide)
/-- numbers drawn out of the first ones -/
theorem drawn_ex (T : Tc E) {n : Nat} (N : Nat) (h : St n s) (hn : n + N < 2 ^ 40) : ∃ tr : Nat → List Nat × Sx, tr 0 = ([], s) ∧ (∀ i, i ≤ N → (tr i).1.length ≤ i ∧ St (n + i) (tr i).2) ∧
    ∀ i, i < N → ∃ d : Nat, Rn E 1 "_law_draw" [.mut, .int 2] (tr i).2 (.int d) (tr (i + 1)).2 ∧ (tr (i + 1)).1.length ≤ i + 1 ∧ ((d = 0 ∧ (tr (i + 1)).1 = (tr i).1 ++ [i]) ∨ (d ≠ 0 ∧ (tr (i + 1)).1 = (tr i).1)) := by
  obtain ⟨tr, t0, tg, ts⟩ := trace (α := Nat × List Nat × Sx) (N := N) (R := fun x y => ∃ d : Nat, Rn E 1 "_law_draw" [.mut, .int 2] x.2.2 (.int d) y.2.2 ∧ ((d = 0 ∧ y.2.1 = x.2.1 ++ [x.1]) ∨ (d ≠ 0 ∧ y.2.1 = x.2.1)))
    (G := fun i x => x.1 = i ∧ x.2.1.length ≤ i ∧ St (n + i) x.2.2) (0, [], s) ⟨rfl, by simp, h⟩ (by
      rintro i ⟨j, l, sx⟩ hi ⟨g1, g2, g3⟩
      dsimp only at g1 g2 g3
      subst g1
      obtain ⟨d, sd, hd, hsd, Rd⟩ := rn_draw T g3 (by omega) (many := 2) (by decide) (by decide)
      by_cases h0 : d = 0
      · exact ⟨(j + 1, l ++ [j], sd), ⟨d, Rd, .inl ⟨h0, rfl⟩⟩, rfl, by simp; omega, hsd⟩
      · exact ⟨(j + 1, l, sd), ⟨d, Rd, .inr ⟨h0, rfl⟩⟩, rfl, by simp; omega, hsd⟩)
  refine ⟨fun i => (tr i).2, by dsimp only; rw [t0], fun i hi => (tg i hi).2, fun i hi => ?_⟩
  obtain ⟨d, R, hh⟩ := ts i hi
  refine ⟨d, R, (tg (i + 1) hi).2.1, ?_⟩
  rw [(tg i (Nat.le_of_lt hi)).1] at hh
  exact hh
theorem row_sp (l : List (Nat × Nat)) : ∀ x ∈ l.map spD, Row x := fun x m => by
  obtain ⟨p, _, rfl⟩ := List.mem_map.mp m
  exact .inr ⟨p, rfl⟩
theorem row_ns (l : List Nat) : ∀ x ∈ nsD l, Row x := fun x m => by
  obtain ⟨p, _, rfl⟩ := List.mem_map.mp m
  exact .inl ⟨p, rfl⟩
theorem ask_rows {xs : List D} (h : ∀ x ∈ xs, Row x) (hl : xs.length ≤ 1000) : Ask (.lst xs) := ask_lst (fun x m => (h x m).dat) hl
end Law
set_option Elab.async false
set_option linter.all false
set_option maxRecDepth 100000
set_option maxHeartbeats 4000000
namespace Law
open PySem PySem.Spec PyProof.Rows L2 Gh Rr
variable {E : En} {s : Sx} {x : D} {ds : List D} {r : List Th}
theorem getElem_two {α : Type} {a b z : α} {i : Nat} (h : [a, b][i]? = some z) : (i = 0 ∧ z = a) ∨ (i = 1 ∧ z = b) := by
  match i, h with
  | 0, h => exact .inl ⟨rfl, by cases h; rfl⟩
  | 1, h => exact .inr ⟨rfl, by cases h; rfl⟩
  | i + 2, h => simp at h
theorem rn_room_right (T : Tc E) (ok : RunOk r) {t b n : Nat} (hb : 0 < b) (hb2 : b < 2 ^ 60) (h : St n s) (hn : n + 3000 < 2 ^ 40) : ∃ (s' : Sx), St (n + 2000) s' ∧ Rn E 7 "_law_room_right" [.mut, .lst (r.map thD), wsD (words r), rmD t b] s (.bl true) s' := by
  have wok := ok.wok
  have hl9 := ok.len9
  have hrl := ok.len
  have hbl := begins_length (fit := fit t b) (words r)
  have hsl : (spans (words r).length (begins (fit t b) (words r))).length ≤ 900 := by rw [spans_length]; omega
  obtain ⟨ld, lds, s1, hL, h1, R1⟩ := rn_loose_run T (r := r) (by omega) h (by omega)
  obtain ⟨py, s2, hP, h2, R2⟩ := rn_passed T (t := t) (b := b) h1 (by omega)
  obtain ⟨rows, s3, B, h3, R3⟩ := rn_some_breaking T (t := t) wok hb2 h2 (by omega)
  have hrw : rows.length ≤ 900 := by have := B.len; omega
  obtain ⟨d1, s4, a1, h4, R4⟩ := rn_bent T (row_sp (spans (words r).length (begins (fit t b) (words r)))) (by rw [List.length_map]; omega) h3 (by omega)
  obtain ⟨d2, s5, a2, h5, R5⟩ := rn_bent T (row_sp (spans (words r).length (begins (fit t b) (words r)))) (by rw [List.length_map]; omega) h4 (by omega)
  obtain ⟨d3, s6, a3, h6, R6⟩ := rn_bent T (row_sp rows) (by rw [List.length_map]; omega) h5 (by omega)
  obtain ⟨d4, s7, a4, h7, R7⟩ := rn_bent T (row_sp rows) (by rw [List.length_map]; omega) h6 (by omega)
  obtain ⟨tr, t0, tg, ts⟩ := drawn_ex T (words r).length h7 (by omega)
  obtain ⟨tgl, h8⟩ := tg _ (Nat.le_refl _)
  obtain ⟨d5, s9, a5, h9, R9⟩ := rn_bent T (row_ns (begins (fit t b) (words r))) (by rw [nsD_length]; omega) h8 (by omega)
  obtain ⟨d6, s10, a6, h10, R10⟩ := rn_bent T (row_ns (tr (words r).length).1) (by rw [nsD_length]; omega) h9 (by omega)
  -- what is asked of the program
  have hbg : b / Nat.gcd t b < 2 ^ 60 := Nat.lt_of_le_of_lt (Nat.div_le_self _ _) hb2
  have RC : ∀ s, Rn E 5 "checked_room" [py] s (rmD (t / Nat.gcd t b) (b / Nat.gcd t b)) s := fun s => rn_checked_roomP T hP hb hb2
  have QL0 : ∀ s, RnL E 6 "lines_in" [.lst (r.map thD), py] s ((spans (words r).length (begins (fit t b) (words r))).map spD) s := fun s => by
    have := rn_lines_in T (s := s) (lsR_own r) ok hbg RC
    rw [fit_low hb] at this; exact this
  have QL : ∀ s, RnL E 6 "lines_in" [ld, py] s ((spans (words r).length (begins (fit t b) (words r))).map spD) s := fun s => by
    have := rn_lines_in T (s := s) hL ok hbg RC
    rw [fit_low hb] at this; exact this
  have QS : ∀ s, Rn E 6 "line_sizes" [ld, py] s (.lst ((sizs (words r) (spans (words r).length (begins (fit t b) (words r)))).map spD)) s := fun s => by
    have := rn_line_sizes T (s := s) hL ok hbg RC
    rw [fit_low hb] at this
    refine this.is ?_
    unfold sizs
    rw [List.map_map]; rfl
  have QH : ∀ s, Rn E 6 "height_in" [ld, py] s (.int (((sizs (words r) (spans (words r).length (begins (fit t b) (words r)))).map (·.2)).sum : Nat)) s := fun s => by
    have := rn_height_in T (s := s) hL ok hbg RC
    rw [fit_low hb] at this
    refine this.is ?_
    unfold sizs heights
    rw [List.map_map]; rfl
  have QC : ∀ (m : Nat) s, Rn E 6 "chain_above" [ld, py, .int m] s (chD (begins (fit t b) (words r)) m) s := fun m s => by
    have := rn_chain_above T (s := s) (m := m) hL ok hbg RC
    rw [fit_low hb] at this; exact this
  have QB : ∀ (d : D) s, Ask d → Rn E 6 "is_breaking" [ld, py, d] s (.bl (isBrk (words r) (fit t b) d)) s := fun d s ha => by
    have := rn_is_breaking T (s := s) hL ok hbg RC ha.1
    rw [fit_low hb] at this; exact this
  have QN : ∀ (d : D) s, Ask d → Rn E 6 "is_chain" [ld, py, d] s (.bl (isChn (words r) (fit t b) d)) s := fun d s ha => by
    have := rn_is_chain T (s := s) hL ok hbg RC ha.1 ha.2
    rw [fit_low hb] at this; exact this
  refine ⟨s10, h10.mono (by omega), ?_⟩
  refine T.d__law_room_right.rn sc__law_room_right (by rw [h.some, h10.some]) rfl fun fa cdv A outer sh H0 EX S0 p hr => ?_
  conv => arg 2; whnf
  generalize hLn : spans (words r).length (begins (fit t b) (words r)) = L at *
  have hLen : L.length = (begins (fit t b) (words r)).length := by rw [← hLn, spans_length]
  have hmem : ∀ q ∈ L, q.1 < q.2 ∧ q.2 ≤ (words r).length := fun q hq => span_ok (f := fit t b) (by rw [hLn]; exact hq)
  have hfst : L.map (·.1) = begins (fit t b) (words r) := by rw [← hLn, spans_fst]
  refine bk_cons (bs_par3 4 5 6 rfl sc__law_room_right.nd rfl rfl rfl (by decide) (by decide) (by decide) rfl rfl rfl (ea_cons (ed_cl (ea_cons (ed_var 2 rfl (.inr (.inl rfl)) rfl) (ea_cons (ed_var 3 rfl (.inl rfl) rfl) ea_nil)) (hr.mono (by decide)) ((rn_law_lines T wok hb2).is (by rw [hLn]))) (ea_cons (ed_cl (ea_cons (ed_var 0 rfl (.inr (.inl rfl)) rfl) (ea_cons (ed_var 1 rfl (.inl rfl) rfl) ea_nil)) (hr.mono (by decide)) R1) (ea_cons (ed_cl (ea_cons (ed_var 0 rfl (.inr (.inl rfl)) rfl) (ea_cons (ed_var 3 rfl (.inl rfl) rfl) ea_nil)) (hr.mono (by decide)) R2) ea_nil))) ?_)
  refine bk_cons (bs_setLc 7 [("_law_first", 8), ("_law_upto", 9)] (out := fun k => ((L.map spD).take k).map fun d => spD (rowW (words r) (un2 d).1 (un2 d).2, rowH (words r) (un2 d).1 (un2 d).2)) (st := fun _ => s2) rfl sc__law_room_right.nd rfl rfl (sw_true rfl rfl rfl (by decide +kernel)) (ei_seq (ed_var 4 rfl (.inl rfl) rfl) (.inl rfl)) (blkOk_by rfl) (Comp.map (fun d => spD (rowW (words r) (un2 d).1 (un2 d).2, rowH (words r) (un2 d).1 (un2 d).2)) (by rw [List.length_map]; exact small (by omega)) (fun i d hi => ?_)) ?_)
  · obtain ⟨q, hq, rfl⟩ := List.mem_map.mp (List.mem_of_getElem? hi)
    obtain ⟨q1, q2⟩ := hmem q hq
    refine ⟨_, _, fun c => eg_tup rfl (egs_cons (eg_name 8 sc__law_room_right.nd rfl (.inl rfl)) (egs_cons (eg_name 9 sc__law_room_right.nd rfl (.inl rfl)) egs_nil)), by decide, fun c => ?_⟩
    rw [un2_sp]
    exact ed_tup (ea_cons (ed_cl (ea_cons (ed_var 2 rfl (.inr (.inl rfl)) rfl) (ea_cons (ed_var 8 rfl (.inl rfl) rfl) (ea_cons (ed_var 9 rfl (.inl rfl) rfl) ea_nil))) (hr.mono (by decide)) (rn_law_row T wok (by omega) q2)) (ea_cons (ed_cl (ea_cons (ed_var 2 rfl (.inr (.inl rfl)) rfl) (ea_cons (ed_var 8 rfl (.inl rfl) rfl) (ea_cons (ed_var 9 rfl (.inl rfl) rfl) ea_nil))) (hr.mono (by decide)) (rn_law_tall T wok q2)) ea_nil))
  have e7 : (((L.map spD).take (L.map spD).length).map fun d => spD (rowW (words r) (un2 d).1 (un2 d).2, rowH (words r) (un2 d).1 (un2 d).2)) = (sizs (words r) L).map spD := by
    rw [List.take_length, List.map_map]
    unfold sizs
    rw [List.map_map]
    exact List.map_congr_left fun q _ => by simp only [Function.comp, un2_sp]
  show Bk _ _ (List.set _ 7 (.own (((L.map spD).take (L.map spD).length).map fun d => spD (rowW (words r) (un2 d).1 (un2 d).2, rowH (words r) (un2 d).1 (un2 d).2)))) _ _
  rw [e7]
  refine bk_freeze 7 rfl ?_
  refine bk_cons (bs_appendNew (el_cl (ea_cons (ed_var 1 rfl (.inl rfl) rfl) (ea_cons (ed_var 6 rfl (.inl rfl) rfl) ea_nil)) (hr.mono (by decide)) (QL0 _)) ed_str (by rw [List.length_map]; exact Nat.lt_of_le_of_lt (show _ ≤ 1000 by omega) (by decide)) ?_)
  refine bk_cons (bs_set 10 (d := fndL (words r) L) sc__law_room_right.nd rfl (.inl rfl) (El.ed (el_lst (ea_cons (El.ed (el_cl (ea_cons (ed_var 5 rfl (.inl rfl) rfl) (ea_cons (ed_var 6 rfl (.inl rfl) rfl) ea_nil)) (hr.mono (by decide)) (QL _))) (ea_cons (ed_cl (ea_cons (ed_var 5 rfl (.inl rfl) rfl) (ea_cons (ed_var 6 rfl (.inl rfl) rfl) ea_nil)) (hr.mono (by decide)) (QS _)) (ea_cons (ed_cl (ea_cons (ed_var 5 rfl (.inl rfl) rfl) (ea_cons (ed_var 6 rfl (.inl rfl) rfl) ea_nil)) (hr.mono (by decide)) (QH _)) ea_nil))))) ?_)
  have hzl : (sizs (words r) L).length ≤ 1000 := by unfold sizs; rw [List.length_map]; omega
  refine bk_cons (bs_ifF (et_not (k := true) (et_val (ed_cl (ea_cons (ed_var 10 rfl (.inl rfl) rfl) (ea_cons (El.ed (el_lst (ea_cons (ed_var 4 rfl (.inl rfl) rfl) (ea_cons (ed_var 7 rfl (.inl rfl) rfl) (ea_cons (Ed.is (y := .int (((sizs (words r) L).map fun p : Nat × Nat => p.2).sum : Nat)) (ed_sum T.bf rfl (ns := (sizs (words r) L).map fun p => (p.2 : Int)) (Ed.is (El.ed (el_map [("_law_wide", 11), ("_law_tall_here", 12)] (fun d => .int ((un2 d).2 : Nat)) rfl sc__law_room_right.nd (ei_seq (ed_var 7 rfl (.inl rfl) rfl) (.inl rfl)) (blkOk_by rfl) (by rw [List.length_map]; exact small hzl) (fun i d hi => ?_))) ?_)) ?_) ea_nil))))) ea_nil)) (hr.mono (by decide : 4 ≤ 6)) (show Rn E 4 "_law_same" [fndL (words r) L, fndL (words r) L] s2 (.bl true) s2 from rn_same_fnd T (by omega))))) (bk_nil ?_))
  · obtain ⟨q, hq, rfl⟩ := List.mem_map.mp (List.mem_of_getElem? hi)
    refine ⟨_, _, fun c => eg_tup rfl (egs_cons (eg_name 11 sc__law_room_right.nd rfl (.inl rfl)) (egs_cons (eg_name 12 sc__law_room_right.nd rfl (.inl rfl)) egs_nil)), by decide, fun c => ?_⟩
    rw [un2_sp]
    exact ed_var 12 rfl (.inl rfl) rfl
  · rw [List.map_map, List.map_map]
    exact congrArg D.lst (List.map_congr_left fun q _ => by simp only [Function.comp, un2_sp])
  · exact congrArg D.int (cast_sum (fun p : Nat × Nat => p.2) _).symm
  refine bk_cons (bs_ifF (Cp.et (Cp.is (cp_ne hr (ed_len T.bf (ed_var 4 rfl (.inl rfl) rfl) rfl) (ed_cl (ea_cons (ed_var 2 rfl (.inr (.inl rfl)) rfl) (ea_cons (ed_var 3 rfl (.inl rfl) rfl) ea_nil)) (hr.mono (by decide)) (rn_fewest T wok hb2)) (eqC_int _) (eqC_int _)) (by rw [eqb_int, decide_eq_true (by rw [List.length_map, hLen])]; rfl))) (bk_nil ?_))
  refine bk_cons (bs_setLc 13 [("_law_first", 8), ("_law_upto", 9)] (out := fun k => ((L.map spD).take k).map fun d => .int ((un2 d).1 : Nat)) (st := fun _ => s2) rfl sc__law_room_right.nd rfl rfl (sw_true rfl rfl rfl (by decide +kernel)) (ei_seq (ed_var 4 rfl (.inl rfl) rfl) (.inl rfl)) (blkOk_by rfl) (Comp.map (fun d => .int ((un2 d).1 : Nat)) (by rw [List.length_map]; exact small (by omega)) (fun i d hi => ?_)) ?_)
  · obtain ⟨q, hq, rfl⟩ := List.mem_map.mp (List.mem_of_getElem? hi)
    refine ⟨_, _, fun c => eg_tup rfl (egs_cons (eg_name 8 sc__law_room_right.nd rfl (.inl rfl)) (egs_cons (eg_name 9 sc__law_room_right.nd rfl (.inl rfl)) egs_nil)), by decide, fun c => ?_⟩
    rw [un2_sp]
    exact ed_var 8 rfl (.inl rfl) rfl
  have e13 : (((L.map spD).take (L.map spD).length).map fun d => D.int ((un2 d).1 : Nat)) = nsD (begins (fit t b) (words r)) := by
    rw [List.take_length, List.map_map, ← hfst]
    unfold nsD
    rw [List.map_map]
    exact List.map_congr_left fun q _ => by simp only [Function.comp, un2_sp]
  show Bk _ _ (List.set _ 13 (.own (((L.map spD).take (L.map spD).length).map fun d => D.int ((un2 d).1 : Nat)))) _ _
  rw [e13]
  refine bk_freeze 13 rfl ?_
  refine bk_cons (bs_for PassesOwn.never rfl (ei_range1 (j := (((words r).length + 2 : Nat) : Int)) T.bf (Ed.is (ed_bin (ed_len T.bf (ed_var 2 rfl (.inr (.inl rfl)) rfl) rfl) ed_int rfl trivial) (congrArg D.int (by rw [List.length_map]; omega))) (by omega) (by omega)) (fun i ρ s' => s' = s2 ∧ ∃ g14 g15, ρ = [.val .mut, .val (.lst (r.map thD)), .val (wsD (words r)), .val (rmD t b), .val (.lst (L.map spD)), .val ld, .val py, .val (.lst ((sizs (words r) L).map spD)), .no, .no, .val (fndL (words r) L), .no, .no, .val (.lst (nsD (begins (fit t b) (words r)))), g14, g15, .no, .no, .no, .no, .no, .no, .no]) ⟨rfl, _, _, rfl⟩ ?_ ?_)
  · rintro i z ρ' s' hi ⟨rfl, g14, g15, rfl⟩
    obtain ⟨hin, rfl⟩ := rangeD_inv (lo := 0) hi
    rw [Nat.zero_add]
    refine ⟨_, _, eg_name 14 sc__law_room_right.nd rfl (.inl rfl), ?_⟩
    refine bk_cons (bs_set 15 (d := chD (begins (fit t b) (words r)) i) (s1 := s') sc__law_room_right.nd rfl (.inl rfl) ?_ ?_)
    · unfold chD
      by_cases hc : i < (begins (fit t b) (words r)).length
      · rw [if_pos hc]
        exact ed_ifF (Cp.et (Cp.is (cp_le (ed_len T.bf (ed_var 4 rfl (.inl rfl) rfl) rfl) (ed_var 14 rfl (.inl rfl) rfl)) (by rw [List.length_map, hLen]; exact decide_eq_false (by omega)))) (El.ed (El.is (el_slice (ed_var 13 rfl (.inl rfl) rfl) .none (.some (Ed.is (ed_bin (ed_var 14 rfl (.inl rfl) rfl) ed_int rfl trivial) (congrArg D.int (show _ = ((i + 1 : Nat) : Int) by omega))))) (by rw [cut_take]; unfold nsD; rw [List.map_take])))
      · rw [if_neg hc]
        exact ed_ifT (Cp.et (Cp.is (cp_le (ed_len T.bf (ed_var 4 rfl (.inl rfl) rfl) rfl) (ed_var 14 rfl (.inl rfl) rfl)) (by rw [List.length_map, hLen]; exact decide_eq_true (by omega)))) ed_non
    refine bk_cons (bs_ifF (et_not (k := true) (et_val (ed_cl (ea_cons (ed_cl (ea_cons (ed_var 5 rfl (.inl rfl) rfl) (ea_cons (ed_var 6 rfl (.inl rfl) rfl) (ea_cons (ed_var 14 rfl (.inl rfl) rfl) ea_nil))) (hr.mono (by decide)) (QC i _)) (ea_cons (ed_var 15 rfl (.inl rfl) rfl) ea_nil)) (hr.mono (by decide)) (rn_same_ch T (by omega))))) (bk_nil (bk_nil ⟨rfl, _, _, rfl⟩)))
  · rintro ρ' s' ⟨rfl, g14, g15, rfl⟩
    refine bk_cons (bs_set 16 sc__law_room_right.nd rfl (.inl rfl) (ed_cl (ea_cons (ed_var 0 rfl (.inr (.inl rfl)) rfl) (ea_cons (ed_var 2 rfl (.inr (.inl rfl)) rfl) (ea_cons (ed_var 3 rfl (.inl rfl) rfl) ea_nil))) (hr.mono (by decide)) R3) ?_)
    have ez : zipD (nsD (begins (fit t b) (words r))) (rows.map spD) = ((begins (fit t b) (words r)).zip rows).map fun p => .tup [.int p.1, spD p.2] := by
      unfold zipD nsD
      rw [List.zipWith_map, List.zip, List.map_zipWith]
    have hzl : ((begins (fit t b) (words r)).zip rows).length ≤ 900 := by rw [List.length_zip]; omega
    refine bk_cons (bs_ifF (et_val (Ed.is (ed_any T.bf rfl (bs := ((begins (fit t b) (words r)).zip rows).map fun _ => false) (Ed.is (El.ed (el_map [("_law_one", 17), ("_law_row_here", 18)] (fun _ => .bl false) rfl sc__law_room_right.nd (ei_zip T.bf (ed_var 13 rfl (.inl rfl) rfl) (ed_var 16 rfl (.inl rfl) rfl)) (blkOk_by rfl) (by rw [ez, List.length_map]; exact small (by omega)) (fun i d hi => ?_))) ?_)) ?_)) (bk_nil ?_))
    · rw [ez, List.getElem?_map] at hi
      obtain ⟨⟨g, q⟩, hz, rfl⟩ := Option.map_eq_some_iff.mp hi
      have hz2 := List.getElem?_zip_eq_some.mp hz
      have hle : q.1 ≤ g := B.ahead (k := 0) (j := i) (by rw [show Rr.cnt (fit t b) (words r) 0 = 0 from rfl]; exact Nat.le_refl _) hz2.2 (by rw [Nat.zero_add]; exact hz2.1)
      refine ⟨_, _, fun c => eg_tup rfl (egs_cons (eg_name 17 sc__law_room_right.nd rfl (.inl rfl)) (egs_cons (eg_name 18 sc__law_room_right.nd rfl (.inl rfl)) egs_nil)), by decide, fun c => ?_⟩
      exact Cp.ed (Cp.is (cp_lt (ed_var 17 rfl (.inl rfl) rfl) (ed_ix (ed_var 18 rfl (.inl rfl) rfl) ed_int rfl)) (decide_eq_false (by simp only []; omega)))
    · rw [ez, List.map_map, List.map_map]; rfl
    · simp
    have FB : ∃ st : Nat → Sx, st 0 = s3 ∧ st 2 = s7 ∧ ∀ i z, [D.lst (L.map spD), D.lst (rows.map spD)][i]? = some z → Ask z ∧ ∃ e1 e2 sm, Ask e1 ∧ Ask e2 ∧ Rn E 3 "_law_bent" [.mut, z] (st i) e1 sm ∧ Rn E 3 "_law_bent" [.mut, z] sm e2 (st (i + 1)) := by
      refine ⟨fun i => match i with | 0 => s3 | 1 => s5 | _ => s7, rfl, rfl, fun i z hz => ?_⟩
      rcases getElem_two hz with ⟨rfl, rfl⟩ | ⟨rfl, rfl⟩
      · exact ⟨ask_rows (row_sp _) (by rw [List.length_map]; omega), d1, d2, s4, a1, a2, R4, R5⟩
      · exact ⟨ask_rows (row_sp _) (by rw [List.length_map]; omega), d3, d4, s6, a3, a4, R6, R7⟩
    obtain ⟨st, st0, st2, FB⟩ := FB
    refine bk_cons (bs_for PassesOwn.never rfl (ei_seq (ed_tup (ea_cons (ed_var 4 rfl (.inl rfl) rfl) (ea_cons (ed_var 16 rfl (.inl rfl) rfl) ea_nil))) (.inr rfl)) (fun i ρ s' => s' = st i ∧ ∃ g14 g15 g19 g20, ρ = [.val .mut, .val (.lst (r.map thD)), .val (wsD (words r)), .val (rmD t b), .val (.lst (L.map spD)), .val ld, .val py, .val (.lst ((sizs (words r) L).map spD)), .no, .no, .val (fndL (words r) L), .no, .no, .val (.lst (nsD (begins (fit t b) (words r)))), g14, g15, .val (.lst (rows.map spD)), .no, .no, g19, g20, .no, .no]) ⟨st0.symm, _, _, _, _, rfl⟩ ?_ ?_)
    · rintro i z ρ' s' hi ⟨rfl, g14, g15, g19, g20, rfl⟩
      obtain ⟨az, e1, e2, sm, b1, b2, Q1, Q2⟩ := FB i z hi
      refine ⟨_, _, eg_name 19 sc__law_room_right.nd rfl (.inl rfl), ?_⟩
      refine bk_cons (bs_for PassesOwn.never rfl (ei_seq (ed_tup (ea_cons (ed_var 19 rfl (.inl rfl) rfl) (ea_cons (ed_cl (ea_cons (ed_var 0 rfl (.inr (.inl rfl)) rfl) (ea_cons (ed_var 19 rfl (.inl rfl) rfl) ea_nil)) (hr.mono (by decide)) Q1) (ea_cons (ed_cl (ea_cons (ed_var 0 rfl (.inr (.inl rfl)) rfl) (ea_cons (ed_var 19 rfl (.inl rfl) rfl) ea_nil)) (hr.mono (by decide)) Q2) ea_nil)))) (.inr rfl)) (fun j ρ s' => s' = st (i + 1) ∧ ∃ g20, ρ = [.val .mut, .val (.lst (r.map thD)), .val (wsD (words r)), .val (rmD t b), .val (.lst (L.map spD)), .val ld, .val py, .val (.lst ((sizs (words r) L).map spD)), .no, .no, .val (fndL (words r) L), .no, .no, .val (.lst (nsD (begins (fit t b) (words r)))), g14, g15, .val (.lst (rows.map spD)), .no, .no, .val z, g20, .no, .no]) ⟨rfl, _, rfl⟩ ?_ ?_)
      · rintro j w ρ' s' hj ⟨rfl, g20, rfl⟩
        have aw : Ask w := by
          have := List.mem_of_getElem? hj
          simp only [List.mem_cons, List.not_mem_nil, or_false] at this
          rcases this with rfl | rfl | rfl <;> assumption
        refine ⟨_, _, eg_name 20 sc__law_room_right.nd rfl (.inl rfl), ?_⟩
        refine bk_cons (bs_ifF (et_not (k := true) (et_val (ed_cl (ea_cons (ed_cl (ea_cons (ed_var 5 rfl (.inl rfl) rfl) (ea_cons (ed_var 6 rfl (.inl rfl) rfl) (ea_cons (ed_var 20 rfl (.inl rfl) rfl) ea_nil))) (hr.mono (by decide)) (QB w _ aw)) (ea_cons (ed_cl (ea_cons (ed_var 2 rfl (.inr (.inl rfl)) rfl) (ea_cons (ed_var 3 rfl (.inl rfl) rfl) (ea_cons (ed_var 20 rfl (.inl rfl) rfl) ea_nil))) (hr.mono (by decide)) (rn_law_is_breaking T wok hb2 aw.1)) ea_nil)) (hr.mono (by decide)) (rn_same_bl T _)))) (bk_nil (bk_nil ⟨rfl, _, rfl⟩)))
      · rintro ρ' s' ⟨rfl, g20, rfl⟩
        exact bk_nil ⟨rfl, _, _, _, _, rfl⟩
    · rintro ρ' s' ⟨e, g14, g15, g19, g20, rfl⟩
      have e : s' = s7 := by rw [e]; exact st2
      subst e
      refine bk_cons (bs_setLc 21 [("_law_k", 22)] rfl sc__law_room_right.nd rfl rfl (sw_true rfl rfl rfl (by decide +kernel)) (out := fun i => nsD (tr i).1) (st := fun i => (tr i).2) (by rw [t0]; exact ei_range1 (j := ((words r).length : Int)) T.bf (Ed.is (ed_len T.bf (ed_var 2 rfl (.inr (.inl rfl)) rfl) rfl) (congrArg D.int (by rw [List.length_map]))) (by omega) (by omega)) (blkOk_by rfl) ⟨by rw [t0]; rfl, fun i hi => by rw [rangeD_length] at hi; rw [nsD_length]; exact Nat.le_trans (tg i (by omega)).1 (small (by omega)), fun i d hd => ?_⟩ ?_)
      · obtain ⟨hin, rfl⟩ := rangeD_inv (lo := 0) hd
        rw [Nat.zero_add]
        obtain ⟨dd, Rd, hle, hor⟩ := ts i (by omega)
        refine ⟨_, _, fun c => eg_name 22 sc__law_room_right.nd rfl (.inl rfl), by decide, decide (dd = 0), _, fun c => .inr ⟨_, rfl, Cp.et (Cp.is (cp_eq hr (ed_cl (ea_cons (ed_var 0 rfl (.inr (.inl rfl)) rfl) (ea_cons ed_int ea_nil)) (hr.mono (by decide)) Rd) ed_int (eqC_int _) (eqC_int _)) (by rw [eqb_int]; exact decide_eq_decide.mpr (by omega)))⟩, fun hb => ?_, fun hb => ?_⟩
        · have hb := of_decide_eq_true hb
          rcases hor with ⟨_, e⟩ | ⟨z, _⟩
          · exact ⟨_, fun c => ed_var 22 rfl (.inl rfl) rfl, by rw [e]; unfold nsD; rw [List.map_append]; rfl⟩
          · exact absurd hb z
        · have hb := of_decide_eq_false hb
          rcases hor with ⟨z, _⟩ | ⟨_, e⟩
          · exact absurd z hb
          · exact ⟨rfl, by rw [e]⟩
      have eN : (rangeD 0 (((words r).length : Int)).toNat).length = (words r).length := by rw [rangeD_length]; omega
      show Bk _ _ (List.set _ 21 (.own (nsD (tr (rangeD 0 (((words r).length : Int)).toNat).length).1))) ((tr (rangeD 0 (((words r).length : Int)).toNat).length).2) _
      rw [eN]
      refine bk_freeze 21 rfl ?_
      refine bk_cons (bs_for PassesOwn.never rfl (ei_seq (ed_tup (ea_cons (ed_var 13 rfl (.inl rfl) rfl) (ea_cons (El.ed (El.is (el_slice (ed_var 13 rfl (.inl rfl) rfl) (.some ed_int) .none) (cut_drop _ 1))) (ea_cons (ed_var 21 rfl (.inl rfl) rfl) (ea_cons (ed_cl (ea_cons (ed_var 0 rfl (.inr (.inl rfl)) rfl) (ea_cons (ed_var 13 rfl (.inl rfl) rfl) ea_nil)) (hr.mono (by decide)) R9) (ea_cons (ed_cl (ea_cons (ed_var 0 rfl (.inr (.inl rfl)) rfl) (ea_cons (ed_var 21 rfl (.inl rfl) rfl) ea_nil)) (hr.mono (by decide)) R10) ea_nil)))))) (.inr rfl)) (fun i ρ s' => s' = s10 ∧ ∃ g20, ρ = [.val .mut, .val (.lst (r.map thD)), .val (wsD (words r)), .val (rmD t b), .val (.lst (L.map spD)), .val ld, .val py, .val (.lst ((sizs (words r) L).map spD)), .no, .no, .val (fndL (words r) L), .no, .no, .val (.lst (nsD (begins (fit t b) (words r)))), g14, g15, .val (.lst (rows.map spD)), .no, .no, g19, g20, .val (.lst (nsD (tr (words r).length).1)), .no]) ⟨rfl, _, rfl⟩ ?_ ?_)
      · rintro j w ρ' s' hj ⟨rfl, g20, rfl⟩
        have aw : Ask w := by
          have := List.mem_of_getElem? hj
          simp only [List.mem_cons, List.not_mem_nil, or_false] at this
          rcases this with rfl | rfl | rfl | rfl | rfl
          · exact ask_rows (row_ns _) (by rw [nsD_length]; omega)
          · exact ask_rows (fun x m => row_ns _ x (List.mem_of_mem_drop m)) (by rw [List.length_drop, nsD_length]; omega)
          · exact ask_rows (row_ns _) (by rw [nsD_length]; omega)
          · assumption
          · assumption
        refine ⟨_, _, eg_name 20 sc__law_room_right.nd rfl (.inl rfl), ?_⟩
        refine bk_cons (bs_ifF (et_not (k := true) (et_val (ed_cl (ea_cons (ed_cl (ea_cons (ed_var 5 rfl (.inl rfl) rfl) (ea_cons (ed_var 6 rfl (.inl rfl) rfl) (ea_cons (ed_var 20 rfl (.inl rfl) rfl) ea_nil))) (hr.mono (by decide)) (QN w _ aw)) (ea_cons (ed_cl (ea_cons (ed_var 2 rfl (.inr (.inl rfl)) rfl) (ea_cons (ed_var 3 rfl (.inl rfl) rfl) (ea_cons (ed_var 20 rfl (.inl rfl) rfl) ea_nil))) (hr.mono (by decide)) (rn_law_is_chain T wok hb2 aw.1 aw.2)) ea_nil)) (hr.mono (by decide)) (rn_same_bl T _)))) (bk_nil (bk_nil ⟨rfl, _, rfl⟩)))
      · rintro ρ' s' ⟨rfl, g20, rfl⟩
        exact bk_cons (bs_ret ed_bl ⟨rfl, rfl⟩)
end Law
set_option Elab.async false
set_option linter.all false
set_option maxRecDepth 100000
set_option maxHeartbeats 4000000
namespace Law
open PySem PySem.Spec PyProof.Rows L2 Gh Rr
variable {E : En} {s : Sx} {x : D} {ds : List D} {r : List Th}
theorem begs_fits {t : Nat} : ∀ (ws : List Wd) (n wide : Nat), wide + tot ws ≤ t → begs (fit t 1) n wide ws = []
  | [], n, wide, h => rfl
  | w :: ws, n, wide, h => by
    have e : tot (w :: ws) = w.w + w.g + tot ws := by simp [tot]
    unfold begs
    rw [if_pos (by unfold fit; exact decide_eq_true (by omega))]
    exact begs_fits ws _ _ (by omega)
theorem one_line {t : Nat} {ws : List Wd} (h : tot ws ≤ t) : spans ws.length (begins (fit t 1) ws) = if ws.isEmpty then [] else [(0, ws.length)] := by
  cases ws with
  | nil => rfl
  | cons w ws =>
    have e : tot (w :: ws) = w.w + w.g + tot ws := by simp [tot]
    show spans (w :: ws).length (0 :: begs (fit t 1) 1 w.w ws) = _
    rw [begs_fits (t := t) ws 1 w.w (by omega)]
    rfl
theorem nil_ok : RunOk [] := ⟨fun t m => (by cases m), by decide⟩
theorem flt_ok : RunOk [.flt true 1 5] := ⟨fun t m => (by rw [List.mem_singleton.mp m]; exact ⟨⟨by omega, by omega⟩, fun c hc => by simp [Th.cs] at hc⟩), by decide⟩
theorem law_body (T : Tc E) {ns : List Int} (hns : ns.length ≤ 63) : LawBody E ["_law_script", "_law_turn", "_law_draws", "_law_run", "_law_words", "_law_top", "_law_k"] t_law 9 ns := by
  have hl : ns.length < 2 ^ 40 := by omega
  intro fa cdv A' outer sh H0 EX S0 p hr
  conv => arg 2; whnf
  refine bk_cons (bs_for PassesOwn.never rfl (ei_range1 (j := 2 + min (ns.length : Int) 3) T.bf (ed_bin ed_int (ed_min2 T.bf rfl (ed_len T.bf (ed_var 0 rfl (.inl rfl) rfl) rfl) ed_int) rfl trivial) (by omega) (by omega)) (fun i ρ s' => s' = none ∧ ∃ gs, gs.length = 6 ∧ ρ = .val (.scr ns) :: gs) ⟨rfl, _, rfl, rfl⟩ ?_ ?_)
  · rintro i d ρ' s' hi ⟨rfl, gs, hgs, rfl⟩
    match gs, hgs with
    | [g1, g2, g3, g4, g5, g6], _ =>
    obtain ⟨hin, rfl⟩ := rangeD_inv (lo := 0) hi
    have hi100 : i < 100 := by omega
    rw [Nat.zero_add]
    obtain ⟨c, z, hz, R0⟩ := rn_source T (ns := ns) (k := i) (by omega) hl
    refine ⟨_, _, eg_name 1 sc_law.nd rfl (.inl rfl), ?_⟩
    refine bk_cons (bs_setOwn 2 sc_law.nd rfl (.inl rfl) (el_cl (ea_cons (ed_var 0 rfl (.inl rfl) rfl) (ea_cons (ed_var 1 rfl (.inl rfl) rfl) ea_nil)) (hr.mono (by decide)) R0) ?_)
    refine bk_stream 2 (xs := [(c : Int), z, 0]) rfl rfl fun a O H => ?_
    have h0 : St 0 (some [(c : Int), (z : Int), ((0 : Nat) : Int)]) := ⟨c, z, 0, rfl, hz, by omega⟩
    obtain ⟨r, s1, ok, h1, R1⟩ := rn_some_run T h0 (many := 8) (floats := 3) (by decide) (by decide) (by decide)
    have wok := ok.wok
    have ht := wok.tot
    have hwl := wok.len
    have hW := rowW_le (words r) (a := 0) (b := (words r).length) (Nat.le_refl _)
    refine bk_cons (bs_set 3 sc_law.nd rfl (.inl rfl) (ed_cl (ea_cons (ed_var 2 rfl (.inl rfl) rfl) (ea_cons ed_int (ea_cons ed_int ea_nil))) (hr.mono (by decide)) R1) ?_)
    refine bk_cons (bs_set 4 sc_law.nd rfl (.inl rfl) (ed_ix (ed_cl (ea_cons (ed_var 3 rfl (.inl rfl) rfl) ea_nil) (hr.mono (by decide)) (rn_met_in T ok)) ed_int rfl) ?_)
    refine bk_cons (bs_set 5 (d := .int (rowW (words r) 0 (words r).length)) sc_law.nd rfl (.inl rfl) (ed_cl (ea_cons (ed_var 4 rfl (.inl rfl) rfl) (ea_cons ed_int (ea_cons (Ed.is (ed_len T.bf (ed_var 4 rfl (.inl rfl) rfl) rfl) (congrArg D.int (show _ = (((words r).length : Nat) : Int) by rw [List.length_map]))) ea_nil))) (hr.mono (by decide : 1 ≤ 9)) (rn_law_row T (a := 0) wok (Nat.zero_le _) (Nat.le_refl _))) ?_)
    refine bk_cons (bs_for PassesOwn.never rfl (ei_range1 (j := 3) T.bf ed_int (by decide) (by decide)) (fun j ρ s' => St (100 + 2100 * j) s' ∧ ∃ g6, ρ = [.val (.scr ns), .val (.int i), .val .mut, .val (.lst (r.map thD)), .val (wsD (words r)), .val (.int (rowW (words r) 0 (words r).length)), g6]) ⟨h1.mono (by omega), _, rfl⟩ ?_ ?_)
    · rintro j d ρ' s' hj ⟨hst, g6, rfl⟩
      have hj4 : j < 3 := by
        have := (List.getElem?_eq_some_iff.mp hj).1
        rw [rangeD_length] at this; exact this
      obtain ⟨t, b, s5, hb0, hb4, h5, R5⟩ := rn_some_room T (top := rowW (words r) 0 (words r).length) hst (by omega) (by omega)
      obtain ⟨s6, h6, R6⟩ := rn_room_right T ok (t := t) hb0 (by omega) h5 (by omega)
      refine ⟨_, _, eg_name 6 sc_law.nd rfl (.inl rfl), ?_⟩
      exact bk_cons (bs_ifF (et_not (k := true) (et_val (ed_cl (ea_cons (ed_var 2 rfl (.inl rfl) rfl) (ea_cons (ed_var 3 rfl (.inl rfl) rfl) (ea_cons (ed_var 4 rfl (.inl rfl) rfl) (ea_cons (ed_cl (ea_cons (ed_var 2 rfl (.inl rfl) rfl) (ea_cons (ed_var 5 rfl (.inl rfl) rfl) ea_nil)) (hr.mono (by decide)) R5) ea_nil)))) (hr.mono (by decide)) R6))) (bk_nil (bk_nil ⟨h6.mono (by omega), _, rfl⟩)))
    · rintro ρ' s' ⟨hst, g6, rfl⟩
      have hst : St 6400 s' := hst
      obtain ⟨s6, h6, R6⟩ := rn_room_right T ok (t := rowW (words r) 0 (words r).length) (b := 1) (by decide) (by decide) hst (by decide)
      refine bk_cons (bs_ifF (et_not (k := true) (et_val (ed_cl (ea_cons (ed_var 2 rfl (.inl rfl) rfl) (ea_cons (ed_var 3 rfl (.inl rfl) rfl) (ea_cons (ed_var 4 rfl (.inl rfl) rfl) (ea_cons (ed_tup (ea_cons (ed_var 5 rfl (.inl rfl) rfl) (ea_cons ed_int ea_nil))) ea_nil)))) (hr.mono (by decide)) R6))) (bk_nil ?_))
      have QL := rn_lines_in T (s := s6) (lsR_own r) ok (y := .int ((1000000 : Nat) : Int)) (t := 1000000) (b := 1) (by decide) (fun s => rn_checked_roomI T)
      rw [one_line (by omega)] at QL
      refine bk_cons (bs_ifF (s1 := s6) (et_not (k := true) (et_val (ed_cl (d := .bl true) (ds := [.lst ((if (words r).isEmpty then [] else [(0, (words r).length)]).map spD), .lst ((if (words r).isEmpty then [] else [(0, (words r).length)]).map spD)]) (ea_cons (ed_cl (ea_cons (ed_var 3 rfl (.inl rfl) rfl) (ea_cons (Ed.is (ed_bin ed_int ed_int rfl (show CPow 10 6 from ⟨by decide, by decide, by decide⟩)) (congrArg D.int (show (10 : Int) ^ (6 : Int).toNat = ((1000000 : Nat) : Int) by decide))) ea_nil)) (hr.mono (by decide : 6 ≤ 9)) QL.rn) (ea_cons ?_ ea_nil)) (hr.mono (by decide : 3 ≤ 9)) (rn_same_sps T _ (by split <;> simp))))) (bk_nil (bk_nil ⟨rfl, _, by simp, rfl⟩)))
      cases hc : (words r).isEmpty with
      | true =>
        exact ed_ifF (Cp.et (Cp.is (cp_ne hr (ed_var 4 rfl (.inl rfl) rfl) (El.ed (el_lst ea_nil)) (wds_eqC _) nil_eqC) (by unfold wsD; rw [lst_nil, isEmpty_mapG, hc]; rfl))) (El.ed (el_lst ea_nil))
      | false =>
        exact ed_ifT (Cp.et (Cp.is (cp_ne hr (ed_var 4 rfl (.inl rfl) rfl) (El.ed (el_lst ea_nil)) (wds_eqC _) nil_eqC) (by unfold wsD; rw [lst_nil, isEmpty_mapG, hc]; rfl))) (El.ed (el_lst (ea_cons (ed_tup (ea_cons ed_int (ea_cons (Ed.is (ed_len T.bf (ed_var 4 rfl (.inl rfl) rfl) rfl) (congrArg D.int (show _ = (((words r).length : Nat) : Int) by rw [List.length_map]))) ea_nil))) ea_nil)))
  · rintro ρ' s' ⟨rfl, gs, hgs, rfl⟩
    match gs, hgs with
    | [g1, g2, g3, g4, g5, g6], _ =>
    have Q1 := rn_lines_in T (s := none) (lsR_own []) nil_ok (y := .int ((0 : Nat) : Int)) (t := 0) (b := 1) (by decide) (fun s => rn_checked_roomI T)
    have Q2 := rn_height_in T (s := none) (lsR_own [.flt true 1 5]) flt_ok (y := .tup [.int (7 : Nat), .int (2 : Nat)]) (t := 7 / Nat.gcd 7 2) (b := 2 / Nat.gcd 7 2) (by decide) (fun s => rn_checked_roomP T (.inl rfl) (by decide) (by decide))
    have Q3 := rn_is_breaking T (s := none) (lsR_own []) nil_ok (y := .int ((0 : Nat) : Int)) (d := .lst []) (t := 0) (b := 1) (by decide) (fun s => rn_checked_roomI T) rfl
    have e1 : spans (words []).length (begins (fit 0 1) (words [])) = [] := by decide +kernel
    have e2 : (heights (words [.flt true 1 5]) (begins (fit (7 / Nat.gcd 7 2) (2 / Nat.gcd 7 2)) (words [.flt true 1 5]))).sum = 0 := by decide +kernel
    have e3 : isBrk (words []) (fit 0 1) (.lst []) = true := by decide +kernel
    rw [e1] at Q1
    rw [e2] at Q2
    rw [e3] at Q3
    refine bk_cons (bs_ret (ed_andT (Ed.is (Cp.ed (cp_eq hr (ed_cl (ea_cons (El.ed (el_lst ea_nil)) (ea_cons ed_int ea_nil)) (hr.mono (by decide : 6 ≤ 9)) Q1.rn) (El.ed (el_lst ea_nil)) nil_eqC nil_eqC)) (congrArg D.bl (lst_nil []))) (ed_andT (Ed.is (Cp.ed (cp_eq hr (ed_cl (ea_cons (El.ed (el_lst (ea_cons (ed_tup (ea_cons ed_str (ea_cons ed_int (ea_cons ed_int ea_nil)))) ea_nil))) (ea_cons (ed_tup (ea_cons ed_int (ea_cons ed_int ea_nil))) ea_nil)) (hr.mono (by decide : 6 ≤ 9)) Q2) ed_int (eqC_int _) (eqC_int _))) (by rw [eqb_int]; rfl)) (ed_one (Ed.is (Cp.ed (cp_isB (ed_cl (ea_cons (El.ed (el_lst ea_nil)) (ea_cons ed_int (ea_cons (El.ed (el_lst ea_nil)) ea_nil))) (hr.mono (by decide : 6 ≤ 9)) Q3) ed_bl)) rfl)))) ⟨rfl, rfl⟩)
end Law
set_option Elab.async false
set_option linter.all false
set_option maxRecDepth 100000
set_option maxHeartbeats 0
namespace Law
open PySem PySem.Spec PyProof.Rows L2 Gh
def d2 : He.DefD := ⟨("is_list", none), "is_list", "is_list", defArgs (top 2), defBody (top 2), defScope (top 2), [], []⟩
def d3 : He.DefD := ⟨("is_whole", none), "is_whole", "is_whole", defArgs (top 3), defBody (top 3), defScope (top 3), [], []⟩
def d4 : He.DefD := ⟨("is_natural", none), "is_natural", "is_natural", defArgs (top 4), defBody (top 4), defScope (top 4), [], []⟩
def d5 : He.DefD := ⟨("lowest", none), "lowest", "lowest", defArgs (top 5), defBody (top 5), defScope (top 5), [], []⟩
def d6 : He.DefD := ⟨("is_frac", none), "is_frac", "is_frac", defArgs (top 6), defBody (top 6), defScope (top 6), [], []⟩
def d7 : He.DefD := ⟨("frac_of", none), "frac_of", "frac_of", defArgs (top 7), defBody (top 7), defScope (top 7), [], []⟩
def d8 : He.DefD := ⟨("is_width", none), "is_width", "is_width", defArgs (top 8), defBody (top 8), defScope (top 8), [], []⟩
def d17 : He.DefD := ⟨("is_text_thing", none), "is_text_thing", "is_text_thing", defArgs (top 17), defBody (top 17), defScope (top 17), [], []⟩
def d18 : He.DefD := ⟨("is_float_thing", none), "is_float_thing", "is_float_thing", defArgs (top 18), defBody (top 18), defScope (top 18), [], []⟩
def d19 : He.DefD := ⟨("checked_run", none), "checked_run", "checked_run", defArgs (top 19), defBody (top 19), defScope (top 19), [], []⟩
def d20 : He.DefD := ⟨("words_in", none), "words_in", "words_in", defArgs (top 20), defBody (top 20), defScope (top 20), [], []⟩
def d21 : He.DefD := ⟨("row_width", none), "row_width", "row_width", defArgs (top 21), defBody (top 21), defScope (top 21), [], []⟩
def d22 : He.DefD := ⟨("row_height", none), "row_height", "row_height", defArgs (top 22), defBody (top 22), defScope (top 22), [], []⟩
def d24 : He.DefD := ⟨("checked_room", none), "checked_room", "checked_room", defArgs (top 24), defBody (top 24), defScope (top 24), [], []⟩
def d25 : He.DefD := ⟨("check_number", none), "check_number", "check_number", defArgs (top 25), defBody (top 25), defScope (top 25), [], []⟩
def d26 : He.DefD := ⟨("is_room_for", none), "is_room_for", "is_room_for", defArgs (top 26), defBody (top 26), defScope (top 26), [], []⟩
def d27 : He.DefD := ⟨("line_upto", none), "line_upto", "line_upto", defArgs (top 27), defBody (top 27), defScope (top 27), [], []⟩
def d28 : He.DefD := ⟨("begins_in", none), "begins_in", "begins_in", defArgs (top 28), defBody (top 28), defScope (top 28), [], []⟩
def d29 : He.DefD := ⟨("spans_of", none), "spans_of", "spans_of", defArgs (top 29), defBody (top 29), defScope (top 29), [], []⟩
def d30 : He.DefD := ⟨("heights_in", none), "heights_in", "heights_in", defArgs (top 30), defBody (top 30), defScope (top 30), [], []⟩
def d31 : He.DefD := ⟨("lines_in", none), "lines_in", "lines_in", defArgs (top 31), defBody (top 31), defScope (top 31), [], []⟩
def d32 : He.DefD := ⟨("line_sizes", none), "line_sizes", "line_sizes", defArgs (top 32), defBody (top 32), defScope (top 32), [], []⟩
def d33 : He.DefD := ⟨("height_in", none), "height_in", "height_in", defArgs (top 33), defBody (top 33), defScope (top 33), [], []⟩
def d34 : He.DefD := ⟨("is_span", none), "is_span", "is_span", defArgs (top 34), defBody (top 34), defScope (top 34), [], []⟩
def d35 : He.DefD := ⟨("is_breaking", none), "is_breaking", "is_breaking", defArgs (top 35), defBody (top 35), defScope (top 35), [], []⟩
def d36 : He.DefD := ⟨("is_chain", none), "is_chain", "is_chain", defArgs (top 36), defBody (top 36), defScope (top 36), [], []⟩
def d37 : He.DefD := ⟨("chain_above", none), "chain_above", "chain_above", defArgs (top 37), defBody (top 37), defScope (top 37), [], []⟩
def d39 : He.DefD := ⟨("_law_source", none), "_law_source", "_law_source", defArgs (top 39), defBody (top 39), defScope (top 39), [], []⟩
def d40 : He.DefD := ⟨("_law_draw", none), "_law_draw", "_law_draw", defArgs (top 40), defBody (top 40), defScope (top 40), [], []⟩
def d41 : He.DefD := ⟨("_law_pick", none), "_law_pick", "_law_pick", defArgs (top 41), defBody (top 41), defScope (top 41), [], []⟩
def d42 : He.DefD := ⟨("_law_same", none), "_law_same", "_law_same", defArgs (top 42), defBody (top 42), defScope (top 42), [], []⟩
def d43 : He.DefD := ⟨("_law_loose", none), "_law_loose", "_law_loose", defArgs (top 43), defBody (top 43), defScope (top 43), [], []⟩
def d44 : He.DefD := ⟨("_law_some_text", none), "_law_some_text", "_law_some_text", defArgs (top 44), defBody (top 44), defScope (top 44), [], []⟩
def d45 : He.DefD := ⟨("_law_some_float", none), "_law_some_float", "_law_some_float", defArgs (top 45), defBody (top 45), defScope (top 45), [], []⟩
def d46 : He.DefD := ⟨("_law_some_run", none), "_law_some_run", "_law_some_run", defArgs (top 46), defBody (top 46), defScope (top 46), [], []⟩
def d47 : He.DefD := ⟨("_law_some_room", none), "_law_some_room", "_law_some_room", defArgs (top 47), defBody (top 47), defScope (top 47), [], []⟩
def d48 : He.DefD := ⟨("_law_is_float", none), "_law_is_float", "_law_is_float", defArgs (top 48), defBody (top 48), defScope (top 48), [], []⟩
def d49 : He.DefD := ⟨("_law_met_in", none), "_law_met_in", "_law_met_in", defArgs (top 49), defBody (top 49), defScope (top 49), [], []⟩
def d50 : He.DefD := ⟨("_law_row", none), "_law_row", "_law_row", defArgs (top 50), defBody (top 50), defScope (top 50), [], []⟩
def d51 : He.DefD := ⟨("_law_lines", none), "_law_lines", "_law_lines", defArgs (top 51), defBody (top 51), defScope (top 51), [], []⟩
def d52 : He.DefD := ⟨("_law_tall", none), "_law_tall", "_law_tall", defArgs (top 52), defBody (top 52), defScope (top 52), [], []⟩
def d53 : He.DefD := ⟨("_law_passed", none), "_law_passed", "_law_passed", defArgs (top 53), defBody (top 53), defScope (top 53), [], []⟩
def d54 : He.DefD := ⟨("_law_is_breaking", none), "_law_is_breaking", "_law_is_breaking", defArgs (top 54), defBody (top 54), defScope (top 54), [], []⟩
def d55 : He.DefD := ⟨("_law_is_chain", none), "_law_is_chain", "_law_is_chain", defArgs (top 55), defBody (top 55), defScope (top 55), [], []⟩
def d56 : He.DefD := ⟨("_law_fewest", none), "_law_fewest", "_law_fewest", defArgs (top 56), defBody (top 56), defScope (top 56), [], []⟩
def d57 : He.DefD := ⟨("_law_some_breaking", none), "_law_some_breaking", "_law_some_breaking", defArgs (top 57), defBody (top 57), defScope (top 57), [], []⟩
def d58 : He.DefD := ⟨("_law_bent", none), "_law_bent", "_law_bent", defArgs (top 58), defBody (top 58), defScope (top 58), [], []⟩
def d59 : He.DefD := ⟨("_law_room_right", none), "_law_room_right", "_law_room_right", defArgs (top 59), defBody (top 59), defScope (top 59), [], []⟩
def d60 : He.DefD := ⟨("law", none), "law", "law", defArgs (top 60), defBody (top 60), defScope (top 60), [], []⟩
def fn : List He.DefD := [d2, d3, d4, d5, d6, d7, d8, d17, d18, d19, d20, d21, d22, d24, d25, d26, d27, d28, d29, d30, d31, d32, d33, d34, d35, d36, d37, d39, d40, d41, d42, d43, d44, d45, d46, d47, d48, d49, d50, d51, d52, d53, d54, d55, d56, d57, d58, d59, d60]
def fa0 : List He.Fa := [.glo "is_list", .glo "is_whole", .glo "is_natural", .glo "lowest", .glo "is_frac", .glo "frac_of", .glo "is_width", .glo "is_text_thing", .glo "is_float_thing", .glo "checked_run", .glo "words_in", .glo "row_width", .glo "row_height", .glo "checked_room", .glo "check_number", .glo "is_room_for", .glo "line_upto", .glo "begins_in", .glo "spans_of", .glo "heights_in", .glo "lines_in", .glo "line_sizes", .glo "height_in", .glo "is_span", .glo "is_breaking", .glo "is_chain", .glo "chain_above", .glo "_law_source", .glo "_law_draw", .glo "_law_pick"]
def fa1 : List He.Fa := [.glo "_law_same", .glo "_law_loose", .glo "_law_some_text", .glo "_law_some_float", .glo "_law_some_run", .glo "_law_some_room", .glo "_law_is_float", .glo "_law_met_in", .glo "_law_row", .glo "_law_lines", .glo "_law_tall", .glo "_law_passed", .glo "_law_is_breaking", .glo "_law_is_chain", .glo "_law_fewest", .glo "_law_some_breaking", .glo "_law_bent", .glo "_law_room_right", .glo "law", .free "len", .free "isinstance", .free "abs", .free "min", .free "max", .free "sum", .free "all", .free "any", .free "range", .free "zip", .free "enumerate"]
def fa2 : List He.Fa := [.free "sorted", .free "int", .free "bool", .free "str", .free "list", .free "tuple", .free "dict", .free "set", .free "super", .free "repr"]
def fa : List He.Fa := fa0 ++ fa1 ++ fa2 ++ [.str "SIGNS" signD, .glo "SIDES"]
def ln0 : List Str := ["SIGNS", "is_list", "is_whole", "is_natural", "lowest", "is_frac", "frac_of", "is_width", "PageError", "BadNumber", "BadRoom", "BadRun", "SIDES", "is_text_thing", "is_float_thing", "checked_run", "words_in", "row_width", "row_height", "checked_room", "check_number", "is_room_for", "line_upto", "begins_in", "spans_of", "heights_in", "lines_in", "line_sizes", "height_in", "is_span"]
def ln1 : List Str := ["is_breaking", "is_chain", "chain_above", "_law_source", "_law_draw", "_law_pick", "_law_same", "_law_loose", "_law_some_text", "_law_some_float", "_law_some_run", "_law_some_room", "_law_is_float", "_law_met_in", "_law_row", "_law_lines", "_law_tall", "_law_passed", "_law_is_breaking", "_law_is_chain", "_law_fewest", "_law_some_breaking", "_law_bent", "_law_room_right"]
def loose : List Str := ln0 ++ ln1
abbrev R : PySem.W.OpenRow := PySem.W.OpenLaw.row PySem.Challenge.rw_pagefall_k44_whole_lines
abbrev qv : Program := PySem.W.view R.prog [60]
def ts : List He.Tab := []
def ex : PySem.W.Frag → Bool := fun K => He.tupB K "SIDES" [.str "left", .str "right"]
abbrev hk : PySem.W.Hook := He.hookX 5 fa fn ts [] ex
def ob (s : PySem.W.SharedT) : He.AlX := He.obsX 5 fa fn ts [] ex (HandSHeadRun.getT s)
theorem ob_eq (s : PySem.W.SharedT) : ob s = hk.obs s.abs := He.obsX_eq (HandSHeadRun.getT_eq s)
theorem run_false (w : World) : HandSHeadRun.RunEq R qv hk ob 6000 loose (w.withFollow "special-get-raises" false) := by
  intro os
  kernel_rfl
theorem run_true (w : World) : HandSHeadRun.RunEq R qv hk ob 6000 loose (w.withFollow "special-get-raises" true) := by
  intro os
  kernel_rfl
theorem run (w : World) : HandSHeadRun.RunEq R qv hk ob 6000 loose w := PySem.W.byRow2 "special-get-raises" (P := fun w => HandSHeadRun.RunEq R qv hk ob 6000 loose w) run_false run_true w
end Law
set_option Elab.async false
set_option linter.all false
set_option maxRecDepth 100000
set_option maxHeartbeats 0
namespace Law
open PySem PySem.Spec PyProof.Rows L2 Gh
theorem bf_of {K : PySem.W.Frag} {h : Heap} {mg : Str → Option Value} {w : World} (X : K.In h) (G : h.Ns mainGlobals mg) (c : He.SaysX fa fn ts [] ex w h K) : Bf mg :=
  ⟨He.free_ok X G (c.t.d.fact 49 (f := .free "len") rfl), He.free_ok X G (c.t.d.fact 50 (f := .free "isinstance") rfl), He.free_ok X G (c.t.d.fact 51 (f := .free "abs") rfl), He.free_ok X G (c.t.d.fact 52 (f := .free "min") rfl), He.free_ok X G (c.t.d.fact 53 (f := .free "max") rfl), He.free_ok X G (c.t.d.fact 54 (f := .free "sum") rfl), He.free_ok X G (c.t.d.fact 55 (f := .free "all") rfl), He.free_ok X G (c.t.d.fact 56 (f := .free "any") rfl), He.free_ok X G (c.t.d.fact 57 (f := .free "range") rfl), He.free_ok X G (c.t.d.fact 58 (f := .free "zip") rfl), He.free_ok X G (c.t.d.fact 59 (f := .free "enumerate") rfl), He.free_ok X G (c.t.d.fact 60 (f := .free "sorted") rfl), He.free_ok X G (c.t.d.fact 61 (f := .free "int") rfl), He.free_ok X G (c.t.d.fact 62 (f := .free "bool") rfl), He.free_ok X G (c.t.d.fact 63 (f := .free "str") rfl), He.free_ok X G (c.t.d.fact 64 (f := .free "list") rfl), He.free_ok X G (c.t.d.fact 65 (f := .free "tuple") rfl), He.free_ok X G (c.t.d.fact 66 (f := .free "dict") rfl), He.free_ok X G (c.t.d.fact 67 (f := .free "set") rfl)⟩
theorem tx_of {E : En} {h : Heap} (X : E.K.In h) (G : h.Ns mainGlobals E.mg) (c : He.SaysX fa fn ts [] ex E.w h E.K) : Tx E where
  bf := bf_of X G c
  d_is_list := df_of X G (c.t.d.def_ 0 (d := d2) rfl) (c.t.d.fact 0 (f := .glo "is_list") rfl) fun _ _ _ _ _ _ us hl => match us, hl with | [_], _ => rfl
  d_is_whole := df_of X G (c.t.d.def_ 1 (d := d3) rfl) (c.t.d.fact 1 (f := .glo "is_whole") rfl) fun _ _ _ _ _ _ us hl => match us, hl with | [_], _ => rfl
  d_is_natural := df_of X G (c.t.d.def_ 2 (d := d4) rfl) (c.t.d.fact 2 (f := .glo "is_natural") rfl) fun _ _ _ _ _ _ us hl => match us, hl with | [_], _ => rfl
  d_lowest := df_of X G (c.t.d.def_ 3 (d := d5) rfl) (c.t.d.fact 3 (f := .glo "lowest") rfl) fun _ _ _ _ _ _ us hl => match us, hl with | [_, _], _ => rfl
  d_is_frac := df_of X G (c.t.d.def_ 4 (d := d6) rfl) (c.t.d.fact 4 (f := .glo "is_frac") rfl) fun _ _ _ _ _ _ us hl => match us, hl with | [_], _ => rfl
  d_frac_of := df_of X G (c.t.d.def_ 5 (d := d7) rfl) (c.t.d.fact 5 (f := .glo "frac_of") rfl) fun _ _ _ _ _ _ us hl => match us, hl with | [_], _ => rfl
  d_is_width := df_of X G (c.t.d.def_ 6 (d := d8) rfl) (c.t.d.fact 6 (f := .glo "is_width") rfl) fun _ _ _ _ _ _ us hl => match us, hl with | [_], _ => rfl
  d_is_text_thing := df_of X G (c.t.d.def_ 7 (d := d17) rfl) (c.t.d.fact 7 (f := .glo "is_text_thing") rfl) fun _ _ _ _ _ _ us hl => match us, hl with | [_], _ => rfl
  d_is_float_thing := df_of X G (c.t.d.def_ 8 (d := d18) rfl) (c.t.d.fact 8 (f := .glo "is_float_thing") rfl) fun _ _ _ _ _ _ us hl => match us, hl with | [_], _ => rfl
  d_checked_run := df_of X G (c.t.d.def_ 9 (d := d19) rfl) (c.t.d.fact 9 (f := .glo "checked_run") rfl) fun _ _ _ _ _ _ us hl => match us, hl with | [_], _ => rfl
  d_words_in := df_of X G (c.t.d.def_ 10 (d := d20) rfl) (c.t.d.fact 10 (f := .glo "words_in") rfl) fun _ _ _ _ _ _ us hl => match us, hl with | [_], _ => rfl
  d_row_width := df_of X G (c.t.d.def_ 11 (d := d21) rfl) (c.t.d.fact 11 (f := .glo "row_width") rfl) fun _ _ _ _ _ _ us hl => match us, hl with | [_, _, _], _ => rfl
  d_row_height := df_of X G (c.t.d.def_ 12 (d := d22) rfl) (c.t.d.fact 12 (f := .glo "row_height") rfl) fun _ _ _ _ _ _ us hl => match us, hl with | [_, _, _], _ => rfl
  d_checked_room := df_of X G (c.t.d.def_ 13 (d := d24) rfl) (c.t.d.fact 13 (f := .glo "checked_room") rfl) fun _ _ _ _ _ _ us hl => match us, hl with | [_], _ => rfl
  d_check_number := df_of X G (c.t.d.def_ 14 (d := d25) rfl) (c.t.d.fact 14 (f := .glo "check_number") rfl) fun _ _ _ _ _ _ us hl => match us, hl with | [_], _ => rfl
  d_is_room_for := df_of X G (c.t.d.def_ 15 (d := d26) rfl) (c.t.d.fact 15 (f := .glo "is_room_for") rfl) fun _ _ _ _ _ _ us hl => match us, hl with | [_, _], _ => rfl
  d_line_upto := df_of X G (c.t.d.def_ 16 (d := d27) rfl) (c.t.d.fact 16 (f := .glo "line_upto") rfl) fun _ _ _ _ _ _ us hl => match us, hl with | [_, _, _], _ => rfl
  d_begins_in := df_of X G (c.t.d.def_ 17 (d := d28) rfl) (c.t.d.fact 17 (f := .glo "begins_in") rfl) fun _ _ _ _ _ _ us hl => match us, hl with | [_, _], _ => rfl
  d_spans_of := df_of X G (c.t.d.def_ 18 (d := d29) rfl) (c.t.d.fact 18 (f := .glo "spans_of") rfl) fun _ _ _ _ _ _ us hl => match us, hl with | [_, _], _ => rfl
  d_heights_in := df_of X G (c.t.d.def_ 19 (d := d30) rfl) (c.t.d.fact 19 (f := .glo "heights_in") rfl) fun _ _ _ _ _ _ us hl => match us, hl with | [_, _], _ => rfl
  d_lines_in := df_of X G (c.t.d.def_ 20 (d := d31) rfl) (c.t.d.fact 20 (f := .glo "lines_in") rfl) fun _ _ _ _ _ _ us hl => match us, hl with | [_, _], _ => rfl
  d_line_sizes := df_of X G (c.t.d.def_ 21 (d := d32) rfl) (c.t.d.fact 21 (f := .glo "line_sizes") rfl) fun _ _ _ _ _ _ us hl => match us, hl with | [_, _], _ => rfl
  d_height_in := df_of X G (c.t.d.def_ 22 (d := d33) rfl) (c.t.d.fact 22 (f := .glo "height_in") rfl) fun _ _ _ _ _ _ us hl => match us, hl with | [_, _], _ => rfl
  d_is_span := df_of X G (c.t.d.def_ 23 (d := d34) rfl) (c.t.d.fact 23 (f := .glo "is_span") rfl) fun _ _ _ _ _ _ us hl => match us, hl with | [_, _, _, _], _ => rfl
  d_is_breaking := df_of X G (c.t.d.def_ 24 (d := d35) rfl) (c.t.d.fact 24 (f := .glo "is_breaking") rfl) fun _ _ _ _ _ _ us hl => match us, hl with | [_, _, _], _ => rfl
  d_is_chain := df_of X G (c.t.d.def_ 25 (d := d36) rfl) (c.t.d.fact 25 (f := .glo "is_chain") rfl) fun _ _ _ _ _ _ us hl => match us, hl with | [_, _, _], _ => rfl
  d_chain_above := df_of X G (c.t.d.def_ 26 (d := d37) rfl) (c.t.d.fact 26 (f := .glo "chain_above") rfl) fun _ _ _ _ _ _ us hl => match us, hl with | [_, _, _], _ => rfl
  d__law_source := df_of X G (c.t.d.def_ 27 (d := d39) rfl) (c.t.d.fact 27 (f := .glo "_law_source") rfl) fun _ _ _ _ _ _ us hl => match us, hl with | [_, _], _ => rfl
  d__law_draw := df_of X G (c.t.d.def_ 28 (d := d40) rfl) (c.t.d.fact 28 (f := .glo "_law_draw") rfl) fun _ _ _ _ _ _ us hl => match us, hl with | [_, _], _ => rfl
  d__law_pick := df_of X G (c.t.d.def_ 29 (d := d41) rfl) (c.t.d.fact 29 (f := .glo "_law_pick") rfl) fun _ _ _ _ _ _ us hl => match us, hl with | [_, _], _ => rfl
  d__law_same := df_of X G (c.t.d.def_ 30 (d := d42) rfl) (c.t.d.fact 30 (f := .glo "_law_same") rfl) fun _ _ _ _ _ _ us hl => match us, hl with | [_, _], _ => rfl
  d__law_loose := df_of X G (c.t.d.def_ 31 (d := d43) rfl) (c.t.d.fact 31 (f := .glo "_law_loose") rfl) fun _ _ _ _ _ _ us hl => match us, hl with | [_, _], _ => rfl
  d__law_some_text := df_of X G (c.t.d.def_ 32 (d := d44) rfl) (c.t.d.fact 32 (f := .glo "_law_some_text") rfl) fun _ _ _ _ _ _ us hl => match us, hl with | [_, _], _ => rfl
  d__law_some_float := df_of X G (c.t.d.def_ 33 (d := d45) rfl) (c.t.d.fact 33 (f := .glo "_law_some_float") rfl) fun _ _ _ _ _ _ us hl => match us, hl with | [_, _], _ => rfl
  d__law_some_run := df_of X G (c.t.d.def_ 34 (d := d46) rfl) (c.t.d.fact 34 (f := .glo "_law_some_run") rfl) fun _ _ _ _ _ _ us hl => match us, hl with | [_, _, _], _ => rfl
  d__law_some_room := df_of X G (c.t.d.def_ 35 (d := d47) rfl) (c.t.d.fact 35 (f := .glo "_law_some_room") rfl) fun _ _ _ _ _ _ us hl => match us, hl with | [_, _], _ => rfl
  d__law_is_float := df_of X G (c.t.d.def_ 36 (d := d48) rfl) (c.t.d.fact 36 (f := .glo "_law_is_float") rfl) fun _ _ _ _ _ _ us hl => match us, hl with | [_], _ => rfl
  d__law_met_in := df_of X G (c.t.d.def_ 37 (d := d49) rfl) (c.t.d.fact 37 (f := .glo "_law_met_in") rfl) fun _ _ _ _ _ _ us hl => match us, hl with | [_], _ => rfl
  d__law_row := df_of X G (c.t.d.def_ 38 (d := d50) rfl) (c.t.d.fact 38 (f := .glo "_law_row") rfl) fun _ _ _ _ _ _ us hl => match us, hl with | [_, _, _], _ => rfl
  d__law_lines := df_of X G (c.t.d.def_ 39 (d := d51) rfl) (c.t.d.fact 39 (f := .glo "_law_lines") rfl) fun _ _ _ _ _ _ us hl => match us, hl with | [_, _], _ => rfl
  d__law_tall := df_of X G (c.t.d.def_ 40 (d := d52) rfl) (c.t.d.fact 40 (f := .glo "_law_tall") rfl) fun _ _ _ _ _ _ us hl => match us, hl with | [_, _, _], _ => rfl
  d__law_passed := df_of X G (c.t.d.def_ 41 (d := d53) rfl) (c.t.d.fact 41 (f := .glo "_law_passed") rfl) fun _ _ _ _ _ _ us hl => match us, hl with | [_, _], _ => rfl
  d__law_is_breaking := df_of X G (c.t.d.def_ 42 (d := d54) rfl) (c.t.d.fact 42 (f := .glo "_law_is_breaking") rfl) fun _ _ _ _ _ _ us hl => match us, hl with | [_, _, _], _ => rfl
  d__law_is_chain := df_of X G (c.t.d.def_ 43 (d := d55) rfl) (c.t.d.fact 43 (f := .glo "_law_is_chain") rfl) fun _ _ _ _ _ _ us hl => match us, hl with | [_, _, _], _ => rfl
  d__law_fewest := df_of X G (c.t.d.def_ 44 (d := d56) rfl) (c.t.d.fact 44 (f := .glo "_law_fewest") rfl) fun _ _ _ _ _ _ us hl => match us, hl with | [_, _], _ => rfl
  d__law_some_breaking := df_of X G (c.t.d.def_ 45 (d := d57) rfl) (c.t.d.fact 45 (f := .glo "_law_some_breaking") rfl) fun _ _ _ _ _ _ us hl => match us, hl with | [_, _, _], _ => rfl
  d__law_bent := df_of X G (c.t.d.def_ 46 (d := d58) rfl) (c.t.d.fact 46 (f := .glo "_law_bent") rfl) fun _ _ _ _ _ _ us hl => match us, hl with | [_, _], _ => rfl
  d__law_room_right := df_of X G (c.t.d.def_ 47 (d := d59) rfl) (c.t.d.fact 47 (f := .glo "_law_room_right") rfl) fun _ _ _ _ _ _ us hl => match us, hl with | [_, _, _, _], _ => rfl
  d_law := df_of X G (c.t.d.def_ 48 (d := d60) rfl) (c.t.d.fact 48 (f := .glo "law") rfl) fun _ _ _ _ _ _ us hl => match us, hl with | [_], _ => rfl
theorem tc_of {E : En} {h : Heap} (X : E.K.In h) (G : h.Ns mainGlobals E.mg) (c : He.SaysX fa fn ts [] ex E.w h E.K) : Tc E :=
  { tx_of X G c with
    c_SIGNS := cst_str X G (c.t.d.facts (f := .str "SIGNS" signD) (by unfold fa; exact List.mem_append_right _ List.mem_cons_self))
    c_SIDES := cst_tup X G (c.t.d.facts (f := .glo "SIDES") (by unfold fa; exact List.mem_append_right _ (List.mem_cons_of_mem _ List.mem_cons_self))) c.more fun p S H => .cons (.str _) (.cons (.str _) .nil) }
end Law
open PySem PySem.W PySem.Calls PyProof.Rows
theorem PySem.Challenge.cw_pagefall_k44_whole_lines_holds : PySem.Challenge.rw_pagefall_k44_whole_lines.Holds := by
  w_on; o_law
  refine HandSHeadRun.head_any (r := OpenLaw.row PySem.Challenge.rw_pagefall_k44_whole_lines) (q := Law.qv) (H := Law.hk) (ob := Law.ob) (M := 6000) (loose := Law.loose) (d := HandSHeadRun.topDef (OpenLaw.row PySem.Challenge.rw_pagefall_k44_whole_lines).prog 60) (kwd := []) Law.ob_eq
    (by kernel_rfl) (fun s => by kernel_rfl) Law.run (by kernel_rfl) (by kernel_rfl) (by kernel_rfl) (by rfl) (by first | assumption | decide +kernel) (by decide +kernel) ⟨rfl, rfl, rfl, rfl, rfl, by decide +kernel⟩ ?hw ?hc
  case hw => w_witness2
  case hc =>
    refine L2.walk_ofE (l := PySem.Challenge.rw_pagefall_k44_whole_lines) (n := 63) (k := 10) (x := "_law_script") (CX := L2.CX0) rfl (by decide) (by kernel_rfl) ⟨rfl, by decide, by decide⟩ ?F (fun _ _ _ _ z => z)
    intro w mg fa h Y G hmg0
    obtain ⟨K, KX, c⟩ := Y
    have hmg : mg ("law" : PySem.Str) = some (.ref fa) := by
      have e : (HandSHeadRun.topDef (OpenLaw.row PySem.Challenge.rw_pagefall_k44_whole_lines).prog 60).name = ("law" : PySem.Str) := by kernel_rfl
      rw [← e]
      exact hmg0
    obtain ⟨fd, F⟩ := c.t.d.def_ 48 (d := Law.d60) rfl
    have e := hmg.symm.trans (He.glo_ok KX G (c.t.d.fact 48 (f := .glo "law") rfl))
    cases e
    have b := L2.FunD.bindsA (ps := ["_law_script"]) F fun _ _ _ _ _ _ us hl => match us, hl with | [_], _ => rfl
    refine ⟨K, fd, Gh.spLaw K, KX, fun s v => b s [v] rfl, fun H a ns hl _ hS => Gh.law_in hl hS, fun base KB GB => ?_⟩
    exact Gh.law_ok (E := ⟨(PySem.Challenge.rw_pagefall_k44_whole_lines).prog, w, K, mg, base⟩) (st := Law.t_law) (Gh.fun_of F) Law.sc_law fun ns hl => Law.law_body (Law.tc_of (E := ⟨(PySem.Challenge.rw_pagefall_k44_whole_lines).prog, w, K, mg, base⟩) KX G c) hl
