import PyProof.Rows.All
import Wide.All
import OpenK.AllK
import Wide.FinOn
import HandS.ForMost
import HandS.WordsExc
import HandS.HeadHook1
import HandS.TupAny
import KE.DataEq
import HandS.Style
import HandS.Text
import HandS.TryOnly
import HandS.HeadHook2
import HandS.Lambda
import HandS.IsInst
import KE.KStateDown
import HandS.Head0
import HandS.Head1
import HandS.Head2
import HandS.HeadEnd
import HandS.HeadHook4
import KE.GoesMore
import HandS.Zip
import HandS.SortInts
import HandS.SortRule
import KE.KRevSl
import HandS.Dict
import HandS.Conv
import KE.KDictDisplayH
import KE.KDictPairs
import HandS.SortOrd
import HandS.Deep
import HandS.ExcIs
import HandS.HeadWalk
import KE.KNestM
import HandS.TupSets
import KE.KMinKey
import PyProof.WalksMore
import KE.DataFind
import PySem.Challenge.RW_lookhalls_k31_whole_slyest
set_option Elab.async false
set_option linter.all false
set_option maxRecDepth 100000
set_option maxHeartbeats 1000000
/-! DL1: plain data, its place in the abstract heap, frames, the judgements. -/
namespace DL
open PySem PySem.Spec PyProof.Rows L2

inductive D where
  | non | bl (b : Bool) | int (i : Int) | str (x : Str) | tup (ds : List D) | lst (ds : List D) | dic (kvs : List (List Key × D)) | obj (C : Str) (fs : List (Str × D)) | scr (ns : List Int) | gtup (ds : List D) | opq (a : Addr)

inductive Res (α : Type) where
  | ok (a : α) | err (c : Str) | stuck
def Res.bind {α β : Type} (r : Res α) (k : α → Res β) : Res β := match r with
  | .ok a => k a
  | .err c => .err c
  | .stuck => .stuck
def Res.of {α : Type} : Option α → Res α
  | some a => .ok a
  | none => .stuck

mutual
inductive Rp (K : PySem.W.Frag) (H : Hp) : V → D → Prop
  | non : Rp K H .non .non
  | bl (b : Bool) : Rp K H (.bl b) (.bl b)
  | int (i : Int) : Rp K H (.int i) (.int i)
  | str (x : Str) : Rp K H (.str x) (.str x)
  | tup {a : Addr} {xs : List V} {ds : List D} : H a = some (.tup xs) → RpL K H xs ds → Rp K H (.ref a) (.tup ds)
  | gtup {a : Addr} {xs : List V} {ds : List D} : SqT K (fun _ => none) a xs → RpL K H xs ds → Rp K H (.ref a) (.gtup ds)
  | lst {a : Addr} {xs : List V} {ds : List D} : H a = some (.lst xs) → RpL K H xs ds → Rp K H (.ref a) (.lst ds)
  | scr {a : Addr} {ns : List Int} : SqL K H a (ns.map V.int) → Rp K H (.ref a) (.scr ns)
  | opq (a : Addr) : Rp K H (.ref a) (.opq a)
  | dic {a : Addr} {kvs : List (List Key × V)} {kds : List (List Key × D)} : H a = some (.dT kvs) → RpK K H kvs kds → Rp K H (.ref a) (.dic kds)
  | obj {a dx : Addr} {cn : Str} {fs : List (Str × V)} {gs : List (Str × D)} : H a = some (.ins (He.ga K cn) dx fs) → RpF K H fs gs → Rp K H (.ref a) (.obj cn gs)
inductive RpL (K : PySem.W.Frag) (H : Hp) : List V → List D → Prop
  | nil : RpL K H [] []
  | cons {v : V} {vs : List V} {d : D} {ds : List D} : Rp K H v d → RpL K H vs ds → RpL K H (v :: vs) (d :: ds)
inductive RpK (K : PySem.W.Frag) (H : Hp) : List (List Key × V) → List (List Key × D) → Prop
  | nil : RpK K H [] []
  | cons {k : List Key} {v : V} {vs : List (List Key × V)} {d : D} {ds : List (List Key × D)} : Rp K H v d → RpK K H vs ds → RpK K H ((k, v) :: vs) ((k, d) :: ds)
inductive RpF (K : PySem.W.Frag) (H : Hp) : List (Str × V) → List (Str × D) → Prop
  | nil : RpF K H [] []
  | cons {k : Str} {v : V} {vs : List (Str × V)} {d : D} {ds : List (Str × D)} : Rp K H v d → RpF K H vs ds → RpF K H ((k, v) :: vs) ((k, d) :: ds)
end

/-- all but tables stay -/
def Ex (H H' : Hp) : Prop := ∀ b o, H b = some o → (∀ ps, o ≠ .tbl ps) → H' b = some o
theorem Ex.refl (H : Hp) : Ex H H := fun _ _ e _ => e
theorem Ex.trans {H H1 H2 : Hp} (a : Ex H H1) (b : Ex H1 H2) : Ex H H2 := fun c o e n => b c o (a c o e n) n
theorem Ex.of {H H' : Hp} (s : Same H H') : Ex H H' := fun b o e _ => s b o e
theorem Ex.rd {H H' : Hp} (x : Ex H H') {a : Addr} {u : HO} (r : Rd H a u) (n : ∀ ps, u ≠ .tbl ps) : Rd H' a u := by
  rcases r with r | ⟨o, r⟩
  · exact .inl (x _ _ r n)
  · exact .inr ⟨o, x _ _ r fun ps z => by cases z⟩
theorem Ex.sqT {K : PySem.W.Frag} {H H' : Hp} (x : Ex H H') {a : Addr} {xs : List V} (h : SqT K H a xs) : SqT K H' a xs := by
  rcases h with h | h
  · exact .inl (x.rd h fun ps z => by cases z)
  · exact .inr h
theorem Ex.sqL {K : PySem.W.Frag} {H H' : Hp} (x : Ex H H') {a : Addr} {xs : List V} (h : SqL K H a xs) : SqL K H' a xs := by
  rcases h with h | h
  · exact .inl (x.rd h fun ps z => by cases z)
  · exact .inr h
mutual
theorem Rp.ex {K : PySem.W.Frag} {H H' : Hp} (x : Ex H H') : ∀ {v : V} {d : D}, Rp K H v d → Rp K H' v d
  | _, _, .non => .non
  | _, _, .bl b => .bl b
  | _, _, .int i => .int i
  | _, _, .str z => .str z
  | _, _, .tup h r => .tup (x _ _ h fun ps z => by cases z) (RpL.ex x r)
  | _, _, .gtup h r => .gtup h (RpL.ex x r)
  | _, _, .lst h r => .lst (x _ _ h fun ps z => by cases z) (RpL.ex x r)
  | _, _, .scr h => .scr (x.sqL h)
  | _, _, .opq a => .opq a
  | _, _, .dic h r => .dic (x _ _ h fun ps z => by cases z) (RpK.ex x r)
  | _, _, .obj h r => .obj (x _ _ h fun ps z => by cases z) (RpF.ex x r)
theorem RpL.ex {K : PySem.W.Frag} {H H' : Hp} (x : Ex H H') : ∀ {v : List V} {d : List D}, RpL K H v d → RpL K H' v d
  | _, _, .nil => .nil
  | _, _, .cons h r => .cons (Rp.ex x h) (RpL.ex x r)
theorem RpK.ex {K : PySem.W.Frag} {H H' : Hp} (x : Ex H H') : ∀ {v : List (List Key × V)} {d : List (List Key × D)}, RpK K H v d → RpK K H' v d
  | _, _, .nil => .nil
  | _, _, .cons h r => .cons (Rp.ex x h) (RpK.ex x r)
theorem RpF.ex {K : PySem.W.Frag} {H H' : Hp} (x : Ex H H') : ∀ {v : List (Str × V)} {d : List (Str × D)}, RpF K H v d → RpF K H' v d
  | _, _, .nil => .nil
  | _, _, .cons h r => .cons (Rp.ex x h) (RpF.ex x r)
end
theorem RpL.len {K : PySem.W.Frag} {H : Hp} : ∀ {v : List V} {d : List D}, RpL K H v d → v.length = d.length
  | _, _, .nil => rfl
  | _, _, .cons _ r => by rw [List.length_cons, List.length_cons, RpL.len r]
theorem RpL.get {K : PySem.W.Frag} {H : Hp} : ∀ {v : List V} {d : List D} {i : Nat} {x : D}, RpL K H v d → d[i]? = some x → ∃ y, v[i]? = some y ∧ Rp K H y x
  | _, _, _, _, .nil, e => by simp at e
  | _, _, 0, _, .cons h _, e => by
    simp at e
    subst e
    exact ⟨_, rfl, h⟩
  | _, _, i + 1, x, .cons _ r, e => by
    obtain ⟨y, h1, h2⟩ := RpL.get (i := i) (x := x) r (by simpa using e)
    exact ⟨y, by simpa using h1, h2⟩
theorem RpL.get' {K : PySem.W.Frag} {H : Hp} : ∀ {v : List V} {d : List D} {i : Nat} {y : V}, RpL K H v d → v[i]? = some y → ∃ x, d[i]? = some x ∧ Rp K H y x
  | _, _, _, _, .nil, e => by simp at e
  | _, _, 0, _, .cons h _, e => by
    simp at e
    subst e
    exact ⟨_, rfl, h⟩
  | _, _, i + 1, x, .cons _ r, e => by
    obtain ⟨y, h1, h2⟩ := RpL.get' (i := i) (y := x) r (by simpa using e)
    exact ⟨y, by simpa using h1, h2⟩
theorem RpL.app {K : PySem.W.Frag} {H : Hp} : ∀ {v v' : List V} {d d' : List D}, RpL K H v d → RpL K H v' d' → RpL K H (v ++ v') (d ++ d')
  | _, _, _, _, .nil, s => s
  | _, _, _, _, .cons h r, s => .cons h (RpL.app r s)
theorem RpL.take {K : PySem.W.Frag} {H : Hp} : ∀ {v : List V} {d : List D} (n : Nat), RpL K H v d → RpL K H (v.take n) (d.take n)
  | _, _, 0, _ => .nil
  | _, _, _ + 1, .nil => .nil
  | _, _, n + 1, .cons h r => .cons h (RpL.take n r)
theorem RpL.drop {K : PySem.W.Frag} {H : Hp} : ∀ {v : List V} {d : List D} (n : Nat), RpL K H v d → RpL K H (v.drop n) (d.drop n)
  | _, _, 0, r => r
  | _, _, _ + 1, .nil => .nil
  | _, _, n + 1, .cons _ r => RpL.drop n r
theorem RpL.rev {K : PySem.W.Frag} {H : Hp} : ∀ {v : List V} {d : List D}, RpL K H v d → RpL K H v.reverse d.reverse
  | _, _, .nil => .nil
  | _, _, .cons h r => by
    rw [List.reverse_cons, List.reverse_cons]
    exact (RpL.rev r).app (.cons h .nil)
theorem RpL.set {K : PySem.W.Frag} {H : Hp} {x : V} {y : D} (q : Rp K H x y) : ∀ {v : List V} {d : List D} (n : Nat), RpL K H v d → RpL K H (v.set n x) (d.set n y)
  | _, _, _, .nil => .nil
  | _, _, 0, .cons h r => .cons q r
  | _, _, n + 1, .cons h r => .cons h (RpL.set q n r)

/-! ### hidden addresses -/
def hide (H : Hp) (S : List Addr) : Hp := fun b => if b ∈ S then none else H b
theorem hide_in {H : Hp} {S : List Addr} {b : Addr} {o : HO} (e : hide H S b = some o) : b ∉ S ∧ H b = some o := by
  unfold hide at e
  by_cases c : b ∈ S
  · rw [if_pos c] at e
    cases e
  · rw [if_neg c] at e
    exact ⟨c, e⟩
theorem hide_of {H : Hp} {S : List Addr} {b : Addr} (n : b ∉ S) : hide H S b = H b := by
  unfold hide
  rw [if_neg n]
theorem hide_ex {H : Hp} {S : List Addr} : Ex (hide H S) H := fun b o e _ => (hide_in e).2
theorem hide_mono {H H' : Hp} (x : Ex H H') (S : List Addr) : Ex (hide H S) (hide H' S) := fun b o e n => by
  obtain ⟨h1, h2⟩ := hide_in e
  rw [hide_of h1]
  exact x b o h2 n
theorem hide_upd {H : Hp} {S : List Addr} {a : Addr} {o : HO} (h : a ∈ S) : hide (upd H a o) S = hide H S := by
  funext b
  unfold hide
  by_cases c : b ∈ S
  · rw [if_pos c, if_pos c]
  · rw [if_neg c, if_neg c, upd_ne]
    intro e
    rw [e] at c
    exact c h
theorem hide_less {H : Hp} {S S' : List Addr} (h : ∀ a ∈ S', a ∈ S) : Ex (hide H S) (hide H S') := fun b o e _ => by
  obtain ⟨h1, h2⟩ := hide_in e
  rw [hide_of (fun c => h1 (h b c))]
  exact h2

/-! ### how a heap may grow -/
/-- free, or a table -/
def Nt (H : Hp) (p : Addr) : Prop := ∀ o, H p = some o → ∃ ps, o = .tbl ps
theorem Nt.of {H : Hp} {p : Addr} (h : H p = none) : Nt H p := fun o e => by
  rw [h] at e
  cases e
theorem Nt.no {H : Hp} {p : Addr} {o : HO} (n : Nt H p) (e : H p = some o) (m : ∀ ps, o ≠ .tbl ps) : False := by
  obtain ⟨ps, z⟩ := n o e
  exact m ps z
/-- an object that its owner may change -/
inductive Mut : HO → Prop
  | lst (xs : List V) : Mut (.lst xs)
  | dT (kvs : List (List Key × V)) : Mut (.dT kvs)
  | ins (C dx : Addr) (fs : List (Str × V)) : Mut (.ins C dx fs)
theorem Mut.nt {o : HO} (m : Mut o) (ps : Array Value) : o ≠ .tbl ps := by
  cases m <;> intro z <;> cases z
/-- a new object: it may be hidden too -/
theorem hide_new {H H' : Hp} {S : List Addr} {p : Addr} (x : Ex H H') (hp : Nt H p) : Ex (hide H S) (hide H' (p :: S)) := fun b o e n => by
  obtain ⟨h1, h2⟩ := hide_in e
  rw [hide_of]
  · exact x b o h2 n
  · intro c
    rcases List.mem_cons.mp c with c | c
    · rw [c] at h2
      exact hp.no h2 n
    · exact h1 c
structure Grow (G : Hp → Hp → Prop) : Prop where
  refl : ∀ H, G H H
  trans : ∀ {H H1 H2}, G H H1 → G H1 H2 → G H H2
  same : ∀ {H H'}, Same H H' → G H H'
  ex : ∀ {H H'}, G H H' → Ex H H'
  dom : ∀ {H H' b}, G H H' → Nt H' b → Nt H b
  mu : ∀ {H0 H a o o'}, G H0 H → Nt H0 a → H a = some o → Mut o → G H0 (upd H a o')
theorem grow_same : Grow Same where
  refl := Same.refl
  trans := Same.trans
  same := fun s => s
  ex := Ex.of
  dom := fun s n o e => n o (s _ o e)
  mu := fun {H0 H a o o'} s n ha m b u e => by
    have nb : b ≠ a := fun z => by
      subst z
      obtain ⟨ps, rfl⟩ := n u e
      rw [s b _ e] at ha
      cases ha
      exact m.nt ps rfl
    rw [upd_ne nb]
    exact s b u e

/-- a frame: how the heap grows from its entry H0, what is hidden from it, what is wanted of an exception -/
structure Fm where
  G : Hp → Hp → Prop
  gr : Grow G
  S0 : List Addr
  I : Hp → Prop
  W : Addr → Prop
  E : XK
  up : ∀ {H H'}, I H → G H H' → I H'
  mu : ∀ {H a o o'}, I H → W a → H a = some o → Mut o → I (upd H a o')
  fresh : ∀ {H p}, I H → Nt H p → W p
/-- the frame that begins at a heap, and changes but what is new -/
abbrev Fm.std (G : Hp → Hp → Prop) (gr : Grow G) (S0 : List Addr) (H0 : Hp) (E : XK) : Fm := ⟨G, gr, S0, G H0, Nt H0, E, fun a b => gr.trans a b, fun a n h m => gr.mu a n h m, fun a n => gr.dom a n⟩
abbrev Fm.nox (F : Fm) : Fm := { F with E := fun _ _ _ => False }

/-- trees of own objects: lists of such, keepers -/
inductive Tr where
  | lf (d : D) | ls (ts : List Tr) | kp (ds : List D)
inductive Slot where
  | no | fz (d : D) | ow (d : D) | tr (t : Tr)
abbrev Rho := List Slot

/-- an object of the frame's own at a hidden place -/
inductive Own (K : PySem.W.Frag) (S : List Addr) (H : Hp) : V → D → Prop
  | lst {a : Addr} {xs : List V} {ds : List D} : a ∈ S → H a = some (.lst xs) → RpL K (hide H S) xs ds → Own K S H (.ref a) (.lst ds)
  | dic {a : Addr} {kvs : List (List Key × V)} {kds : List (List Key × D)} : a ∈ S → H a = some (.dT kvs) → RpK K (hide H S) kvs kds → Own K S H (.ref a) (.dic kds)
mutual
/-- a tree of own objects, and where they lie -/
inductive OwT (K : PySem.W.Frag) (S : List Addr) (H : Hp) : V → Tr → List Addr → Prop
  | lf {v : V} {d : D} : Rp K (hide H S) v d → OwT K S H v (.lf d) []
  | ls {a : Addr} {xs : List V} {ts : List Tr} {A : List Addr} : a ∈ S → H a = some (.lst xs) → OwTL K S H xs ts A → OwT K S H (.ref a) (.ls ts) (a :: A)
  | kp {a l dx : Addr} {xs : List V} {ds : List D} : a ∈ S → l ∈ S → H a = some (.ins (He.ga K "Keeper") dx [("stands", .ref l)]) → H l = some (.lst xs) → RpL K (hide H S) xs ds → OwT K S H (.ref a) (.kp ds) [a, l]
inductive OwTL (K : PySem.W.Frag) (S : List Addr) (H : Hp) : List V → List Tr → List Addr → Prop
  | nil : OwTL K S H [] [] []
  | cons {v : V} {vs : List V} {t : Tr} {ts : List Tr} {A B : List Addr} : OwT K S H v t A → OwTL K S H vs ts B → OwTL K S H (v :: vs) (t :: ts) (A ++ B)
end
def SlotOk (K : PySem.W.Frag) (S : List Addr) (H : Hp) : Option V → Slot → Prop
  | _, .no => True
  | o, .fz d => ∃ v, o = some v ∧ Rp K (hide H S) v d
  | o, .ow d => ∃ v, o = some v ∧ Own K S H v d
  | _, .tr _ => True
/-- not at a slot's own object -/
def NoOw (σ : L2.St) (ρ : Rho) (b : Addr) : Prop := ∀ (i : Nat) (d : D), ρ[i]? = some (.ow d) → σ[i]? ≠ some (some (.ref b))
/-- the trees of own objects in the slots -/
def TrOk (K : PySem.W.Frag) (F : Fm) (S : List Addr) (σ : L2.St) (H : Hp) (ρ : Rho) : Prop := ∃ fp : Nat → List Addr,
  (∀ (i : Nat) (t : Tr), ρ[i]? = some (.tr t) → ∃ v, σ[i]? = some (some v) ∧ OwT K S H v t (fp i) ∧ (fp i).Nodup ∧ ∀ a ∈ fp i, a ∉ F.S0 ∧ NoOw σ ρ a) ∧
  (∀ (i j : Nat) (t u : Tr) (a : Addr), ρ[i]? = some (.tr t) → ρ[j]? = some (.tr u) → a ∈ fp i → a ∈ fp j → i = j)

structure EnvOk (K : PySem.W.Frag) (F : Fm) (S : List Addr) (σ : L2.St) (H : Hp) (ρ : Rho) : Prop where
  grow : F.I H
  base : ∀ a ∈ F.S0, a ∈ S
  new : ∀ a ∈ S, a ∈ F.S0 ∨ F.W a
  sdom : ∀ a ∈ S, ∃ o, H a = some o ∧ Mut o
  len : σ.length = ρ.length
  slots : ∀ (i : Nat) (s : Slot), ρ[i]? = some s → ∃ o, σ[i]? = some o ∧ SlotOk K S H o s
  dist : ∀ (i j : Nat) (di dj : D) (a : Addr), ρ[i]? = some (.ow di) → ρ[j]? = some (.ow dj) → σ[i]? = some (some (.ref a)) → σ[j]? = some (some (.ref a)) → i = j
  nown : ∀ (i : Nat) (di : D) (a : Addr), ρ[i]? = some (.ow di) → σ[i]? = some (some (.ref a)) → a ∉ F.S0
  trs : TrOk K F S σ H ρ
/-! ### trees stay -/
mutual
theorem OwT.sub {K : PySem.W.Frag} {S : List Addr} {H : Hp} : ∀ {v : V} {t : Tr} {A : List Addr}, OwT K S H v t A → ∀ b ∈ A, b ∈ S ∧ ∃ o, H b = some o ∧ Mut o
  | _, _, _, .lf _, b, h => by cases h
  | _, _, _, .ls h1 h2 h3, b, h => by
    rcases List.mem_cons.mp h with rfl | h
    · exact ⟨h1, _, h2, .lst _⟩
    · exact OwTL.sub h3 b h
  | _, _, _, .kp h1 h2 h3 h4 _, b, h => by
    rcases List.mem_cons.mp h with rfl | h
    · exact ⟨h1, _, h3, .ins _ _ _⟩
    · rw [List.mem_singleton] at h
      subst h
      exact ⟨h2, _, h4, .lst _⟩
theorem OwTL.sub {K : PySem.W.Frag} {S : List Addr} {H : Hp} : ∀ {v : List V} {t : List Tr} {A : List Addr}, OwTL K S H v t A → ∀ b ∈ A, b ∈ S ∧ ∃ o, H b = some o ∧ Mut o
  | _, _, _, .nil, b, h => by cases h
  | _, _, _, .cons h1 h2, b, h => by
    rcases List.mem_append.mp h with h | h
    · exact OwT.sub h1 b h
    · exact OwTL.sub h2 b h
end
mutual
theorem OwT.move {K : PySem.W.Frag} {S S' : List Addr} {H H' : Hp} (x : Ex (hide H S) (hide H' S')) : ∀ {v : V} {t : Tr} {A : List Addr}, OwT K S H v t A → (∀ b o, b ∈ A → b ∈ S → H b = some o → Mut o → b ∈ S' ∧ H' b = some o) → OwT K S' H' v t A
  | _, _, _, .lf r, _ => .lf (r.ex x)
  | _, _, _, .ls h1 h2 h3, q => by
    obtain ⟨q1, q2⟩ := q _ _ (List.mem_cons_self ..) h1 h2 (.lst _)
    exact .ls q1 q2 (OwTL.move x h3 fun b o hb => q b o (List.mem_cons_of_mem _ hb))
  | _, _, _, .kp h1 h2 h3 h4 h5, q => by
    obtain ⟨q1, q2⟩ := q _ _ (List.mem_cons_self ..) h1 h3 (.ins _ _ _)
    obtain ⟨q3, q4⟩ := q _ _ (List.mem_cons_of_mem _ (List.mem_cons_self ..)) h2 h4 (.lst _)
    exact .kp q1 q3 q2 q4 (h5.ex x)
theorem OwTL.move {K : PySem.W.Frag} {S S' : List Addr} {H H' : Hp} (x : Ex (hide H S) (hide H' S')) : ∀ {v : List V} {t : List Tr} {A : List Addr}, OwTL K S H v t A → (∀ b o, b ∈ A → b ∈ S → H b = some o → Mut o → b ∈ S' ∧ H' b = some o) → OwTL K S' H' v t A
  | _, _, _, .nil, _ => .nil
  | _, _, _, .cons h1 h2, q => .cons (OwT.move x h1 fun b o hb => q b o (List.mem_append_left _ hb)) (OwTL.move x h2 fun b o hb => q b o (List.mem_append_right _ hb))
end
theorem TrOk.none {K : PySem.W.Frag} {F : Fm} {S : List Addr} {σ : L2.St} {H : Hp} {ρ : Rho} (h : ∀ (i : Nat) (t : Tr), ρ[i]? ≠ some (.tr t)) : TrOk K F S σ H ρ :=
  ⟨fun _ => [], fun i t e => absurd e (h i t), fun i j t u a e => absurd e (h i t)⟩
/-- trees in other surroundings -/
theorem TrOk.move {K : PySem.W.Frag} {F F' : Fm} {S S' : List Addr} {σ σ' : L2.St} {H H' : Hp} {ρ ρ' : Rho} (h : TrOk K F S σ H ρ) (x : Ex (hide H S) (hide H' S')) (hb : ∀ b o, b ∈ S → H b = some o → Mut o → NoOw σ ρ b → b ∉ F.S0 → b ∈ S' ∧ H' b = some o)
    (hr : ∀ (i : Nat) (t : Tr), ρ'[i]? = some (.tr t) → ρ[i]? = some (.tr t) ∧ σ'[i]? = σ[i]?) (hs : ∀ a, a ∈ S → a ∉ F.S0 → NoOw σ ρ a → a ∉ F'.S0)
    (hw : ∀ (i : Nat) (d : D) (a : Addr), ρ'[i]? = some (.ow d) → σ'[i]? = some (some (.ref a)) → a ∉ S ∨ ∃ (j : Nat) (d' : D), ρ[j]? = some (.ow d') ∧ σ[j]? = some (some (.ref a))) : TrOk K F' S' σ' H' ρ' := by
  obtain ⟨fp, h1, h2⟩ := h
  refine ⟨fp, fun i t e => ?_, fun i j t u a e1 e2 => h2 i j t u a (hr i t e1).1 (hr j u e2).1⟩
  obtain ⟨e1, e2⟩ := hr i t e
  obtain ⟨v, q1, q2, q3, q4⟩ := h1 i t e1
  refine ⟨v, by rw [e2]; exact q1, q2.move x fun b o hbA hbS ho m => hb b o hbS ho m (q4 b hbA).2 (q4 b hbA).1, q3, fun a ha => ⟨hs a (q2.sub a ha).1 (q4 a ha).1 (q4 a ha).2, fun j d e3 e4 => ?_⟩⟩
  rcases hw j d a e3 e4 with z | ⟨j', d', z1, z2⟩
  · exact z (q2.sub a ha).1
  · exact (q4 a ha).2 j' d' z1 z2
theorem set_tr {ρ : Rho} {i j : Nat} {s : Slot} {t : Tr} (e : (ρ.set i s)[j]? = some (.tr t)) (n : ∀ u, s ≠ .tr u) : i ≠ j ∧ ρ[j]? = some (.tr t) := by
  by_cases c : i = j
  · subst c
    have hl : i < ρ.length := by
      have := (List.getElem?_eq_some_iff.mp e).1
      rwa [List.length_set] at this
    rw [List.getElem?_set_self hl] at e
    exact absurd (Option.some.inj e) (n t)
  · rw [List.getElem?_set_ne c] at e
    exact ⟨c, e⟩

theorem Own.grow {K : PySem.W.Frag} {S : List Addr} {H H' : Hp} (x : Ex H H') {v : V} {d : D} (o : Own K S H v d) : Own K S H' v d := by
  cases o with
  | lst h1 h2 h3 => exact .lst h1 (x _ _ h2 fun ps z => by cases z) (h3.ex (hide_mono x S))
  | dic h1 h2 h3 => exact .dic h1 (x _ _ h2 fun ps z => by cases z) (h3.ex (hide_mono x S))
theorem SlotOk.grow {K : PySem.W.Frag} {S : List Addr} {H H' : Hp} (x : Ex H H') {o : Option V} {s : Slot} (h : SlotOk K S H o s) : SlotOk K S H' o s := by
  cases s with
  | no => trivial
  | fz d =>
    obtain ⟨v, e, r⟩ := h
    exact ⟨v, e, r.ex (hide_mono x S)⟩
  | ow d =>
    obtain ⟨v, e, r⟩ := h
    exact ⟨v, e, r.grow x⟩
  | tr t => trivial
section
variable {K : PySem.W.Frag} {F : Fm} {S : List Addr} {σ : L2.St} {H H' : Hp} {ρ : Rho}
theorem EnvOk.up (ok : EnvOk K F S σ H ρ) (g : F.G H H') : EnvOk K F S σ H' ρ where
  grow := F.up ok.grow g
  base := ok.base
  new := ok.new
  sdom := fun a h => by
    obtain ⟨o, e, n⟩ := ok.sdom a h
    exact ⟨o, F.gr.ex g a o e n.nt, n⟩
  len := ok.len
  slots := fun i s e => by
    obtain ⟨o, h1, h2⟩ := ok.slots i s e
    exact ⟨o, h1, h2.grow (F.gr.ex g)⟩
  dist := ok.dist
  nown := ok.nown
  trs := ok.trs.move (hide_mono (F.gr.ex g) S) (fun b o hb ho m _ _ => ⟨hb, F.gr.ex g b o ho m.nt⟩) (fun i t e => ⟨e, rfl⟩) (fun a _ h _ => h) fun i d a e1 e2 => .inr ⟨i, d, e1, e2⟩
theorem EnvOk.fresh (ok : EnvOk K F S σ H ρ) {p : Addr} (h : Nt H p) : p ∉ S := fun c => by
  obtain ⟨o, e, m⟩ := ok.sdom p c
  exact h.no e m.nt
theorem EnvOk.lt (ok : EnvOk K F S σ H ρ) {i : Nat} {s : Slot} (h : ρ[i]? = some s) : i < σ.length := by
  rw [ok.len]
  exact (List.getElem?_eq_some_iff.mp h).1
/-- a frozen value is stored -/
theorem EnvOk.set (ok : EnvOk K F S σ H ρ) (i : Nat) {v : V} {d : D} (r : Rp K (hide H S) v d) : EnvOk K F S (σ.set i (some v)) H (ρ.set i (.fz d)) where
  grow := ok.grow
  base := ok.base
  new := ok.new
  sdom := ok.sdom
  len := by rw [List.length_set, List.length_set, ok.len]
  slots := fun j s e => by
    by_cases c : i = j
    · subst c
      have hl : i < ρ.length := by
        have := (List.getElem?_eq_some_iff.mp e).1
        rwa [List.length_set] at this
      rw [List.getElem?_set_self hl] at e
      cases e
      rw [List.getElem?_set_self (by rw [ok.len]; exact hl)]
      exact ⟨_, rfl, v, rfl, r⟩
    · rw [List.getElem?_set_ne c] at e
      rw [List.getElem?_set_ne c]
      exact ok.slots j s e
  dist := fun j k dj dk a h1 h2 h3 h4 => by
    by_cases c : i = j
    · subst c
      have hl : i < ρ.length := by
        have := (List.getElem?_eq_some_iff.mp h1).1
        rwa [List.length_set] at this
      rw [List.getElem?_set_self hl] at h1
      cases h1
    · by_cases c' : i = k
      · subst c'
        have hl : i < ρ.length := by
          have := (List.getElem?_eq_some_iff.mp h2).1
          rwa [List.length_set] at this
        rw [List.getElem?_set_self hl] at h2
        cases h2
      · rw [List.getElem?_set_ne c] at h1 h3
        rw [List.getElem?_set_ne c'] at h2 h4
        exact ok.dist j k dj dk a h1 h2 h3 h4
  nown := fun j dj a h1 h2 => by
    by_cases c : i = j
    · subst c
      have hl : i < ρ.length := by
        have := (List.getElem?_eq_some_iff.mp h1).1
        rwa [List.length_set] at this
      rw [List.getElem?_set_self hl] at h1
      cases h1
    · rw [List.getElem?_set_ne c] at h1 h2
      exact ok.nown j dj a h1 h2
  trs := ok.trs.move (Ex.refl _) (fun b o hb ho _ _ _ => ⟨hb, ho⟩) (fun j t e => by
      obtain ⟨c, e'⟩ := set_tr e fun u z => by cases z
      exact ⟨e', List.getElem?_set_ne c⟩) (fun a _ h _ => h) fun j dj a e1 e2 => by
    by_cases c : i = j
    · subst c
      have hl : i < ρ.length := by
        have := (List.getElem?_eq_some_iff.mp e1).1
        rwa [List.length_set] at this
      rw [List.getElem?_set_self hl] at e1
      cases e1
    · rw [List.getElem?_set_ne c] at e1 e2
      exact .inr ⟨j, dj, e1, e2⟩
end
end DL

set_option Elab.async false
set_option linter.all false
set_option maxRecDepth 100000
set_option maxHeartbeats 1000000
/-! DL2: kinds of results, data operations, expressions. -/
namespace DL
open PySem PySem.Spec PyProof.Rows L2

/-! ### kinds of results -/
structure Kd (F : Fm) (α β : Type) where
  post : List Addr → Hp → (α → Hp → Prop) → β → Prop
  mono : ∀ {S H H1 Q d}, F.G H H1 → post S H Q d → post S H1 Q d
def PostK (K : PySem.W.Frag) {F : Fm} {α β : Type} (k : Kd F α β) (S : List Addr) (H : Hp) (Q : α → Hp → Prop) : Res β → Prop
  | .ok d => k.post S H Q d
  | .err c => ∀ H', F.I H' → F.E (.ref (He.ga K c)) none H'
  | .stuck => False
theorem PostK.mono {K : PySem.W.Frag} {F : Fm} {α β : Type} {k : Kd F α β} {S : List Addr} {H H1 : Hp} {Q : α → Hp → Prop} {r : Res β} (h : PostK K k S H Q r) (g : F.G H H1) : PostK K k S H1 Q r := by
  cases r with
  | ok d => exact k.mono g h
  | err c => exact h
  | stuck => exact h
def tK (K : PySem.W.Frag) {F : Fm} {α β : Type} (k : Kd F α β) (s : Rho → Res β) : L2.St → Hp → (α → Hp → Prop) → Prop :=
  fun σ H Q => ∃ S ρ, EnvOk K F S σ H ρ ∧ PostK K k S H Q (s ρ)
theorem post_bind {K : PySem.W.Frag} {F : Fm} {α β α' γ : Type} {sa : Res β} {k : β → Res γ} {kc : Kd F α' γ} {ka : Kd F α β} {S : List Addr} {H : Hp} {Q : α' → Hp → Prop} {Q' : α → Hp → Prop}
    (h : PostK K kc S H Q (sa.bind k)) (hn : ∀ d, sa = .ok d → PostK K kc S H Q (k d) → ka.post S H Q' d) : PostK K ka S H Q' sa := by
  cases sa with
  | ok d => exact hn d rfl h
  | err c => exact h
  | stuck => exact h

/-- a value that may be the frame's own list or dict -/
def RpB (K : PySem.W.Frag) (S : List Addr) (H : Hp) (v : V) (d : D) : Prop := Rp K (hide H S) v d ∨ Own K S H v d
theorem RpB.up {K : PySem.W.Frag} {S : List Addr} {H H' : Hp} (x : Ex H H') {v : V} {d : D} (h : RpB K S H v d) : RpB K S H' v d := by
  rcases h with h | h
  · exact .inl (h.ex (hide_mono x S))
  · exact .inr (h.grow x)

def kdV (K : PySem.W.Frag) (F : Fm) : Kd F V D := ⟨fun S H Q d => ∀ v H', F.G H H' → Rp K (hide H' S) v d → Q v H', fun g h v H' g' r => h v H' (F.gr.trans g g') r⟩
def kdB (K : PySem.W.Frag) (F : Fm) : Kd F V D := ⟨fun S H Q d => ∀ v H', F.G H H' → RpB K S H' v d → Q v H', fun g h v H' g' r => h v H' (F.gr.trans g g') r⟩
def kdL (K : PySem.W.Frag) (F : Fm) : Kd F (List V) (List D) := ⟨fun S H Q d => ∀ v H', F.G H H' → RpL K (hide H' S) v d → Q v H', fun g h v H' g' r => h v H' (F.gr.trans g g') r⟩
def kdT (F : Fm) : Kd F Bool Bool := ⟨fun _ H Q b => ∀ H', F.G H H' → Q b H', fun g h H' g' => h H' (F.gr.trans g g')⟩
def kdO (F : Fm) : Kd F (Option Int) (Option Int) := ⟨fun _ H Q b => ∀ H', F.G H H' → Q b H', fun g h H' g' => h H' (F.gr.trans g g')⟩
/-- a new object -/
def kdF (K : PySem.W.Frag) (F : Fm) : Kd F V D := ⟨fun S H Q d => ∀ p H', F.G H H' → Nt H p → Own K (p :: S) H' (.ref p) d → Q (.ref p) H',
  fun g h p H' g' n r => h p H' (F.gr.trans g g') (F.gr.dom g n) r⟩

abbrev DP (X : Cx) (F : Fm) (e : Expr) (s : Rho → Res D) : Prop := PE X e (tK X.K (kdV X.K F) s)
abbrev DB (X : Cx) (F : Fm) (e : Expr) (s : Rho → Res D) : Prop := PE X e (tK X.K (kdB X.K F) s)
abbrev DF (X : Cx) (F : Fm) (e : Expr) (s : Rho → Res D) : Prop := PE X e (tK X.K (kdF X.K F) s)
abbrev DA (X : Cx) (F : Fm) (es : List Expr) (s : Rho → Res (List D)) : Prop := PA X es (tK X.K (kdL X.K F) s)
abbrev DT (X : Cx) (F : Fm) (e : Expr) (s : Rho → Res Bool) : Prop := PT X e (tK X.K (kdT F) s)
abbrev DW (X : Cx) (F : Fm) (e : Expr) (s : Rho → Res Bool) : Prop := PW X e (tK X.K (kdT F) s)
abbrev DO (X : Cx) (F : Fm) (e : Option Expr) (s : Rho → Res (Option Int)) : Prop := PO X e (tK X.K (kdO F) s)

/-! ### readings may be made stronger -/
theorem PE.imp {X : Cx} {e : Expr} {t t' : TE} (h : PE X e t) (i : ∀ σ H Q, t' σ H Q → t σ H Q) : PE X e t' := ⟨fun pins s σ H Q I q => h.run pins s σ H Q I (i σ H Q q)⟩
theorem PT.imp {X : Cx} {e : Expr} {t t' : TT} (h : PT X e t) (i : ∀ σ H Q, t' σ H Q → t σ H Q) : PT X e t' := ⟨fun pins s σ H Q I q => h.run pins s σ H Q I (i σ H Q q)⟩
theorem PW.imp {X : Cx} {e : Expr} {t t' : TT} (h : PW X e t) (i : ∀ σ H Q, t' σ H Q → t σ H Q) : PW X e t' := ⟨fun w pins s σ H Q I q => h.run w pins s σ H Q I (i σ H Q q)⟩
theorem PA.imp {X : Cx} {e : List Expr} {t t' : TA} (h : PA X e t) (i : ∀ σ H Q, t' σ H Q → t σ H Q) : PA X e t' := ⟨fun p pins s σ H Q I q => h.run p pins s σ H Q I (i σ H Q q)⟩
theorem PS.imp {X : Cx} {e : Stmt} {t t' : TS} (h : PS X e t) (i : ∀ D σ H, t' D σ H → t D σ H) : PS X e t' := ⟨fun pins s σ H D I q => h.run pins s σ H D I (i D σ H q)⟩
theorem PSs.imp {X : Cx} {e : List Stmt} {t t' : TS} (h : PSs X e t) (i : ∀ D σ H, t' D σ H → t D σ H) : PSs X e t' := ⟨fun pins s σ H D I q => h.run pins s σ H D I (i D σ H q)⟩
theorem PO.imp {X : Cx} {e : Option Expr} {t t' : TO} (h : PO X e t) (i : ∀ σ H Q, t' σ H Q → t σ H Q) : PO X e t' := ⟨fun pins s σ H Q I q => h.run pins s σ H Q I (i σ H Q q)⟩

section
variable {X : Cx} {F : Fm}
theorem DP.b {e : Expr} {s : Rho → Res D} (h : DP X F e s) : DB X F e s := PE.imp h fun σ H Q ⟨S, ρ, ok, q⟩ => ⟨S, ρ, ok, by
  cases e : s ρ with
  | ok d =>
    rw [e] at q
    exact fun v H' g r => q v H' g (.inl r)
  | err c =>
    rw [e] at q
    exact q
  | stuck =>
    rw [e] at q
    exact q⟩
theorem DF.p {e : Expr} {s : Rho → Res D} (h : DF X F e s) : DP X F e s := PE.imp h fun σ H Q ⟨S, ρ, ok, q⟩ => ⟨S, ρ, ok, by
  cases e : s ρ with
  | ok d =>
    rw [e] at q
    intro p H' g n o
    refine q _ H' g ?_
    have hs : p ∉ S := ok.fresh n
    cases o with
    | lst h1 h2 h3 => exact .lst (by rw [hide_of hs]; exact h2) (h3.ex (hide_less fun a h => List.mem_cons_of_mem _ h))
    | dic h1 h2 h3 => exact .dic (by rw [hide_of hs]; exact h2) (h3.ex (hide_less fun a h => List.mem_cons_of_mem _ h))
  | err c =>
    rw [e] at q
    exact q
  | stuck =>
    rw [e] at q
    exact q⟩

/-! ### names, constants -/
def eVar (i : Nat) : Rho → Res D := fun ρ => match ρ[i]? with
  | some (.fz d) => .ok d
  | _ => .stuck
def eOwn (i : Nat) : Rho → Res D := fun ρ => match ρ[i]? with
  | some (.ow d) => .ok d
  | _ => .stuck
def eC (d : D) : Rho → Res D := fun _ => .ok d
theorem dv (i : Nat) {x : Str} {pos : Pos} (hN : X.N[i]? = some x := by rfl) (hv : Vis X.env.scope x := by first | exact Or.inl rfl | exact Or.inr (Or.inl rfl) | exact Or.inr (Or.inr rfl)) (hd : (x == ("__debug__" : Str)) = false := by decide)
    (hcd : (x == ("__classdict__" : Str)) = false := by decide) : DP X F (.Name x pos) (eVar i) := PE.imp (pe_var hN hv hd hcd) fun σ H Q ⟨S, ρ, ok, q⟩ => by
  unfold eVar at q
  split at q
  · next d e =>
    obtain ⟨o, h1, v, rfl, r⟩ := ok.slots i _ e
    exact ⟨v, h1, q v H (F.gr.refl H) r⟩
  · exact q.elim
theorem dvo (i : Nat) {x : Str} {pos : Pos} (hN : X.N[i]? = some x := by rfl) (hv : Vis X.env.scope x := by first | exact Or.inl rfl | exact Or.inr (Or.inl rfl) | exact Or.inr (Or.inr rfl)) (hd : (x == ("__debug__" : Str)) = false := by decide)
    (hcd : (x == ("__classdict__" : Str)) = false := by decide) : DB X F (.Name x pos) (eOwn i) := PE.imp (pe_var hN hv hd hcd) fun σ H Q ⟨S, ρ, ok, q⟩ => by
  unfold eOwn at q
  split at q
  · next d e =>
    obtain ⟨o, h1, v, rfl, r⟩ := ok.slots i _ e
    exact ⟨v, h1, q v H (F.gr.refl H) (.inr r)⟩
  · exact q.elim
theorem dc_int {i : Int} {j pos} : DP X F (.Constant (.int i) j pos) (eC (.int i)) := PE.imp pe_int fun σ H Q ⟨S, ρ, ok, q⟩ => q _ H (F.gr.refl H) (.int i)
theorem dc_str {x : Str} {j pos} : DP X F (.Constant (.str x) j pos) (eC (.str x)) := PE.imp pe_str fun σ H Q ⟨S, ρ, ok, q⟩ => q _ H (F.gr.refl H) (.str x)
theorem dc_bl {b : Bool} {j pos} : DP X F (.Constant (.bool b) j pos) (eC (.bl b)) := PE.imp pe_bl fun σ H Q ⟨S, ρ, ok, q⟩ => q _ H (F.gr.refl H) (.bl b)
theorem dc_non {j pos} : DP X F (.Constant .none j pos) (eC .non) := PE.imp pe_non fun σ H Q ⟨S, ρ, ok, q⟩ => q _ H (F.gr.refl H) .non
/-- a name of the module that holds data -/
def GlobD (K : PySem.W.Frag) (mg : Str → Option Value) (x : Str) (d : D) : Prop := ∃ u v, mg x = some u ∧ RelV v u ∧ ∀ H, Rp K H v d
theorem dg {x : Str} {d : D} {pos : Pos} (g : GlobD X.K X.mg x d) (hg : Gl X x := by rfl) (hd : (x == ("__debug__" : Str)) = false := by decide) : DP X F (.Name x pos) (eC d) := by
  obtain ⟨u, v, hm, r, h⟩ := g
  exact PE.imp (pe_glob hg hm r hd) fun σ H Q ⟨S, ρ, ok, q⟩ => q _ H (F.gr.refl H) (h _)

/-! ### operators by data -/
def e1 {β : Type} (g : D → Option β) (a : Rho → Res D) : Rho → Res β := fun ρ => (a ρ).bind fun x => Res.of (g x)
def e2 {β : Type} (g : D → D → Option β) (a b : Rho → Res D) : Rho → Res β := fun ρ => (a ρ).bind fun x => (b ρ).bind fun y => Res.of (g x y)
/-- a one-place, a two-place operation on data: rules of the layer that give it -/
def Sd (S : List Addr) (H : Hp) : Prop := ∀ a ∈ S, ∃ o, H a = some o ∧ Mut o
theorem EnvOk.sd {K : PySem.W.Frag} {S : List Addr} {σ : L2.St} {H : Hp} {ρ : Rho} (ok : EnvOk K F S σ H ρ) : Sd S H := ok.sdom
def rD1 (K : PySem.W.Frag) (g : D → Option D) : V → Hp → VK → Prop := fun x H Q => ∃ S dx d, Sd S H ∧ RpB K S H x dx ∧ g dx = some d ∧ ∀ v H', Same H H' → Rp K (hide H' S) v d → Q v H'
def rD2 (K : PySem.W.Frag) (g : D → D → Option D) : R2 := fun x y H Q => ∃ S dx dy d, Sd S H ∧ RpB K S H x dx ∧ RpB K S H y dy ∧ g dx dy = some d ∧ ∀ v H', Same H H' → Rp K (hide H' S) v d → Q v H'
theorem tOp_of {K : PySem.W.Frag} {g : D → D → Option D} {sa sb : Rho → Res D} {σ : L2.St} {H : Hp} {Q : VK} (h : tK K (kdV K F) (e2 g sa sb) σ H Q) : tOp (rD2 K g) (tK K (kdB K F) sa) (tK K (kdB K F) sb) σ H Q := by
  obtain ⟨S, ρ, ok, q⟩ := h
  refine ⟨S, ρ, ok, post_bind q fun dx ex h1 => fun x H1 g1 rx => ⟨S, ρ, ok.up g1, post_bind (h1.mono g1) fun dy ey h2 => fun y H2 g2 ry => ?_⟩⟩
  cases e : g dx dy with
  | none =>
    rw [e] at h2
    exact h2.elim
  | some d =>
    rw [e] at h2
    exact ⟨S, dx, dy, d, ((ok.up g1).up g2).sd, rx.up (F.gr.ex g2), ry, e, fun v H' s r => h2 v H' (F.gr.trans g2 (F.gr.same s)) r⟩
variable {a b c : Expr} {sa sb sc : Rho → Res D} {pos : Pos}
theorem dp_op {op : Operator} {g : D → D → Option D} (ho : OpR X (binaryOp op) (rD2 X.K g)) (ha : DB X F a sa) (hb : DB X F b sb) : DP X F (.BinOp a op b pos) (e2 g sa sb) := PE.imp (pe_op ho ha hb) fun _ _ _ h => tOp_of h
theorem dp_cmp {op : CmpOp} {g : D → D → Option D} (ho : OpR X (compareOp op) (rD2 X.K g)) (ha : DB X F a sa) (hb : DB X F b sb) (hm : behindInMarks op b = false) : DP X F (.Compare a [op] [b] pos) (e2 g sa sb) := PE.imp (pe_cmpR ho ha hb hm) fun _ _ _ h => tOp_of h
theorem dp_un {op : UnaryOp} {g : D → Option D} (ho : UnR X (unaryOp op) (rD1 X.K g)) (ha : DB X F a sa) : DP X F (.UnaryOp op a pos) (e1 g sa) := PE.imp (pe_un ho ha) fun σ H Q ⟨S, ρ, ok, q⟩ => by
  refine ⟨S, ρ, ok, post_bind q fun dx ex h1 => fun x H1 g1 rx => ?_⟩
  cases e : g dx with
  | none =>
    rw [e] at h1
    exact h1.elim
  | some d =>
    rw [e] at h1
    exact ⟨S, dx, d, (ok.up g1).sd, rx, e, fun v H' s r => h1 v H' (F.gr.trans g1 (F.gr.same s)) r⟩
theorem dp_ix {g : D → D → Option D} (ho : IxR X (rD2 X.K g)) (ha : DB X F a sa) (hb : DB X F b sb) (hs : PlainIx b := by exact fun _ _ => rfl) : DP X F (.Subscript a b pos) (e2 g sa sb) := PE.imp (pe_ix ho ha hb hs) fun _ _ _ h => tOp_of h
/-- a test by a comparison -/
def isB : D → Option Bool
  | .bl b => some b
  | _ => none
def eT (s : Rho → Res D) : Rho → Res Bool := fun ρ => (s ρ).bind fun d => Res.of (isB d)
theorem Rp.bl_inv {K : PySem.W.Frag} {H : Hp} {v : V} {b : Bool} (h : Rp K H v (.bl b)) : v = .bl b := by
  cases h
  rfl
theorem tTest_of {K : PySem.W.Frag} {s : Rho → Res D} {σ : L2.St} {H : Hp} {Q : Bool → Hp → Prop} (h : tK K (kdT F) (eT s) σ H Q) : tK K (kdV K F) s σ H fun x H' => ∃ k, x = .bl k ∧ Q k H' := by
  obtain ⟨S, ρ, ok, q⟩ := h
  refine ⟨S, ρ, ok, post_bind q fun d ed h1 => fun v H1 g1 r => ?_⟩
  cases d with
  | bl b => exact ⟨b, r.bl_inv, h1 H1 g1⟩
  | _ => exact h1.elim
theorem dt_cmp {op : CmpOp} {g : D → D → Option D} (ho : OpR X (compareOp op) (rD2 X.K g)) (ha : DB X F a sa) (hb : DB X F b sb) (hm : behindInMarks op b = false) : DT X F (.Compare a [op] [b] pos) (eT (e2 g sa sb)) :=
  PT.imp (pt_cmpR ho ha hb hm) fun σ H Q h => tOp_of (tTest_of h)
theorem dt_val {e : Expr} {s : Rho → Res D} (h : DP X F e s) (he : ∀ whole, isTrue e X.env whole = (do let v ← whole; standAt e.pos; holding [v] (truthy v)) := by intro _; rfl) : DT X F e (eT s) :=
  PT.imp (pt_val h he) fun σ H Q h => tTest_of h
/-! ### chains, and, or, not -/
def ifB (z : D) (t f : Res D) : Res D := match z with
  | .bl b => if b = true then t else f
  | _ => .stuck
def eChain (g g' : D → D → Option D) (a b c : Rho → Res D) : Rho → Res D := fun ρ => (a ρ).bind fun x => (b ρ).bind fun y => (Res.of (g x y)).bind fun z => ifB z ((c ρ).bind fun w => Res.of (g' y w)) (.ok (.bl false))
theorem tChain_of {K : PySem.W.Frag} {g g' : D → D → Option D} {σ : L2.St} {H : Hp} {Q : VK} (h : tK K (kdV K F) (eChain g g' sa sb sc) σ H Q) : tChain (rD2 K g) (rD2 K g') (tK K (kdB K F) sa) (tK K (kdB K F) sb) (tK K (kdB K F) sc) σ H Q := by
  obtain ⟨S, ρ, ok, q⟩ := h
  refine ⟨S, ρ, ok, post_bind q fun dx ex h1 => fun x H1 g1 rx => ⟨S, ρ, ok.up g1, post_bind (h1.mono g1) fun dy ey h2 => fun y H2 g2 ry => ?_⟩⟩
  cases e : g dx dy with
  | none =>
    rw [e] at h2
    exact h2.elim
  | some d =>
    rw [e] at h2
    refine ⟨S, dx, dy, d, ((ok.up g1).up g2).sd, rx.up (F.gr.ex g2), ry, e, fun v H3 s3 r => ?_⟩
    cases d with
    | bl k =>
      refine ⟨k, r.bl_inv, ?_⟩
      have g3 : F.G H1 H3 := F.gr.trans g2 (F.gr.same s3)
      cases k with
      | false =>
        refine iteF ?_
        exact h2 _ H3 g3 (.bl false)
      | true =>
        refine iteT ?_
        refine ⟨S, ρ, (ok.up g1).up g3, post_bind (h2.mono g3) fun dw ew h4 => fun z H4 g4 rw' => ?_⟩
        cases e' : g' dy dw with
        | none =>
          rw [e'] at h4
          exact h4.elim
        | some d' =>
          rw [e'] at h4
          exact ⟨S, dy, dw, d', (((ok.up g1).up g3).up g4).sd, (ry.up (Ex.of s3)).up (F.gr.ex g4), rw', e', fun v' H' s' r' => h4 v' H' (F.gr.trans g4 (F.gr.same s')) r'⟩
    | _ => exact h2.elim
theorem dp_chain {op op' : CmpOp} {g g' : D → D → Option D} (ho : OpR X (compareOp op) (rD2 X.K g)) (ho' : OpR X (compareOp op') (rD2 X.K g')) (ha : DB X F a sa) (hb : DB X F b sb) (hc : DB X F c sc)
    (hm : lastMarks [op, op'] [b, c] = false := by with_unfolding_all rfl) : DP X F (.Compare a [op, op'] [b, c] pos) (eChain g g' sa sb sc) := PE.imp (pe_chain ho ho' ha hb hc hm) fun _ _ _ h => tChain_of h
theorem dt_chain {op op' : CmpOp} {g g' : D → D → Option D} (ho : OpR X (compareOp op) (rD2 X.K g)) (ho' : OpR X (compareOp op') (rD2 X.K g')) (ha : DB X F a sa) (hb : DB X F b sb) (hc : DB X F c sc)
    (hm : lastMarks [op, op'] [b, c] = false := by with_unfolding_all rfl) : DT X F (.Compare a [op, op'] [b, c] pos) (eT (eChain g g' sa sb sc)) := PT.imp (pt_chain ho ho' ha hb hc hm) fun σ H Q h => tChain_of (tTest_of h)
def tand (a b : Rho → Res Bool) : Rho → Res Bool := fun ρ => (a ρ).bind fun x => if x = true then b ρ else .ok false
def tor (a b : Rho → Res Bool) : Rho → Res Bool := fun ρ => (a ρ).bind fun x => if x = true then .ok true else b ρ
def tnot (a : Rho → Res Bool) : Rho → Res Bool := fun ρ => (a ρ).bind fun x => .ok (!x)
variable {ua ub : Rho → Res Bool} {rest : List Expr}
theorem dw_and1 (ha : DT X F a ua) : DW X F (.BoolOp .And [a] pos) ua := pw_and1 ha
theorem dw_or1 (ha : DT X F a ua) : DW X F (.BoolOp .Or [a] pos) ua := pw_or1 ha
theorem tAnd_of {K : PySem.W.Frag} {σ : L2.St} {H : Hp} {Q : Bool → Hp → Prop} (h : tK K (kdT F) (tand ua ub) σ H Q) : tAnd (tK K (kdT F) ua) (tK K (kdT F) ub) σ H Q := by
  obtain ⟨S, ρ, ok, q⟩ := h
  refine ⟨S, ρ, ok, post_bind q fun k ek h1 => fun H1 g1 => ?_⟩
  cases k with
  | false => exact iteF (h1 H1 g1)
  | true => exact iteT ⟨S, ρ, ok.up g1, PostK.mono (r := ub ρ) h1 g1⟩
theorem tOr_of {K : PySem.W.Frag} {σ : L2.St} {H : Hp} {Q : Bool → Hp → Prop} (h : tK K (kdT F) (tor ua ub) σ H Q) : tOr (tK K (kdT F) ua) (tK K (kdT F) ub) σ H Q := by
  obtain ⟨S, ρ, ok, q⟩ := h
  refine ⟨S, ρ, ok, post_bind q fun k ek h1 => fun H1 g1 => ?_⟩
  cases k with
  | false => exact iteF ⟨S, ρ, ok.up g1, PostK.mono (r := ub ρ) h1 g1⟩
  | true => exact iteT (h1 H1 g1)
theorem dw_and (ha : DT X F a ua) (hb : DW X F (.BoolOp .And (b :: rest) pos) ub) : DW X F (.BoolOp .And (a :: b :: rest) pos) (tand ua ub) := PW.imp (pw_and ha hb) fun _ _ _ h => tAnd_of h
theorem dw_or (ha : DT X F a ua) (hb : DW X F (.BoolOp .Or (b :: rest) pos) ub) : DW X F (.BoolOp .Or (a :: b :: rest) pos) (tor ua ub) := PW.imp (pw_or ha hb) fun _ _ _ h => tOr_of h
theorem DW.t {e : Expr} (h : DW X F e ua) : DT X F e ua := PW.pt h
theorem dt_not (ha : DT X F a ua) : DT X F (.UnaryOp .Not a pos) (tnot ua) := PT.imp (pt_not ha) fun σ H Q ⟨S, ρ, ok, q⟩ => ⟨S, ρ, ok, post_bind q fun k ek h1 => fun H1 g1 => h1 H1 g1⟩
/-! .. as values -/
def eand (a b : Rho → Res D) : Rho → Res D := fun ρ => (a ρ).bind fun x => ifB x (b ρ) (.ok (.bl false))
def eor (a b : Rho → Res D) : Rho → Res D := fun ρ => (a ρ).bind fun x => ifB x (.ok (.bl true)) (b ρ)
def enot (a : Rho → Res D) : Rho → Res D := fun ρ => (a ρ).bind fun x => ifB x (.ok (.bl false)) (.ok (.bl true))
theorem dp_one {op} (h : DP X F a sa) : DP X F (.BoolOp op [a] pos) sa := pe_one h
theorem dp_and (ha : DP X F a sa) (hb : DP X F (.BoolOp .And (b :: rest) pos) sb) : DP X F (.BoolOp .And (a :: b :: rest) pos) (eand sa sb) := PE.imp (pe_and ha hb) fun σ H Q ⟨S, ρ, ok, q⟩ => by
  refine ⟨S, ρ, ok, post_bind q fun dx ex h1 => fun x H1 g1 rx => ?_⟩
  cases dx with
  | bl k =>
    refine ⟨k, rx.bl_inv, ?_⟩
    cases k with
    | false => exact iteF (h1 _ H1 g1 (.bl false))
    | true => exact iteT ⟨S, ρ, ok.up g1, PostK.mono (r := sb ρ) h1 g1⟩
  | _ => exact h1.elim
theorem dp_or (ha : DP X F a sa) (hb : DP X F (.BoolOp .Or (b :: rest) pos) sb) : DP X F (.BoolOp .Or (a :: b :: rest) pos) (eor sa sb) := PE.imp (pe_or ha hb) fun σ H Q ⟨S, ρ, ok, q⟩ => by
  refine ⟨S, ρ, ok, post_bind q fun dx ex h1 => fun x H1 g1 rx => ?_⟩
  cases dx with
  | bl k =>
    refine ⟨k, rx.bl_inv, ?_⟩
    cases k with
    | false => exact iteF ⟨S, ρ, ok.up g1, PostK.mono (r := sb ρ) h1 g1⟩
    | true => exact iteT (h1 _ H1 g1 (.bl true))
  | _ => exact h1.elim
theorem dp_not (ha : DP X F a sa) : DP X F (.UnaryOp .Not a pos) (enot sa) := PE.imp (pe_not ha) fun σ H Q ⟨S, ρ, ok, q⟩ => by
  refine ⟨S, ρ, ok, post_bind q fun dx ex h1 => fun x H1 g1 rx => ?_⟩
  cases dx with
  | bl k =>
    refine ⟨k, rx.bl_inv, ?_⟩
    cases k with
    | false => exact h1 _ H1 g1 (.bl true)
    | true => exact h1 _ H1 g1 (.bl false)
  | _ => exact h1.elim
/-! ### argument lists, displays -/
def aNil : Rho → Res (List D) := fun _ => .ok []
def aCons (a : Rho → Res D) (r : Rho → Res (List D)) : Rho → Res (List D) := fun ρ => (a ρ).bind fun x => (r ρ).bind fun xs => .ok (x :: xs)
variable {es : List Expr} {ss : Rho → Res (List D)}
theorem da_nil : DA X F [] aNil := PA.imp pa_nil fun σ H Q ⟨S, ρ, ok, q⟩ => q [] H (F.gr.refl H) .nil
theorem da_cons (ha : DP X F a sa) (hr : DA X F es ss) (hs : starEach (a :: es) X.env = (false, eval a X.env) :: starEach es X.env := by rfl) : DA X F (a :: es) (aCons sa ss) := PA.imp (pa_cons ha hr hs) fun σ H Q ⟨S, ρ, ok, q⟩ =>
  ⟨S, ρ, ok, post_bind q fun dx ex h1 => fun x H1 g1 rx => ⟨S, ρ, ok.up g1, post_bind (h1.mono g1) fun ds eds h2 => fun xs H2 g2 rs => h2 _ H2 g2 (.cons (rx.ex (hide_mono (F.gr.ex g2) S)) rs)⟩⟩
def eTup (s : Rho → Res (List D)) : Rho → Res D := fun ρ => (s ρ).bind fun ds => if ds.length ≤ sizeLine then .ok (.tup ds) else .stuck
def eLst (s : Rho → Res (List D)) : Rho → Res D := fun ρ => (s ρ).bind fun ds => if ds.length ≤ sizeLine then .ok (.lst ds) else .stuck
theorem same_new {H : Hp} {p : Addr} {o : HO} (h : H p = none) : Same H (upd H p o) := fun b x e => by
  rw [upd_ne (ne_of_none e h)]
  exact e
theorem dp_tup {x1} (h : DA X F es ss) : DP X F (.Tuple es x1 pos) (eTup ss) := PE.imp (pe_tup h) fun σ H Q ⟨S, ρ, ok, q⟩ => by
  refine ⟨S, ρ, ok, post_bind q fun ds e h1 => fun xs H1 g1 rs => ?_⟩
  by_cases c : ds.length ≤ sizeLine
  · rw [if_pos c] at h1
    refine ⟨by rw [rs.len]; exact c, fun p np => h1 _ _ (F.gr.trans g1 (F.gr.same (same_new np))) (.tup ?_ (rs.ex (hide_mono (Ex.of (same_new np)) S)))⟩
    rw [hide_of ((ok.up g1).fresh (Nt.of np))]
    exact upd_same
  · rw [if_neg c] at h1
    exact h1.elim
theorem df_lst (h : DA X F es ss) : DF X F (.List es pos) (eLst ss) := PE.imp (pe_lst h) fun σ H Q ⟨S, ρ, ok, q⟩ => by
  refine ⟨S, ρ, ok, post_bind q fun ds e h1 => fun xs H1 g1 rs => ?_⟩
  by_cases c : ds.length ≤ sizeLine
  · rw [if_pos c] at h1
    exact ⟨by rw [rs.len]; exact c, fun p np => h1 p _ (F.gr.trans g1 (F.gr.same (same_new np))) (F.gr.dom g1 (Nt.of np)) (.lst (List.mem_cons_self ..) upd_same (rs.ex (hide_new (Ex.of (same_new np)) (Nt.of np))))⟩
  · rw [if_neg c] at h1
    exact h1.elim
/-! ### calls of built-ins by data -/
def kdLB (K : PySem.W.Frag) (F : Fm) : Kd F (List V) (List D) := ⟨fun S H Q d => ∀ v H', F.G H H' → Paired (RpB K S H') v d → Q v H', fun g h v H' g' r => h v H' (F.gr.trans g g') r⟩
abbrev DAB (X : Cx) (F : Fm) (es : List Expr) (s : Rho → Res (List D)) : Prop := PA X es (tK X.K (kdLB X.K F) s)
theorem dab_nil : DAB X F [] aNil := PA.imp pa_nil fun σ H Q ⟨S, ρ, ok, q⟩ => q [] H (F.gr.refl H) .nil
theorem dab_cons (ha : DB X F a sa) (hr : DAB X F es ss) (hs : starEach (a :: es) X.env = (false, eval a X.env) :: starEach es X.env := by rfl) : DAB X F (a :: es) (aCons sa ss) := PA.imp (pa_cons ha hr hs) fun σ H Q ⟨S, ρ, ok, q⟩ =>
  ⟨S, ρ, ok, post_bind q fun dx ex h1 => fun x H1 g1 rx => ⟨S, ρ, ok.up g1, post_bind (h1.mono g1) fun ds eds h2 => fun xs H2 g2 rs => h2 _ H2 g2 (.cons (rx.up (F.gr.ex g2)) rs)⟩⟩
def rDC (K : PySem.W.Frag) (g : List D → Option D) : List V → Hp → VK → Prop := fun xs H Q => ∃ S ds d, Sd S H ∧ Paired (RpB K S H) xs ds ∧ g ds = some d ∧ ∀ v H', Same H H' → Rp K (hide H' S) v d → Q v H'
def eCall (g : List D → Option D) (s : Rho → Res (List D)) : Rho → Res D := fun ρ => (s ρ).bind fun ds => Res.of (g ds)
theorem tCB_of {K : PySem.W.Frag} {g : List D → Option D} {σ : L2.St} {H : Hp} {Q : VK} (h : tK K (kdV K F) (eCall g ss) σ H Q) : tCB (rDC K g) (tK K (kdLB K F) ss) σ H Q := by
  obtain ⟨S, ρ, ok, q⟩ := h
  refine ⟨S, ρ, ok, post_bind q fun ds e h1 => fun xs H1 g1 rs => ?_⟩
  cases e' : g ds with
  | none =>
    rw [e'] at h1
    exact h1.elim
  | some d =>
    rw [e'] at h1
    exact ⟨S, ds, d, (ok.up g1).sd, rs, e', fun v H' s r => h1 v H' (F.gr.trans g1 (F.gr.same s)) r⟩
theorem dp_callB {x : Str} {id : String} {p : Pos} {g : List D → Option D} {e : Expr} {es : List Expr} (hc : CallR X (.builtin id) (rDC X.K g)) (hm : X.mg x = none) (ha : DAB X F (e :: es) ss) (hg : Gl X x := by rfl) (hv : bootBuiltins x = some (.builtin id) := by decide +kernel)
    (hn : x ≠ "__name__" := by decide) (hd : (x == ("__debug__" : Str)) = false := by decide) (he : starEach (e :: es) X.env = (false, eval e X.env) :: starEach es X.env := by rfl) (hpl : (backTo pos (starEach es X.env)).any (·.1) = false := by rfl) :
    DP X F (.Call (.Name x p) (e :: es) [] pos) (eCall g ss) := PE.imp (pe_callB hc hg hm hv ha hn hd he hpl) fun _ _ _ h => tCB_of h
theorem dp_callTy {x : Str} {T : String} {p : Pos} {g : List D → Option D} {e : Expr} {es : List Expr} (hc : CallR X (.type T) (rDC X.K g)) (hm : X.mg x = none) (ha : DAB X F (e :: es) ss) (hg : Gl X x := by rfl) (hv : bootBuiltins x = some (.type T) := by decide +kernel)
    (hn : x ≠ "__name__" := by decide) (hd : (x == ("__debug__" : Str)) = false := by decide) (he : starEach (e :: es) X.env = (false, eval e X.env) :: starEach es X.env := by rfl) (hpl : (backTo pos (starEach es X.env)).any (·.1) = false := by rfl) :
    DP X F (.Call (.Name x p) (e :: es) [] pos) (eCall g ss) := PE.imp (pe_callTy hc hg hm hv ha hn hd he hpl) fun _ _ _ h => tCB_of h
/-! ### methods of built-in types: by data -/
def rDM (K : PySem.W.Frag) (g : D → List D → Option D) : V → List V → Hp → VK → Prop := fun x xs H Q => ∃ S dx ds d, Sd S H ∧ RpB K S H x dx ∧ Paired (RpB K S H) xs ds ∧ g dx ds = some d ∧ ∀ v H', Same H H' → Rp K (hide H' S) v d → Q v H'
end
/-! ### what is behind a value -/
section
variable {K : PySem.W.Frag} {S : List Addr} {H : Hp} {v : V}
theorem RpB.non_inv (h : RpB K S H v .non) : v = .non := by
  rcases h with h | h
  · cases h; rfl
  · cases h
theorem RpB.bl_inv {b : Bool} (h : RpB K S H v (.bl b)) : v = .bl b := by
  rcases h with h | h
  · cases h; rfl
  · cases h
theorem RpB.int_inv {i : Int} (h : RpB K S H v (.int i)) : v = .int i := by
  rcases h with h | h
  · cases h; rfl
  · cases h
theorem RpB.str_inv {i : Str} (h : RpB K S H v (.str i)) : v = .str i := by
  rcases h with h | h
  · cases h; rfl
  · cases h
theorem RpB.tup_inv {ds : List D} (h : RpB K S H v (.tup ds)) : ∃ a xs, v = .ref a ∧ H a = some (.tup xs) ∧ RpL K (hide H S) xs ds := by
  rcases h with h | h
  · cases h with
    | tup h1 h2 => exact ⟨_, _, rfl, (hide_in h1).2, h2⟩
  · cases h
theorem RpB.tup_rp {ds : List D} (h : RpB K S H v (.tup ds)) : Rp K (hide H S) v (.tup ds) := by
  rcases h with h | h
  · exact h
  · cases h
theorem RpB.gtup_inv {ds : List D} (h : RpB K S H v (.gtup ds)) : ∃ a xs, v = .ref a ∧ SqT K H a xs ∧ RpL K (hide H S) xs ds := by
  rcases h with h | h
  · cases h with
    | gtup h1 h2 => exact ⟨_, _, rfl, Ex.sqT (fun b o e _ => by cases e) h1, h2⟩
  · cases h
theorem RpB.lst_inv {ds : List D} (h : RpB K S H v (.lst ds)) : ∃ a xs, v = .ref a ∧ H a = some (.lst xs) ∧ RpL K (hide H S) xs ds := by
  rcases h with h | h
  · cases h with
    | lst h1 h2 => exact ⟨_, _, rfl, (hide_in h1).2, h2⟩
  · cases h with
    | lst h1 h2 h3 => exact ⟨_, _, rfl, h2, h3⟩
theorem RpB.dic_inv {ds : List (List Key × D)} (h : RpB K S H v (.dic ds)) : ∃ a xs, v = .ref a ∧ H a = some (.dT xs) ∧ RpK K (hide H S) xs ds := by
  rcases h with h | h
  · cases h with
    | dic h1 h2 => exact ⟨_, _, rfl, (hide_in h1).2, h2⟩
  · cases h with
    | dic h1 h2 h3 => exact ⟨_, _, rfl, h2, h3⟩
theorem RpB.scr_inv {ns : List Int} (h : RpB K S H v (.scr ns)) : ∃ a, v = .ref a ∧ SqL K H a (ns.map V.int) := by
  rcases h with h | h
  · cases h with
    | scr h1 => exact ⟨_, rfl, hide_ex.sqL h1⟩
  · cases h
theorem Paired.one_inv {α β : Type} {R : α → β → Prop} {xs : List α} {y : β} (h : Paired R xs [y]) : ∃ x, xs = [x] ∧ R x y := by
  cases h with
  | cons h1 h2 =>
    cases h2
    exact ⟨_, rfl, h1⟩
theorem Paired.two_inv {α β : Type} {R : α → β → Prop} {xs : List α} {y z : β} (h : Paired R xs [y, z]) : ∃ x x', xs = [x, x'] ∧ R x y ∧ R x' z := by
  cases h with
  | cons h1 h2 =>
    obtain ⟨x', rfl, h3⟩ := Paired.one_inv h2
    exact ⟨_, _, rfl, h1, h3⟩
/-- a new tuple, a new list -/
theorem new_tup {p : Addr} {xs : List V} {ds : List D} (sd : Sd S H) (np : H p = none) (r : RpL K (hide H S) xs ds) : Rp K (hide (upd H p (.tup xs)) S) (.ref p) (.tup ds) := by
  have hs : p ∉ S := fun c => by
    obtain ⟨o, e, _⟩ := sd p c
    rw [np] at e
    cases e
  exact .tup (by rw [hide_of hs]; exact upd_same) (r.ex (hide_mono (Ex.of (same_new np)) S))
theorem new_lst {p : Addr} {xs : List V} {ds : List D} (sd : Sd S H) (np : H p = none) (r : RpL K (hide H S) xs ds) : Rp K (hide (upd H p (.lst xs)) S) (.ref p) (.lst ds) := by
  have hs : p ∉ S := fun c => by
    obtain ⟨o, e, _⟩ := sd p c
    rw [np] at e
    cases e
  exact .lst (by rw [hide_of hs]; exact upd_same) (r.ex (hide_mono (Ex.of (same_new np)) S))
end
end DL

set_option Elab.async false
set_option linter.all false
set_option maxRecDepth 100000
set_option maxHeartbeats 1000000
/-! DL3: operations on data. -/
namespace DL
open PySem PySem.Spec PyProof.Rows L2

/-! ### plain data: depth, equality -/
def lv : Nat → D → Bool
  | _, .non => true
  | _, .bl _ => true
  | _, .int _ => true
  | _, .str _ => true
  | n + 1, .tup ds => ds.all (lv n)
  | n + 1, .lst ds => ds.all (lv n)
  | n + 1, .gtup ds => ds.all (lv n)
  | _, _ => false
def toPy : Nat → D → PyData
  | _, .non => .none
  | _, .bl b => .bool b
  | _, .int i => .int i
  | _, .str x => .str x
  | n + 1, .tup ds => .tuple (ds.map (toPy n))
  | n + 1, .lst ds => .list (ds.map (toPy n))
  | n + 1, .gtup ds => .tuple (ds.map (toPy n))
  | _, _ => .none
def eqL (f : D → D → Bool) : List D → List D → Bool
  | [], [] => true
  | x :: xs, y :: ys => f x y && eqL f xs ys
  | _, _ => false
def eqN : Nat → D → D → Bool
  | _, .non, .non => true
  | _, .bl a, .bl b => a == b
  | _, .bl a, .int j => (if a then 1 else 0) == j
  | _, .int i, .bl b => i == (if b then 1 else 0)
  | _, .int i, .int j => i == j
  | _, .str x, .str y => x == y
  | n + 1, .tup xs, .tup ys => eqL (eqN n) xs ys
  | n + 1, .tup xs, .gtup ys => eqL (eqN n) xs ys
  | n + 1, .gtup xs, .tup ys => eqL (eqN n) xs ys
  | n + 1, .gtup xs, .gtup ys => eqL (eqN n) xs ys
  | n + 1, .lst xs, .lst ys => eqL (eqN n) xs ys
  | _, _, _ => false
theorem toPy_plainAll {n : Nat} (ih : ∀ d, lv n d = true → (toPy n d).plain = true ∧ (toPy n d).depth ≤ n) : ∀ ds : List D, ds.all (lv n) = true → PyData.plainAll (ds.map (toPy n)) = true ∧ PyData.depthAll (ds.map (toPy n)) ≤ n
  | [], _ => ⟨rfl, Nat.zero_le _⟩
  | d :: ds, h => by
    rw [List.all_cons, Bool.and_eq_true] at h
    obtain ⟨h1, h2⟩ := ih d h.1
    obtain ⟨h3, h4⟩ := toPy_plainAll ih ds h.2
    refine ⟨?_, ?_⟩
    · show ((toPy n d).plain && PyData.plainAll (ds.map (toPy n))) = true
      rw [h1, h3]
      rfl
    · show max (toPy n d).depth (PyData.depthAll (ds.map (toPy n))) ≤ n
      omega
theorem toPy_plain : ∀ (n : Nat) (d : D), lv n d = true → (toPy n d).plain = true ∧ (toPy n d).depth ≤ n
  | 0, .non, _ => ⟨rfl, Nat.le_refl _⟩
  | 0, .bl _, _ => ⟨rfl, Nat.le_refl _⟩
  | 0, .int _, _ => ⟨rfl, Nat.le_refl _⟩
  | 0, .str _, _ => ⟨rfl, Nat.le_refl _⟩
  | _ + 1, .non, _ => ⟨rfl, Nat.zero_le _⟩
  | _ + 1, .bl _, _ => ⟨rfl, Nat.zero_le _⟩
  | _ + 1, .int _, _ => ⟨rfl, Nat.zero_le _⟩
  | _ + 1, .str _, _ => ⟨rfl, Nat.zero_le _⟩
  | n + 1, .tup ds, h => by
    obtain ⟨h1, h2⟩ := toPy_plainAll (toPy_plain n) ds h
    exact ⟨h1, Nat.succ_le_succ h2⟩
  | n + 1, .lst ds, h => by
    obtain ⟨h1, h2⟩ := toPy_plainAll (toPy_plain n) ds h
    exact ⟨h1, Nat.succ_le_succ h2⟩
  | n + 1, .gtup ds, h => by
    obtain ⟨h1, h2⟩ := toPy_plainAll (toPy_plain n) ds h
    exact ⟨h1, Nat.succ_le_succ h2⟩
  | 0, .tup _, h => by cases h
  | 0, .lst _, h => by cases h
  | 0, .gtup _, h => by cases h
  | 0, .dic _, h => by cases h
  | 0, .obj _ _, h => by cases h
  | 0, .scr _, h => by cases h
  | 0, .opq _, h => by cases h
  | _ + 1, .dic _, h => by cases h
  | _ + 1, .obj _ _, h => by cases h
  | _ + 1, .scr _, h => by cases h
  | _ + 1, .opq _, h => by cases h
theorem eqvAll_toPy {n : Nat} (ih : ∀ a b, lv n a = true → lv n b = true → PyData.eqv (toPy n a) (toPy n b) = eqN n a b) : ∀ xs ys : List D, xs.all (lv n) = true → ys.all (lv n) = true → PyData.eqvAll (xs.map (toPy n)) (ys.map (toPy n)) = eqL (eqN n) xs ys
  | [], [], _, _ => rfl
  | [], _ :: _, _, _ => rfl
  | _ :: _, [], _, _ => rfl
  | x :: xs, y :: ys, h, h' => by
    rw [List.all_cons, Bool.and_eq_true] at h h'
    show (PyData.eqv (toPy n x) (toPy n y) && PyData.eqvAll (xs.map (toPy n)) (ys.map (toPy n))) = (eqN n x y && eqL (eqN n) xs ys)
    rw [ih x y h.1 h'.1, eqvAll_toPy ih xs ys h.2 h'.2]
theorem eqv_toPy : ∀ (n : Nat) (a b : D), lv n a = true → lv n b = true → PyData.eqv (toPy n a) (toPy n b) = eqN n a b := by
  intro n
  induction n with
  | zero =>
    intro a b ha hb
    cases a <;> cases b <;> first | rfl | exact absurd ha Bool.false_ne_true | exact absurd hb Bool.false_ne_true
  | succ n ih =>
    intro a b ha hb
    cases a <;> cases b <;> first | rfl | exact eqvAll_toPy ih _ _ ha hb | exact absurd ha Bool.false_ne_true | exact absurd hb Bool.false_ne_true
theorem eqN_tup (n : Nat) (xs ys : List D) : eqN (n + 1) (.tup xs) (.tup ys) = eqL (eqN n) xs ys := rfl
theorem eqN_lst (n : Nat) (xs ys : List D) : eqN (n + 1) (.lst xs) (.lst ys) = eqL (eqN n) xs ys := rfl
theorem eqN_int (n : Nat) (i j : Int) : eqN n (.int i) (.int j) = (i == j) := by cases n <;> rfl
theorem eqN_str (n : Nat) (i j : Str) : eqN n (.str i) (.str j) = (i == j) := by cases n <;> rfl
theorem eqN_bl (n : Nat) (i j : Bool) : eqN n (.bl i) (.bl j) = (i == j) := by cases n <;> rfl
theorem eqN_non (n : Nat) : eqN n .non .non = true := by cases n <;> rfl
theorem lv_int (n : Nat) (i : Int) : lv n (.int i) = true := by cases n <;> rfl
theorem lv_str (n : Nat) (i : Str) : lv n (.str i) = true := by cases n <;> rfl
theorem lv_bl (n : Nat) (i : Bool) : lv n (.bl i) = true := by cases n <;> rfl
theorem lv_non (n : Nat) : lv n .non = true := by cases n <;> rfl
theorem lv_tup (n : Nat) (xs : List D) : lv (n + 1) (.tup xs) = xs.all (lv n) := rfl
theorem lv_gtup (n : Nat) (xs : List D) : lv (n + 1) (.gtup xs) = xs.all (lv n) := rfl
theorem lv_lst (n : Nat) (xs : List D) : lv (n + 1) (.lst xs) = xs.all (lv n) := rfl

section
variable {K : PySem.W.Frag} {S : List Addr} {H : Hp}
theorem sq_gtup {a : Addr} {xs : List V} (h : SqT K (fun _ => none) a xs) : SqT K H a xs := Ex.sqT (fun b o e _ => by cases e) h
theorem dpAll_of {n : Nat} (ih : ∀ (v : V) (d : D), Rp K H v d → lv n d = true → Dp K H v (toPy n d)) : ∀ {vs : List V} {ds : List D}, RpL K H vs ds → ds.all (lv n) = true → DpAll K H vs (ds.map (toPy n))
  | _, _, .nil, _ => .nil
  | _, _, .cons h r, e => by
    rw [List.all_cons, Bool.and_eq_true] at e
    exact .cons (ih _ _ h e.1) (dpAll_of ih r e.2)
theorem dp_of : ∀ (n : Nat) (v : V) (d : D), Rp K H v d → lv n d = true → Dp K H v (toPy n d) := by
  intro n
  induction n with
  | zero =>
    intro v d h l
    cases h with
    | non => exact .non
    | bl b => exact .bl b
    | int i => exact .int i
    | str x => exact .str x
    | _ => cases l
  | succ n ih =>
    intro v d h l
    cases h with
    | non => exact .non
    | bl b => exact .bl b
    | int i => exact .int i
    | str x => exact .str x
    | tup h1 h2 => exact .tup (SqT.of h1) (dpAll_of ih h2 l)
    | gtup h1 h2 => exact .tup (sq_gtup h1) (dpAll_of ih h2 l)
    | lst h1 h2 => exact .lst (SqL.of h1) (dpAll_of ih h2 l)
    | _ => cases l
mutual
theorem Dp.ex {H' : Hp} (x : Ex H H') : ∀ {v : V} {d : PyData}, Dp K H v d → Dp K H' v d
  | _, _, .non => .non
  | _, _, .bl b => .bl b
  | _, _, .int i => .int i
  | _, _, .str z => .str z
  | _, _, .tup h r => .tup (x.sqT h) (DpAll.ex x r)
  | _, _, .lst h r => .lst (x.sqL h) (DpAll.ex x r)
theorem DpAll.ex {H' : Hp} (x : Ex H H') : ∀ {v : List V} {d : List PyData}, DpAll K H v d → DpAll K H' v d
  | _, _, .nil => .nil
  | _, _, .cons h r => .cons (Dp.ex x h) (DpAll.ex x r)
end
theorem dpB_of {n : Nat} {v : V} {d : D} (h : RpB K S H v d) (l : lv n d = true) : Dp K H v (toPy n d) := by
  rcases h with h | h
  · exact Dp.ex hide_ex (dp_of n v d h l)
  · cases h with
    | lst h1 h2 h3 =>
      cases n with
      | zero => cases l
      | succ n => exact .lst (SqL.of h2) (DpAll.ex hide_ex (dpAll_of (dp_of n) h3 l))
    | dic h1 h2 h3 => cases n <;> cases l
end

/-! ### comparisons -/
def dEq (a b : D) : Option D := if (lv 64 a && lv 64 b) = true then some (.bl (eqN 64 a b)) else none
def dNe (a b : D) : Option D := if (lv 64 a && lv 64 b) = true then some (.bl (!eqN 64 a b)) else none
/-- a tuple of ints -/
def intsOf : List D → Option (List Int)
  | [] => some []
  | .int i :: r => (intsOf r).map (i :: ·)
  | _ :: _ => none
def dLt : D → D → Option D
  | .int i, .int j => some (.bl (decide (i < j)))
  | .tup xs, .tup ys => (intsOf xs).bind fun is => (intsOf ys).map fun js => .bl (HT.lexLt is js)
  | _, _ => none
def dLe : D → D → Option D
  | .int i, .int j => some (.bl (decide (i ≤ j)))
  | _, _ => none
def dGt : D → D → Option D
  | .int i, .int j => some (.bl (decide (j < i)))
  | _, _ => none
def dGe : D → D → Option D
  | .int i, .int j => some (.bl (decide (j ≤ i)))
  | _, _ => none
def seqOf : D → Option (List D)
  | .tup ds => some ds
  | .gtup ds => some ds
  | .lst ds => some ds
  | _ => none
def keyOf : List D → Option (List Key)
  | [] => some []
  | .int i :: r => (keyOf r).map (Sum.inl i :: ·)
  | _ :: _ => none
def valD (kvs : List (List Key × D)) (k : List Key) : Option D := (kvs.find? fun kv => decide (kv.1 = k)).map (·.2)
def inB : D → D → Option Bool
  | x, .tup ds => if (lv 64 x && ds.all (lv 64)) = true then some (ds.any fun y => eqN 64 y x) else none
  | x, .gtup ds => if (lv 64 x && ds.all (lv 64)) = true then some (ds.any fun y => eqN 64 y x) else none
  | x, .lst ds => if (lv 64 x && ds.all (lv 64)) = true then some (ds.any fun y => eqN 64 y x) else none
  | .str x, .str y => match x.cps.toList with
    | [c] => some (decide (c ∈ y.cps.toList))
    | _ => none
  | .tup ks, .dic kvs => (keyOf ks).map fun k => (valD kvs k).isSome
  | _, _ => none
def dIn (a b : D) : Option D := (inB a b).map .bl
def dNotIn (a b : D) : Option D := (inB a b).map fun k => .bl (!k)
def isNon : D → Bool
  | .non => true
  | _ => false
def isIs : D → D → Option Bool
  | x, .non => some (isNon x)
  | .bl a, .bl b => some (decide (a = b))
  | _, _ => none
def dIs (a b : D) : Option D := (isIs a b).map .bl
def dIsNot (a b : D) : Option D := (isIs a b).map fun k => .bl (!k)
section
variable {X : Cx}
theorem RpL.ints {K : PySem.W.Frag} {H : Hp} : ∀ {ds : List D} {vs : List V} {is : List Int}, RpL K H vs ds → intsOf ds = some is → vs = is.map V.int
  | [], _, _, .nil, e => by
    cases e
    rfl
  | .int i :: r, _, _, .cons h t, e => by
    cases h
    cases er : intsOf r with
    | none =>
      simp only [intsOf, er, Option.map_none] at e
      cases e
    | some js =>
      simp only [intsOf, er, Option.map_some, Option.some.injEq] at e
      subst e
      rw [RpL.ints t er]
      rfl
  | .non :: _, _, _, _, e => by cases e
  | .bl _ :: _, _, _, _, e => by cases e
  | .str _ :: _, _, _, _, e => by cases e
  | .tup _ :: _, _, _, _, e => by cases e
  | .lst _ :: _, _, _, _, e => by cases e
  | .dic _ :: _, _, _, _, e => by cases e
  | .obj _ _ :: _, _, _, _, e => by cases e
  | .scr _ :: _, _, _, _, e => by cases e
  | .gtup _ :: _, _, _, _, e => by cases e
  | .opq _ :: _, _, _, _, e => by cases e
theorem RpL.keys {K : PySem.W.Frag} {H : Hp} : ∀ {ds : List D} {vs : List V} {is : List Key}, RpL K H vs ds → keyOf ds = some is → vs = is.map kV
  | [], _, _, .nil, e => by
    cases e
    rfl
  | .int i :: r, _, _, .cons h t, e => by
    cases h
    cases er : keyOf r with
    | none =>
      simp only [keyOf, er, Option.map_none] at e
      cases e
    | some js =>
      simp only [keyOf, er, Option.map_some, Option.some.injEq] at e
      subst e
      rw [RpL.keys t er]
      rfl
  | .non :: _, _, _, _, e => by cases e
  | .bl _ :: _, _, _, _, e => by cases e
  | .str _ :: _, _, _, _, e => by cases e
  | .tup _ :: _, _, _, _, e => by cases e
  | .lst _ :: _, _, _, _, e => by cases e
  | .dic _ :: _, _, _, _, e => by cases e
  | .obj _ _ :: _, _, _, _, e => by cases e
  | .scr _ :: _, _, _, _, e => by cases e
  | .gtup _ :: _, _, _, _, e => by cases e
  | .opq _ :: _, _, _, _, e => by cases e
theorem RpK.val {K : PySem.W.Frag} {H : Hp} (k : List Key) : ∀ {kvs : List (List Key × V)} {kds : List (List Key × D)}, RpK K H kvs kds → (valV kvs k).isSome = (valD kds k).isSome ∧ ∀ d, valD kds k = some d → ∃ v, valV kvs k = some v ∧ Rp K H v d
  | _, _, .nil => ⟨rfl, fun d e => by cases e⟩
  | _, _, .cons (k := k') (v := v) (vs := vs) (d := d) (ds := ds) h r => by
    obtain ⟨h1, h2⟩ := RpK.val k r
    unfold valV valD at *
    by_cases c : k' = k
    · rw [List.find?_cons_of_pos (by simpa using c), List.find?_cons_of_pos (by simpa using c)]
      exact ⟨rfl, fun d' e => by
        cases e
        exact ⟨v, rfl, h⟩⟩
    · rw [List.find?_cons_of_neg (by simpa using c), List.find?_cons_of_neg (by simpa using c)]
      exact ⟨h1, h2⟩
theorem op_eqP (hu : X.A.units + 100 < cLine) : OpR X (compareOp .Eq) (rD2 X.K dEq) := by
  intro pins s σ H x y v u Q I rx ry h
  obtain ⟨S, dx, dy, d, sd, bx, b2, e, q⟩ := h
  unfold dEq at e
  split at e
  · next c =>
    cases e
    rw [Bool.and_eq_true] at c
    obtain ⟨as, r1⟩ := Dp.reads I _ x v (dpB_of bx c.1) rx
    obtain ⟨bs, r2⟩ := Dp.reads I _ y u (dpB_of b2 c.2) ry
    obtain ⟨p1, l1⟩ := toPy_plain 64 dx c.1
    obtain ⟨p2, l2⟩ := toPy_plain 64 dy c.2
    refine SeqAt.eq_plain r1 r2 p1 p2 (by omega) ?_
    rw [eqv_toPy 64 dx dy c.1 c.2]
    exact ⟨.bl _, H, I, rfl, q _ H (Same.refl H) (.bl _)⟩
  · cases e
theorem op_neP (hu : X.A.units + 100 < cLine) : OpR X (compareOp .NotEq) (rD2 X.K dNe) := by
  intro pins s σ H x y v u Q I rx ry h
  obtain ⟨S, dx, dy, d, sd, bx, b2, e, q⟩ := h
  unfold dNe at e
  split at e
  · next c =>
    cases e
    rw [Bool.and_eq_true] at c
    obtain ⟨as, r1⟩ := Dp.reads I _ x v (dpB_of bx c.1) rx
    obtain ⟨bs, r2⟩ := Dp.reads I _ y u (dpB_of b2 c.2) ry
    obtain ⟨p1, l1⟩ := toPy_plain 64 dx c.1
    obtain ⟨p2, l2⟩ := toPy_plain 64 dy c.2
    refine SeqAt.ne_plain r1 r2 p1 p2 (by omega) ?_
    rw [eqv_toPy 64 dx dy c.1 c.2]
    exact ⟨.bl _, H, I, rfl, q _ H (Same.refl H) (.bl _)⟩
  · cases e
/-- by ints alone -/
theorem opInts {f : Value → Value → Sem Value} {g : D → D → Option D} {r : Int → Int → V} (ho : OpR X f (rI0 r)) (hg : ∀ a b d, g a b = some d → ∃ i j, a = .int i ∧ b = .int j ∧ ∀ K H, Rp K H (r i j) d) : OpR X f (rD2 X.K g) := by
  intro pins s σ H x y v u Q I rx ry h
  obtain ⟨S, dx, dy, d, sd, bx, b2, e, q⟩ := h
  obtain ⟨i, j, rfl, rfl, hr⟩ := hg dx dy d e
  have e1 := bx.int_inv
  have e2 := b2.int_inv
  subst e1 e2
  exact ho pins s σ H _ _ v u Q I rx ry ⟨i, j, rfl, rfl, q _ H (Same.refl H) (hr _ _)⟩
theorem op_ltP (hu : X.A.units + 100 < cLine) : OpR X (compareOp .Lt) (rD2 X.K dLt) := by
  intro pins s σ H x y v u Q I rx ry h
  obtain ⟨S, dx, dy, d, sd, bx, b2, e, q⟩ := h
  unfold dLt at e
  split at e
  · cases e
    have e1 := bx.int_inv
    have e2 := b2.int_inv
    subst e1 e2
    exact op_lt pins s σ H _ _ v u Q I rx ry ⟨_, _, rfl, rfl, q _ H (Same.refl H) (.bl _)⟩
  · next xs ys =>
    cases ex : intsOf xs with
    | none =>
      rw [ex] at e
      cases e
    | some is =>
      cases ey : intsOf ys with
      | none =>
        rw [ex, ey] at e
        cases e
      | some js =>
        rw [ex, ey] at e
        cases e
        obtain ⟨a, vx, rfl, ha, ra⟩ := bx.tup_inv
        obtain ⟨b, vy, rfl, hb, rb⟩ := b2.tup_inv
        have e1 := ra.ints ex
        have e2 := rb.ints ey
        subst e1 e2
        exact op_ltT (by omega) pins s σ H _ _ v u Q I rx ry ⟨a, b, is, js, rfl, rfl, SqT.of ha, SqT.of hb, q _ H (Same.refl H) (.bl _)⟩
  · cases e
theorem op_leP : OpR X (compareOp .LtE) (rD2 X.K dLe) := opInts op_le fun a b d e => by
  unfold dLe at e
  split at e
  · cases e
    exact ⟨_, _, rfl, rfl, fun _ _ => .bl _⟩
  · cases e
theorem op_gtP : OpR X (compareOp .Gt) (rD2 X.K dGt) := opInts op_gt fun a b d e => by
  unfold dGt at e
  split at e
  · cases e
    exact ⟨_, _, rfl, rfl, fun _ _ => .bl _⟩
  · cases e
theorem op_geP : OpR X (compareOp .GtE) (rD2 X.K dGe) := opInts op_ge fun a b d e => by
  unfold dGe at e
  split at e
  · cases e
    exact ⟨_, _, rfl, rfl, fun _ _ => .bl _⟩
  · cases e
theorem any_toPy {n : Nat} {x : D} (hx : lv n x = true) : ∀ ds : List D, ds.all (lv n) = true → ((ds.map (toPy n)).any fun y => PyData.eqv y (toPy n x)) = ds.any fun y => eqN n y x
  | [], _ => rfl
  | d :: ds, h => by
    rw [List.all_cons, Bool.and_eq_true] at h
    rw [List.map_cons, List.any_cons, List.any_cons, eqv_toPy n d x h.1 hx, any_toPy hx ds h.2]
/-- in a list or tuple -/
theorem in_seqP (hu : X.A.units + 100 < cLine) {pins : List (Addr × Obj)} {s : Shared} {σ : L2.St} {H : Hp} {x y : V} {v u : Value} {S : List Addr} {dx : D} {dy : D} {ds : List D} {Q : Value → Shared → Prop} (I : Inv X pins σ H s) (rx : RelV x v) (ry : RelV y u)
    (bx : RpB X.K S H x dx) (b2 : RpB X.K S H y dy) (hs : seqOf dy = some ds) (c : (lv 64 dx && ds.all (lv 64)) = true) :
    (Q (.bool (ds.any fun y => eqN 64 y dx)) s → wpAny (model X.prog X.w) X.A (compareOp .In v u) Q X.xe s) ∧ (Q (.bool (!ds.any fun y => eqN 64 y dx)) s → wpAny (model X.prog X.w) X.A (compareOp .NotIn v u) Q X.xe s) := by
  rw [Bool.and_eq_true] at c
  obtain ⟨as, r1⟩ := Dp.reads I _ x v (dpB_of bx c.1) rx
  have l65 : lv 65 dy = true := by
    cases dy <;> first | (cases hs; exact c.2) | cases hs
  obtain ⟨bs, r2⟩ := Dp.reads I _ y u (dpB_of b2 l65) ry
  obtain ⟨p1, l1⟩ := toPy_plain 64 dx c.1
  obtain ⟨p2, l2⟩ := toPy_plainAll (toPy_plain 64) ds c.2
  have hb : X.A.units + 1 + min (PyData.depthAll (ds.map (toPy 64))) (toPy 64 dx).depth < cLine := by omega
  rw [← any_toPy c.1 ds c.2]
  cases dy with
  | lst ys =>
    cases hs
    exact ⟨fun q => SeqAt.in_list_data r2 r1 p2 p1 hb q, fun q => SeqAt.notIn_list_data r2 r1 p2 p1 hb q⟩
  | tup ys =>
    cases hs
    exact ⟨fun q => SeqAt.in_tuple_data r2 r1 p2 p1 hb q, fun q => SeqAt.notIn_tuple_data r2 r1 p2 p1 hb q⟩
  | gtup ys =>
    cases hs
    exact ⟨fun q => SeqAt.in_tuple_data r2 r1 p2 p1 hb q, fun q => SeqAt.notIn_tuple_data r2 r1 p2 p1 hb q⟩
  | _ => cases hs
theorem in_bothP (hu : X.A.units + 100 < cLine) {pins : List (Addr × Obj)} {s : Shared} {σ : L2.St} {H : Hp} {x y : V} {v u : Value} {S : List Addr} {dx dy : D} {k : Bool} {Q : VK} (I : Inv X pins σ H s) (rx : RelV x v) (ry : RelV y u)
    (bx : RpB X.K S H x dx) (b2 : RpB X.K S H y dy) (e : inB dx dy = some k) :
    (Q (.bl k) H → wpAny (model X.prog X.w) X.A (compareOp .In v u) (EP X pins σ Q) X.xe s) ∧ (Q (.bl (!k)) H → wpAny (model X.prog X.w) X.A (compareOp .NotIn v u) (EP X pins σ Q) X.xe s) := by
  unfold inB at e
  split at e
  · next ds =>
    split at e
    · next c =>
      cases e
      obtain ⟨h1, h2⟩ := in_seqP (Q := EP X pins σ Q) hu I rx ry bx b2 rfl c
      exact ⟨fun q => h1 ⟨.bl _, H, I, rfl, q⟩, fun q => h2 ⟨.bl _, H, I, rfl, q⟩⟩
    · cases e
  · next ds =>
    split at e
    · next c =>
      cases e
      obtain ⟨h1, h2⟩ := in_seqP (Q := EP X pins σ Q) hu I rx ry bx b2 rfl c
      exact ⟨fun q => h1 ⟨.bl _, H, I, rfl, q⟩, fun q => h2 ⟨.bl _, H, I, rfl, q⟩⟩
    · cases e
  · next ds =>
    split at e
    · next c =>
      cases e
      obtain ⟨h1, h2⟩ := in_seqP (Q := EP X pins σ Q) hu I rx ry bx b2 rfl c
      exact ⟨fun q => h1 ⟨.bl _, H, I, rfl, q⟩, fun q => h2 ⟨.bl _, H, I, rfl, q⟩⟩
    · cases e
  · next x' y' =>
    have e1 := bx.str_inv
    have e2 := b2.str_inv
    subst e1 e2
    split at e
    · next c ec =>
      cases e
      have ex : x' = ⟨#[c]⟩ := by
        obtain ⟨cps⟩ := x'
        have : cps = #[c] := by
          rw [← Array.toArray_toList (xs := cps), ec]
        rw [this]
      subst ex
      exact ⟨fun q => op_in_sign pins s σ H _ _ v u Q I rx ry ⟨c, y', rfl, rfl, q⟩, fun q => op_notIn_sign pins s σ H _ _ v u Q I rx ry ⟨c, y', rfl, rfl, q⟩⟩
    · cases e
  · next ks kvs =>
    cases ek : keyOf ks with
    | none =>
      rw [ek] at e
      cases e
    | some k' =>
      rw [ek] at e
      cases e
      obtain ⟨a, vx, rfl, ha, ra⟩ := bx.tup_inv
      obtain ⟨b, vy, rfl, hb, rb⟩ := b2.dic_inv
      have e1 := ra.keys ek
      subst e1
      obtain ⟨h1, h2⟩ := rb.val k'
      cases ry
      dsimp only
      rw [← h1]
      exact ⟨fun q => d_in (by omega) I (DGet.t hb ha) rx fun s' I' => ⟨.bl _, H, I', rfl, q⟩, fun q => d_notIn (by omega) I (DGet.t hb ha) rx fun s' I' => ⟨.bl _, H, I', rfl, q⟩⟩
  · cases e
theorem op_inP (hu : X.A.units + 100 < cLine) : OpR X (compareOp .In) (rD2 X.K dIn) := by
  intro pins s σ H x y v u Q I rx ry h
  obtain ⟨S, dx, dy, d, sd, bx, b2, e, q⟩ := h
  unfold dIn at e
  cases ek : inB dx dy with
  | none =>
    rw [ek] at e
    cases e
  | some k =>
    rw [ek] at e
    cases e
    exact (in_bothP hu I rx ry bx b2 ek).1 (q _ H (Same.refl H) (.bl _))
theorem op_notInP (hu : X.A.units + 100 < cLine) : OpR X (compareOp .NotIn) (rD2 X.K dNotIn) := by
  intro pins s σ H x y v u Q I rx ry h
  obtain ⟨S, dx, dy, d, sd, bx, b2, e, q⟩ := h
  unfold dNotIn at e
  cases ek : inB dx dy with
  | none =>
    rw [ek] at e
    cases e
  | some k =>
    rw [ek] at e
    cases e
    exact (in_bothP hu I rx ry bx b2 ek).2 (q _ H (Same.refl H) (.bl _))
theorem isNon_of {K : PySem.W.Frag} {S : List Addr} {H : Hp} {v : V} {d : D} (h : RpB K S H v d) : decide (v = .non) = isNon d := by
  rcases h with h | h <;> cases h <;> rfl
theorem op_isP : OpR X (compareOp .Is) (rD2 X.K dIs) := by
  intro pins s σ H x y v u Q I rx ry h
  obtain ⟨S, dx, dy, d, sd, bx, b2, e, q⟩ := h
  unfold dIs at e
  cases ek : isIs dx dy with
  | none =>
    rw [ek] at e
    cases e
  | some k =>
    rw [ek] at e
    cases e
    unfold isIs at ek
    split at ek
    · cases ek
      have e2 := b2.non_inv
      subst e2
      refine op_isN pins s σ H _ _ v u Q I rx ry ⟨rfl, ?_⟩
      rw [isNon_of bx]
      exact q _ H (Same.refl H) (.bl _)
    · cases ek
      have e1 := bx.bl_inv
      have e2 := b2.bl_inv
      subst e1 e2
      exact op_isBl pins s σ H _ _ v u Q I rx ry ⟨_, _, rfl, rfl, q _ H (Same.refl H) (.bl _)⟩
    · cases ek
theorem op_isNotP : OpR X (compareOp .IsNot) (rD2 X.K dIsNot) := by
  intro pins s σ H x y v u Q I rx ry h
  obtain ⟨S, dx, dy, d, sd, bx, b2, e, q⟩ := h
  unfold dIsNot at e
  cases ek : isIs dx dy with
  | none =>
    rw [ek] at e
    cases e
  | some k =>
    rw [ek] at e
    cases e
    unfold isIs at ek
    split at ek
    · cases ek
      have e2 := b2.non_inv
      subst e2
      refine op_notN pins s σ H _ _ v u Q I rx ry ⟨rfl, ?_⟩
      rw [isNon_of bx]
      exact q _ H (Same.refl H) (.bl _)
    · cases ek
      have e1 := bx.bl_inv
      have e2 := b2.bl_inv
      subst e1 e2
      exact op_notBl pins s σ H _ _ v u Q I rx ry ⟨_, _, rfl, rfl, q _ H (Same.refl H) (.bl _)⟩
    · cases ek
end
/-! ### arithmetic -/
def dAdd : D → D → Option D
  | .int i, .int j => some (.int (i + j))
  | .str a, .str b => if a.length + b.length ≤ sizeLine then some (.str (a ++ b)) else none
  | .tup xs, .tup ys => if xs.length + ys.length ≤ sizeLine then some (.tup (xs ++ ys)) else none
  | .lst xs, .lst ys => if xs.length + ys.length ≤ sizeLine then some (.lst (xs ++ ys)) else none
  | _, _ => none
def dSub : D → D → Option D
  | .int i, .int j => some (.int (i - j))
  | _, _ => none
def small64b (i : Int) : Bool := decide (-(2 ^ 64) < i) && decide (i < 2 ^ 64)
def dMul : D → D → Option D
  | .int i, .int j => if (small64b i || small64b j) = true then some (.int (i * j)) else none
  | _, _ => none
def dFdiv : D → D → Option D
  | .int i, .int j => if (decide (0 < j) && decide (j < 1073741824)) = true then some (.int (i / j)) else none
  | _, _ => none
def dMod : D → D → Option D
  | .int i, .int j => if 0 < j then some (.int (i % j)) else none
  | _, _ => none
def dNeg : D → Option D
  | .int i => some (.int (-i))
  | _ => none
section
variable {X : Cx}
theorem op_addP : OpR X (binaryOp .Add) (rD2 X.K dAdd) := by
  intro pins s σ H x y v u Q I rx ry h
  obtain ⟨S, dx, dy, d, sd, bx, b2, e, q⟩ := h
  unfold dAdd at e
  split at e
  · cases e
    have e1 := bx.int_inv
    have e2 := b2.int_inv
    subst e1 e2
    exact op_add pins s σ H _ _ v u Q I rx ry ⟨_, _, rfl, rfl, q _ H (Same.refl H) (.int _)⟩
  · split at e
    · next c =>
      cases e
      have e1 := bx.str_inv
      have e2 := b2.str_inv
      subst e1 e2
      exact op_add_str pins s σ H _ _ v u Q I rx ry ⟨_, _, rfl, rfl, c, q _ H (Same.refl H) (.str _)⟩
    · cases e
  · split at e
    · next c =>
      cases e
      obtain ⟨a, vx, rfl, ha, ra⟩ := bx.tup_inv
      obtain ⟨b, vy, rfl, hb, rb⟩ := b2.tup_inv
      have p1 := bx.tup_rp
      have p2 := b2.tup_rp
      refine op_catA pins s σ H _ _ v u Q I rx ry ⟨a, b, vx, vy, rfl, rfl, SqT.of ha, SqT.of hb, by rw [ra.len, rb.len]; exact c, fun z => ?_, fun _ z => ?_, fun _ _ p np => ?_⟩
      · subst z
        cases ra
        exact q _ H (Same.refl H) p2
      · subst z
        cases rb
        rw [List.append_nil] at q
        exact q _ H (Same.refl H) p1
      · exact q _ _ (same_new np) (new_tup sd np (ra.app rb))
    · cases e
  · split at e
    · next c =>
      cases e
      obtain ⟨a, vx, rfl, ha, ra⟩ := bx.lst_inv
      obtain ⟨b, vy, rfl, hb, rb⟩ := b2.lst_inv
      exact op_cat pins s σ H _ _ v u Q I rx ry ⟨a, b, vx, vy, rfl, rfl, ha, hb, by rw [ra.len, rb.len]; exact c, fun p np => q _ _ (same_new np) (new_lst sd np (ra.app rb))⟩
    · cases e
  · cases e
theorem op_subP : OpR X (binaryOp .Sub) (rD2 X.K dSub) := opInts op_sub fun a b d e => by
  unfold dSub at e
  split at e
  · cases e
    exact ⟨_, _, rfl, rfl, fun _ _ => .int _⟩
  · cases e
theorem opIntsC {f : Value → Value → Sem Value} {g : D → D → Option D} {C : Int → Int → Prop} {r : Int → Int → V} (ho : OpR X f (rI C r)) (hg : ∀ a b d, g a b = some d → ∃ i j, a = .int i ∧ b = .int j ∧ C i j ∧ ∀ K H, Rp K H (r i j) d) : OpR X f (rD2 X.K g) := by
  intro pins s σ H x y v u Q I rx ry h
  obtain ⟨S, dx, dy, d, sd, bx, b2, e, q⟩ := h
  obtain ⟨i, j, rfl, rfl, hc, hr⟩ := hg dx dy d e
  have e1 := bx.int_inv
  have e2 := b2.int_inv
  subst e1 e2
  exact ho pins s σ H _ _ v u Q I rx ry ⟨i, j, rfl, rfl, hc, q _ H (Same.refl H) (hr _ _)⟩
theorem op_mulP : OpR X (binaryOp .Mult) (rD2 X.K dMul) := opIntsC op_mul fun a b d e => by
  unfold dMul at e
  split at e
  · split at e
    · next c =>
      cases e
      refine ⟨_, _, rfl, rfl, ?_, fun _ _ => .int _⟩
      rw [Bool.or_eq_true] at c
      unfold small64b at c
      simp only [Bool.and_eq_true, decide_eq_true_eq] at c
      exact c
    · cases e
  · cases e
theorem op_fdivP : OpR X (binaryOp .FloorDiv) (rD2 X.K dFdiv) := opIntsC op_fdiv fun a b d e => by
  unfold dFdiv at e
  split at e
  · split at e
    · next c =>
      cases e
      refine ⟨_, _, rfl, rfl, ?_, fun _ _ => .int _⟩
      simp only [Bool.and_eq_true, decide_eq_true_eq] at c
      exact c
    · cases e
  · cases e
theorem op_modP : OpR X (binaryOp .Mod) (rD2 X.K dMod) := opIntsC op_mod fun a b d e => by
  unfold dMod at e
  split at e
  · split at e
    · next c =>
      cases e
      exact ⟨_, _, rfl, rfl, c, fun _ _ => .int _⟩
    · cases e
  · cases e
theorem un_negP : UnR X (unaryOp .USub) (rD1 X.K dNeg) := by
  intro pins s σ H x v Q I rx h
  obtain ⟨S, dx, d, sd, bx, e, q⟩ := h
  unfold dNeg at e
  split at e
  · cases e
    have e1 := bx.int_inv
    subst e1
    exact un_neg pins s σ H _ v Q I rx ⟨_, rfl, q _ H (Same.refl H) (.int _)⟩
  · cases e
end
/-! ### items -/
def dIx : D → D → Option D
  | .tup ds, .int i => atI ds i
  | .lst ds, .int i => atI ds i
  | .gtup ds, .int i => atI ds i
  | .scr ns, .int i => (atI ns i).map .int
  | .str x, .int i => if x.length ≤ sizeLine then (atI x.cps.toList i).map fun c => .str ⟨#[c]⟩ else none
  | .dic kvs, .tup ks => (keyOf ks).bind fun k => valD kvs k
  | _, _ => none
theorem RpL.atI {K : PySem.W.Frag} {H : Hp} {vs : List V} {ds : List D} {i : Int} {d : D} (r : RpL K H vs ds) (e : atI ds i = some d) : ∃ v, L2.atI vs i = some v ∧ Rp K H v d := by
  unfold L2.atI at *
  rw [r.len]
  cases c : ixN ds.length i with
  | none =>
    rw [c] at e
    cases e
  | some j =>
    rw [c] at e
    obtain ⟨v, h1, h2⟩ := r.get e
    exact ⟨v, h1, h2⟩
section
variable {X : Cx}
theorem ix_dict (hu : X.A.units + 100 < cLine) : IxR X (fun x y H Q => ∃ a v, x = .ref a ∧ DGet H a y (some v) ∧ Q v H) := by
  intro value slice pins s σ H x y v u Q I rx ry h hs
  obtain ⟨a, z, rfl, g, q⟩ := h
  cases rx
  have hT := dict_typeIs I g
  unfold subscriptTail
  refine wpAny_bind ?_
  rw [getitemInPython_of_ne hT.not_modules]
  refine wpAny_bind (wpAny_specialOf hT PySem.F.slot_dict_getitem.lookup ?_)
  have fin : wpAny (model X.prog X.w) X.A (subscripted slice false (.ref a) u) (fun r s₃ => wpAny (model X.prog X.w) X.A (letTemporaryGo value (.ref a) r >>= fun _ => pure r) (EP X pins σ Q) X.xe s₃) X.xe s := by
    rw [hs]
    exact wpAny_operating (d_getItem (by omega) I g ry fun w' s' I' r' => wpAny_bind (wpAny_letTemporaryGo (wpAny_pure ⟨z, H, I', r', q⟩)))
  first
    | exact wpAny_pure (wpAny_bind fin)
    | exact wpAny_bind (wpAny_pure (wpAny_bind fin))
    | exact wpAny_bind fin
theorem ix_P (hu : X.A.units + 100 < cLine) : IxR X (rD2 X.K dIx) := by
  intro value slice pins s σ H x y v u Q I rx ry h hs
  obtain ⟨S, dx, dy, d, sd, bx, b2, e, q⟩ := h
  unfold dIx at e
  split at e
  · obtain ⟨a, vx, rfl, ha, ra⟩ := bx.tup_inv
    have e2 := b2.int_inv
    subst e2
    obtain ⟨z, h1, h2⟩ := ra.atI e
    exact ix_tup value slice pins s σ H _ _ v u Q I rx ry ⟨a, vx, _, z, rfl, rfl, SqT.of ha, h1, q z H (Same.refl H) h2⟩ hs
  · obtain ⟨a, vx, rfl, ha, ra⟩ := bx.lst_inv
    have e2 := b2.int_inv
    subst e2
    obtain ⟨z, h1, h2⟩ := ra.atI e
    exact ix_list value slice pins s σ H _ _ v u Q I rx ry ⟨a, vx, _, z, rfl, rfl, SqL.of ha, h1, q z H (Same.refl H) h2⟩ hs
  · obtain ⟨a, vx, rfl, ha, ra⟩ := bx.gtup_inv
    have e2 := b2.int_inv
    subst e2
    obtain ⟨z, h1, h2⟩ := ra.atI e
    exact ix_tup value slice pins s σ H _ _ v u Q I rx ry ⟨a, vx, _, z, rfl, rfl, ha, h1, q z H (Same.refl H) h2⟩ hs
  · next ns i =>
    obtain ⟨a, rfl, ha⟩ := bx.scr_inv
    have e2 := b2.int_inv
    subst e2
    cases ei : atI ns i with
    | none =>
      rw [ei] at e
      cases e
    | some z =>
      rw [ei] at e
      cases e
      have h1 : atI (ns.map V.int) i = some (.int z) := by
        unfold L2.atI at *
        rw [List.length_map]
        cases c : ixN ns.length i with
        | none =>
          rw [c] at ei
          cases ei
        | some j =>
          rw [c] at ei
          show (ns.map V.int)[j]? = _
          rw [List.getElem?_map]
          rw [show ns[j]? = some z from ei]
          rfl
      exact ix_list value slice pins s σ H _ _ v u Q I rx ry ⟨a, _, _, _, rfl, rfl, ha, h1, q _ H (Same.refl H) (.int _)⟩ hs
  · next x' i =>
    split at e
    · next c =>
      have e1 := bx.str_inv
      have e2 := b2.int_inv
      subst e1 e2
      cases ei : atI x'.cps.toList i with
      | none =>
        rw [ei] at e
        cases e
      | some z =>
        rw [ei] at e
        cases e
        exact ix_str value slice pins s σ H _ _ v u Q I rx ry ⟨_, _, z, rfl, rfl, c, ei, q _ H (Same.refl H) (.str _)⟩ hs
    · cases e
  · next kvs ks =>
    cases ek : keyOf ks with
    | none =>
      rw [ek] at e
      cases e
    | some k =>
      rw [ek] at e
      obtain ⟨a, vx, rfl, ha, ra⟩ := bx.dic_inv
      obtain ⟨b, vy, rfl, hb, rb⟩ := b2.tup_inv
      have e1 := rb.keys ek
      subst e1
      obtain ⟨z, h1, h2⟩ := (ra.val k).2 d e
      exact ix_dict hu value slice pins s σ H _ _ v u Q I rx ry ⟨a, z, rfl, h1 ▸ DGet.t ha hb, q z H (Same.refl H) h2⟩ hs
  · cases e
end
end DL

set_option Elab.async false
set_option linter.all false
set_option maxRecDepth 100000
set_option maxHeartbeats 1000000
/-! DL4: statements, loops. -/
namespace DL
open PySem PySem.Spec PyProof.Rows L2

inductive SR where
  | nx (ρ : Rho) | rt (d : D) | bk (ρ : Rho) | ct (ρ : Rho) | er (c : Str) | stuck | rk (d : D) (ρ : Rho)
def PostS (K : PySem.W.Frag) (F : Fm) (S : List Addr) (H : Hp) (D : Ends) : SR → Prop
  | .nx ρ => ∀ S' σ' H', EnvOk K F S' σ' H' ρ → Ex (hide H S) (hide H' S') → D.nx σ' H'
  | .rt d => ∀ v H', F.I H' → Rp K (hide H' F.S0) v d → D.rt v H'
  | .bk ρ => ∀ S' σ' H', EnvOk K F S' σ' H' ρ → Ex (hide H S) (hide H' S') → D.bk σ' H'
  | .ct ρ => ∀ S' σ' H', EnvOk K F S' σ' H' ρ → Ex (hide H S) (hide H' S') → D.ct σ' H'
  | .er c => ∀ H', F.I H' → F.E (.ref (He.ga K c)) none H'
  | .stuck => False
  | .rk d ρ => ∀ v S' σ' H', EnvOk K F S' σ' H' ρ → Ex (hide H S) (hide H' S') → Rp K (hide H' S') v d → D.rt v H'
theorem PostS.mono {K : PySem.W.Frag} {F : Fm} {S S1 : List Addr} {H H1 : Hp} {D : Ends} {r : SR} (h : PostS K F S H D r) (x : Ex (hide H S) (hide H1 S1)) : PostS K F S1 H1 D r := by
  cases r with
  | nx ρ => exact fun S' σ' H' ok z => h S' σ' H' ok (x.trans z)
  | bk ρ => exact fun S' σ' H' ok z => h S' σ' H' ok (x.trans z)
  | ct ρ => exact fun S' σ' H' ok z => h S' σ' H' ok (x.trans z)
  | rt d => exact h
  | er c => exact h
  | stuck => exact h
  | rk d ρ => exact fun v S' σ' H' ok z => h v S' σ' H' ok (x.trans z)
def tS (K : PySem.W.Frag) (F : Fm) (s : Rho → SR) : TS := fun D σ H => ∃ S ρ, EnvOk K F S σ H ρ ∧ PostS K F S H D (s ρ)
abbrev DS (X : Cx) (F : Fm) (st : Stmt) (s : Rho → SR) : Prop := PS X st (tS X.K F s)
abbrev DSs (X : Cx) (F : Fm) (st : List Stmt) (s : Rho → SR) : Prop := PSs X st (tS X.K F s)
/-- a result, then a statement's end -/
def sBind {β : Type} (r : Res β) (k : β → SR) : SR := match r with
  | .ok a => k a
  | .err c => .er c
  | .stuck => .stuck
theorem post_sbind {K : PySem.W.Frag} {F : Fm} {α β : Type} {sa : Res β} {k : β → SR} {ka : Kd F α β} {S : List Addr} {H : Hp} {D : Ends} {Q' : α → Hp → Prop}
    (h : PostS K F S H D (sBind sa k)) (hn : ∀ d, sa = .ok d → PostS K F S H D (k d) → ka.post S H Q' d) : PostK K ka S H Q' sa := by
  cases sa with
  | ok d => exact hn d rfl h
  | err c => exact h
  | stuck => exact h

section
variable {X : Cx} {F : Fm} {st : Stmt} {rest : List Stmt} {a b : Rho → SR} {pos : Pos} {e : Expr} {se : Rho → Res D}
def sSeq (a b : Rho → SR) : Rho → SR := fun ρ => match a ρ with
  | .nx ρ' => b ρ'
  | r => r
def sNil : Rho → SR := fun ρ => .nx ρ
theorem dss_nil : DSs X F [] sNil := PSs.imp pss_nil fun D σ H ⟨S, ρ, ok, h⟩ => h S σ H ok (Ex.refl _)
theorem dss_one (h : DS X F st a) : DSs X F [st] a := pss_one h
theorem tSeq_of {K : PySem.W.Frag} {D : Ends} {σ : L2.St} {H : Hp} (h : tS K F (sSeq a b) D σ H) : tSeq (tS K F a) (tS K F b) D σ H := by
  obtain ⟨S, ρ, ok, h⟩ := h
  refine ⟨S, ρ, ok, ?_⟩
  unfold sSeq at h
  cases e : a ρ with
  | nx ρ' =>
    rw [e] at h
    exact fun S' σ' H' ok' x => ⟨S', ρ', ok', h.mono x⟩
  | _ =>
    rw [e] at h
    exact h
theorem dss_cons (h1 : DS X F st a) (h2 : DSs X F rest b) : DSs X F (st :: rest) (sSeq a b) := PSs.imp (pss_cons h1 h2) fun D σ H h => tSeq_of h
theorem ds_pass : DS X F (.Pass pos) sNil := PS.imp ps_pass fun D σ H ⟨S, ρ, ok, h⟩ => h S σ H ok (Ex.refl _)
def sBrk : Rho → SR := fun ρ => .bk ρ
def sCont : Rho → SR := fun ρ => .ct ρ
theorem ds_break : DS X F (.Break pos) sBrk := PS.imp ps_break fun D σ H ⟨S, ρ, ok, h⟩ => h S σ H ok (Ex.refl _)
theorem ds_continue : DS X F (.Continue pos) sCont := PS.imp ps_continue fun D σ H ⟨S, ρ, ok, h⟩ => h S σ H ok (Ex.refl _)
def sRet (s : Rho → Res D) : Rho → SR := fun ρ => sBind (s ρ) fun d => .rt d
theorem ds_ret (he : DP X F e se) : DS X F (.Return (some e) pos) (sRet se) := PS.imp (ps_ret he) fun D σ H ⟨S, ρ, ok, h⟩ =>
  ⟨S, ρ, ok, post_sbind h fun d ed h1 => fun v H' g r => h1 v H' (F.up ok.grow g) (r.ex (hide_less ok.base))⟩
def sDrop (s : Rho → Res D) : Rho → SR := fun ρ => sBind (s ρ) fun _ => .nx ρ
theorem ds_expr (he : DP X F e se) (hs : swapsWith e none pos.line X.env = pure false := by rfl) : DS X F (.Expr e pos) (sDrop se) := PS.imp (ps_expr he hs) fun D σ H ⟨S, ρ, ok, h⟩ =>
  ⟨S, ρ, ok, post_sbind h fun d ed h1 => fun v H' g r => h1 S σ H' (ok.up g) (hide_mono (F.gr.ex g) S)⟩
def sIf (c : Rho → Res Bool) (a b : Rho → SR) : Rho → SR := fun ρ => sBind (c ρ) fun k => if k = true then a ρ else b ρ
theorem ds_if {c : Expr} {sc : Rho → Res Bool} {sa sb : List Stmt} (hc : DT X F c sc) (ha : DSs X F sa a) (hb : DSs X F sb b) : DS X F (.If c sa sb pos) (sIf sc a b) := PS.imp (ps_if hc ha hb) fun D σ H ⟨S, ρ, ok, h⟩ =>
  ⟨S, ρ, ok, post_sbind h fun k ek h1 => fun H' g => by
    cases k with
    | true => exact iteT ⟨S, ρ, ok.up g, PostS.mono (r := a ρ) h1 (hide_mono (F.gr.ex g) S)⟩
    | false => exact iteF ⟨S, ρ, ok.up g, PostS.mono (r := b ρ) h1 (hide_mono (F.gr.ex g) S)⟩⟩
/-! ### stores -/
def sSet (i : Nat) (s : Rho → Res D) : Rho → SR := fun ρ => sBind (s ρ) fun d => .nx (ρ.set i (.fz d))
theorem ds_set {i : Nat} {x : Str} {pos' : Pos} (hN : X.N.Nodup) (he : DP X F e se) (hi : X.N[i]? = some x := by rfl) (hx : Loc X.env.scope x := by first | exact Or.inl rfl | exact Or.inr rfl)
    (hs : swapsWith e (some (.Name x pos')) pos.line X.env = pure false := by rfl) (hf : X.fn x = true ∨ X.env.scope.names.lookup x = some .local := by first | exact .inl rfl | exact .inr rfl) :
    DS X F (.Assign [.Name x pos'] e pos) (sSet i se) := PS.imp (ps_set hN hi hx he hs hf) fun D σ H ⟨S, ρ, ok, h⟩ =>
  ⟨S, ρ, ok, post_sbind h fun d ed h1 => fun v H' g r => h1 S _ H' ((ok.up g).set i r) (hide_mono (F.gr.ex g) S)⟩
/-- an own object is stored -/
theorem EnvOk.own {K : PySem.W.Frag} {S : List Addr} {σ : L2.St} {H H' : Hp} {ρ : Rho} (ok : EnvOk K F S σ H ρ) (i : Nat) {p : Addr} {d : D} (g : F.G H H') (n : Nt H p) (o : Own K (p :: S) H' (.ref p) d) :
    EnvOk K F (p :: S) (σ.set i (some (.ref p))) H' (ρ.set i (.ow d)) where
  grow := F.up ok.grow g
  base := fun a h => List.mem_cons_of_mem _ (ok.base a h)
  new := fun a h => by
    rcases List.mem_cons.mp h with rfl | h
    · exact .inr (F.fresh ok.grow n)
    · exact ok.new a h
  sdom := fun a h => by
    rcases List.mem_cons.mp h with rfl | h
    · cases o with
      | lst _ h2 _ => exact ⟨_, h2, .lst _⟩
      | dic _ h2 _ => exact ⟨_, h2, .dT _⟩
    · exact (ok.up g).sdom a h
  len := by rw [List.length_set, List.length_set, ok.len]
  slots := fun j s e => by
    by_cases c : i = j
    · subst c
      have hl : i < ρ.length := by
        have := (List.getElem?_eq_some_iff.mp e).1
        rwa [List.length_set] at this
      rw [List.getElem?_set_self hl] at e
      cases e
      rw [List.getElem?_set_self (by rw [ok.len]; exact hl)]
      exact ⟨_, rfl, _, rfl, o⟩
    · rw [List.getElem?_set_ne c] at e
      rw [List.getElem?_set_ne c]
      obtain ⟨o', h1, h2⟩ := ok.slots j s e
      refine ⟨o', h1, ?_⟩
      have x : Ex (hide H S) (hide H' (p :: S)) := hide_new (F.gr.ex g) n
      cases s with
      | no => trivial
      | fz d' =>
        obtain ⟨v, e1, r⟩ := h2
        exact ⟨v, e1, r.ex x⟩
      | ow d' =>
        obtain ⟨v, e1, r⟩ := h2
        refine ⟨v, e1, ?_⟩
        cases r with
        | lst q1 q2 q3 => exact .lst (List.mem_cons_of_mem _ q1) (F.gr.ex g _ _ q2 fun ps z => by cases z) (q3.ex x)
        | dic q1 q2 q3 => exact .dic (List.mem_cons_of_mem _ q1) (F.gr.ex g _ _ q2 fun ps z => by cases z) (q3.ex x)
      | tr t => trivial
  dist := fun j k dj dk a h1 h2 h3 h4 => by
    have old : ∀ l dl, i ≠ l → (ρ.set i (.ow d))[l]? = some (.ow dl) → (σ.set i (some (.ref p)))[l]? = some (some (.ref p)) → False := fun l dl c q1 q2 => by
      rw [List.getElem?_set_ne c] at q1 q2
      obtain ⟨o', z1, v, rfl, z2⟩ := ok.slots l _ q1
      rw [z1] at q2
      cases q2
      cases z2 with
      | lst _ z3 _ => exact n.no z3 fun ps z => by cases z
      | dic _ z3 _ => exact n.no z3 fun ps z => by cases z
    have own : ∀ l dl, i = l → (ρ.set i (.ow d))[l]? = some (.ow dl) → (σ.set i (some (.ref p)))[l]? = some (some (.ref a)) → a = p := fun l dl c q1 q2 => by
      subst c
      have hl : i < ρ.length := by
        have := (List.getElem?_eq_some_iff.mp q1).1
        rwa [List.length_set] at this
      rw [List.getElem?_set_self (by rw [ok.len]; exact hl)] at q2
      cases q2
      rfl
    by_cases c : i = j
    · by_cases c' : i = k
      · exact c.symm.trans c'
      · have := own j dj c h1 h3
        subst this
        exact (old k dk c' h2 h4).elim
    · by_cases c' : i = k
      · have := own k dk c' h2 h4
        subst this
        exact (old j dj c h1 h3).elim
      · rw [List.getElem?_set_ne c] at h1 h3
        rw [List.getElem?_set_ne c'] at h2 h4
        exact ok.dist j k dj dk a h1 h2 h3 h4
  nown := fun j dj a h1 h2 => by
    by_cases c : i = j
    · subst c
      have hl : i < ρ.length := by
        have := (List.getElem?_eq_some_iff.mp h1).1
        rwa [List.length_set] at this
      rw [List.getElem?_set_self (by rw [ok.len]; exact hl)] at h2
      cases h2
      exact fun z => ok.fresh n (ok.base _ z)
    · rw [List.getElem?_set_ne c] at h1 h2
      exact ok.nown j dj a h1 h2
  trs := ok.trs.move (hide_new (F.gr.ex g) n) (fun b o hb ho m _ _ => ⟨List.mem_cons_of_mem _ hb, F.gr.ex g b o ho m.nt⟩) (fun j t e => by
      obtain ⟨c, e'⟩ := set_tr e fun u z => by cases z
      exact ⟨e', List.getElem?_set_ne c⟩) (fun a _ h _ => h) fun j dj a e1 e2 => by
    by_cases c : i = j
    · subst c
      have hl : i < ρ.length := by
        have := (List.getElem?_eq_some_iff.mp e1).1
        rwa [List.length_set] at this
      rw [List.getElem?_set_self (by rw [ok.len]; exact hl)] at e2
      cases e2
      exact .inl (ok.fresh n)
    · rw [List.getElem?_set_ne c] at e1 e2
      exact .inr ⟨j, dj, e1, e2⟩
def sNew (i : Nat) (s : Rho → Res D) : Rho → SR := fun ρ => sBind (s ρ) fun d => .nx (ρ.set i (.ow d))
theorem ds_new {i : Nat} {x : Str} {pos' : Pos} (hN : X.N.Nodup) (he : DF X F e se) (hi : X.N[i]? = some x := by rfl) (hx : Loc X.env.scope x := by first | exact Or.inl rfl | exact Or.inr rfl)
    (hs : swapsWith e (some (.Name x pos')) pos.line X.env = pure false := by rfl) (hf : X.fn x = true ∨ X.env.scope.names.lookup x = some .local := by first | exact .inl rfl | exact .inr rfl) :
    DS X F (.Assign [.Name x pos'] e pos) (sNew i se) := PS.imp (ps_set hN hi hx he hs hf) fun D σ H ⟨S, ρ, ok, h⟩ =>
  ⟨S, ρ, ok, post_sbind h fun d ed h1 => fun p H' g n o => h1 (p :: S) _ H' (ok.own i g n o) (hide_new (F.gr.ex g) n)⟩
/-- an own object is changed -/
theorem EnvOk.turn {K : PySem.W.Frag} {S : List Addr} {σ : L2.St} {H : Hp} {ρ : Rho} (ok : EnvOk K F S σ H ρ) {i : Nat} {a : Addr} {d d' : D} {o : HO} (hi : ρ[i]? = some (.ow d)) (ha : σ[i]? = some (some (.ref a)))
    (n : Own K S (upd H a o) (.ref a) d') : EnvOk K F S σ (upd H a o) (ρ.set i (.ow d')) := by
  obtain ⟨o', h1, v, ev, h2⟩ := ok.slots i _ hi
  rw [ha] at h1
  cases h1
  cases ev
  obtain ⟨aS, ⟨ob, hob, kind⟩⟩ : a ∈ S ∧ ∃ ob, H a = some ob ∧ Mut ob := by
    cases h2 with
    | lst q1 q2 _ => exact ⟨q1, _, q2, .lst _⟩
    | dic q1 q2 _ => exact ⟨q1, _, q2, .dT _⟩
  have n0 : F.W a := by
    rcases ok.new a aS with z | z
    · exact absurd z (ok.nown i d a hi ha)
    · exact z
  have hid : hide (upd H a o) S = hide H S := hide_upd aS
  have hl : i < ρ.length := (List.getElem?_eq_some_iff.mp hi).1
  refine ⟨F.mu ok.grow n0 hob kind, ok.base, ok.new, fun b hb => ?_, by rw [List.length_set, ok.len], fun j s e => ?_, fun j k dj dk b h1 h2 h3 h4 => ?_, fun j dj b h1 h2 => ?_, ok.trs.move (by rw [hid]; exact Ex.refl _) (fun b o' hb ho _ no _ => ⟨hb, by
    have nb : b ≠ a := fun z => by
      subst z
      exact no i d hi ha
    rw [upd_ne nb]
    exact ho⟩) (fun j t e => by
      obtain ⟨c, e'⟩ := set_tr e fun u z => by cases z
      exact ⟨e', rfl⟩) (fun a _ h _ => h) fun j dj b e1 e2 => by
    by_cases c : i = j
    · subst c
      exact .inr ⟨i, d, hi, e2⟩
    · rw [List.getElem?_set_ne c] at e1
      exact .inr ⟨j, dj, e1, e2⟩⟩
  · by_cases c : b = a
    · subst c
      cases n with
      | lst _ q2 _ => exact ⟨_, q2, .lst _⟩
      | dic _ q2 _ => exact ⟨_, q2, .dT _⟩
    · rw [upd_ne c]
      exact ok.sdom b hb
  · by_cases c : i = j
    · subst c
      rw [List.getElem?_set_self hl] at e
      cases e
      exact ⟨_, ha, _, rfl, n⟩
    · rw [List.getElem?_set_ne c] at e
      obtain ⟨o', z1, z2⟩ := ok.slots j s e
      refine ⟨o', z1, ?_⟩
      cases s with
      | no => trivial
      | fz d' =>
        obtain ⟨v, e1, r⟩ := z2
        exact ⟨v, e1, by rw [hid]; exact r⟩
      | ow dj =>
        obtain ⟨v, e1, r⟩ := z2
        subst e1
        refine ⟨v, rfl, ?_⟩
        cases r with
        | @lst b _ _ q1 q2 q3 =>
          have nb : b ≠ a := fun z => by
            subst z
            exact c (ok.dist i j _ _ b hi e ha z1)
          exact .lst q1 (by rw [upd_ne nb]; exact q2) (by rw [hid]; exact q3)
        | @dic b _ _ q1 q2 q3 =>
          have nb : b ≠ a := fun z => by
            subst z
            exact c (ok.dist i j _ _ b hi e ha z1)
          exact .dic q1 (by rw [upd_ne nb]; exact q2) (by rw [hid]; exact q3)
      | tr t => trivial
  · have back : ∀ (l : Nat) (dl : D), (ρ.set i (.ow d'))[l]? = some (.ow dl) → ∃ dl' : D, ρ[l]? = some (.ow dl') := fun l dl q => by
      by_cases c : i = l
      · subst c
        exact ⟨_, hi⟩
      · rw [List.getElem?_set_ne c] at q
        exact ⟨_, q⟩
    obtain ⟨_, q1⟩ := back j dj h1
    obtain ⟨_, q2⟩ := back k dk h2
    exact ok.dist j k _ _ b q1 q2 h3 h4
  · by_cases c : i = j
    · subst c
      exact ok.nown i _ b hi h2
    · rw [List.getElem?_set_ne c] at h1
      exact ok.nown j dj b h1 h2
/-- an own object is from now on shared -/
def frz (i : Nat) (ρ : Rho) : Rho := match ρ[i]? with
  | some (.ow d) => ρ.set i (.fz d)
  | _ => ρ
theorem EnvOk.frz {K : PySem.W.Frag} {S : List Addr} {σ : L2.St} {H : Hp} {ρ : Rho} (ok : EnvOk K F S σ H ρ) (i : Nat) : ∃ S', EnvOk K F S' σ H (DL.frz i ρ) ∧ Ex (hide H S) (hide H S') := by
  unfold DL.frz
  split
  · next d hi =>
    obtain ⟨o', h1, v, ev, h2⟩ := ok.slots i _ hi
    subst ev
    have hl : i < ρ.length := (List.getElem?_eq_some_iff.mp hi).1
    obtain ⟨a, rfl, aS⟩ : ∃ a, v = .ref a ∧ a ∈ S := by
      cases h2 with
      | lst q1 _ _ => exact ⟨_, rfl, q1⟩
      | dic q1 _ _ => exact ⟨_, rfl, q1⟩
    have na : a ∉ F.S0 := ok.nown i d a hi h1
    have sub : ∀ b ∈ S.filter (fun b => decide (b ≠ a)), b ∈ S := fun b hb => (List.mem_filter.mp hb).1
    have x : Ex (hide H S) (hide H (S.filter (fun b => decide (b ≠ a)))) := hide_less sub
    refine ⟨S.filter (fun b => decide (b ≠ a)), ⟨ok.grow, fun b hb => List.mem_filter.mpr ⟨ok.base b hb, by
      simp only [decide_eq_true_eq]
      intro z
      subst z
      exact na hb⟩, fun b hb => ok.new b (sub b hb), fun b hb => ok.sdom b (sub b hb), by rw [List.length_set, ok.len], fun j s e => ?_, fun j k dj dk b q1 q2 q3 q4 => ?_, fun j dj b q1 q2 => ?_, ok.trs.move x (fun b o hb ho _ no _ => ⟨List.mem_filter.mpr ⟨hb, by
      simp only [decide_eq_true_eq]
      intro z
      subst z
      exact no i d hi h1⟩, ho⟩) (fun j t e => by
      obtain ⟨c, e'⟩ := set_tr e fun u z => by cases z
      exact ⟨e', rfl⟩) (fun a _ h _ => h) fun j dj b e1 e2 => by
    by_cases c : i = j
    · subst c
      rw [List.getElem?_set_self hl] at e1
      cases e1
    · rw [List.getElem?_set_ne c] at e1
      exact .inr ⟨j, dj, e1, e2⟩⟩, x⟩
    · by_cases c : i = j
      · subst c
        rw [List.getElem?_set_self hl] at e
        cases e
        refine ⟨_, h1, _, rfl, ?_⟩
        have hna : a ∉ S.filter (fun b => decide (b ≠ a)) := fun z => by
          have := (List.mem_filter.mp z).2
          simp at this
        cases h2 with
        | lst _ q2 q3 => exact .lst (by rw [hide_of hna]; exact q2) (q3.ex x)
        | dic _ q2 q3 => exact .dic (by rw [hide_of hna]; exact q2) (q3.ex x)
      · rw [List.getElem?_set_ne c] at e
        obtain ⟨o', z1, z2⟩ := ok.slots j s e
        refine ⟨o', z1, ?_⟩
        cases s with
        | no => trivial
        | fz d' =>
          obtain ⟨v, e1, r⟩ := z2
          exact ⟨v, e1, r.ex x⟩
        | ow dj =>
          obtain ⟨v, e1, r⟩ := z2
          subst e1
          refine ⟨v, rfl, ?_⟩
          cases r with
          | @lst b _ _ p1 p2 p3 =>
            exact .lst (List.mem_filter.mpr ⟨p1, by
              simp only [decide_eq_true_eq]
              intro z
              subst z
              exact c (ok.dist i j _ _ b hi e h1 z1)⟩) p2 (p3.ex x)
          | @dic b _ _ p1 p2 p3 =>
            exact .dic (List.mem_filter.mpr ⟨p1, by
              simp only [decide_eq_true_eq]
              intro z
              subst z
              exact c (ok.dist i j _ _ b hi e h1 z1)⟩) p2 (p3.ex x)
        | tr t => trivial
    · have back : ∀ (l : Nat) (dl : D), (ρ.set i (.fz d))[l]? = some (.ow dl) → ρ[l]? = some (.ow dl) := fun l dl q => by
        by_cases c : i = l
        · subst c
          rw [List.getElem?_set_self hl] at q
          cases q
        · rw [List.getElem?_set_ne c] at q
          exact q
      exact ok.dist j k dj dk b (back j dj q1) (back k dk q2) q3 q4
    · by_cases c : i = j
      · subst c
        rw [List.getElem?_set_self hl] at q1
        cases q1
      · rw [List.getElem?_set_ne c] at q1
        exact ok.nown j dj b q1 q2
  · exact ⟨S, ok, Ex.refl _⟩
def sFrz (i : Nat) (s : Rho → SR) : Rho → SR := fun ρ => s (frz i ρ)
theorem dss_frz (i : Nat) {sts : List Stmt} (h : DSs X F sts a) : DSs X F sts (sFrz i a) := PSs.imp h fun D σ H ⟨S, ρ, ok, q⟩ => by
  obtain ⟨S', ok', x⟩ := ok.frz i
  exact ⟨S', _, ok', PostS.mono (r := a (frz i ρ)) q x⟩
end
end DL

set_option Elab.async false
set_option linter.all false
set_option maxRecDepth 100000
set_option maxHeartbeats 1000000
/-! DL5: targets, what is walked, for, while, comprehensions, own lists changed. -/
namespace DL
open PySem PySem.Spec PyProof.Rows L2

/-! ### targets: a name, or a tuple of names -/
inductive Tg where
  | nm (i : Nat) | tp (is : List Nat) | tl (is : List Nat)
def Tg.vs : Tg → List Nat
  | .nm i => [i]
  | .tp is => is
  | .tl is => is
def gNs : List Nat → TGs
  | [] => gNil
  | i :: is => gCons (gName i) (gNs is)
def Tg.g (K : PySem.W.Frag) : Tg → TG
  | .nm i => gName i
  | .tp is => gTup K is.length (gNs is)
  | .tl is => gLst K is.length (gNs is)
def setAll : List Nat → List D → Rho → Option Rho
  | [], [], ρ => some ρ
  | i :: is, d :: ds, ρ => setAll is ds (ρ.set i (.fz d))
  | _, _, _ => none
def Tg.asg : Tg → D → Rho → Option Rho
  | .nm i, d, ρ => some (ρ.set i (.fz d))
  | .tp is, .tup ds, ρ => setAll is ds ρ
  | .tp is, .gtup ds, ρ => setAll is ds ρ
  | .tl is, .lst ds, ρ => setAll is ds ρ
  | _, _, _ => none
theorem setAll_len : ∀ {is : List Nat} {ds : List D} {ρ ρ' : Rho}, setAll is ds ρ = some ρ' → ds.length = is.length
  | [], [], _, _, _ => rfl
  | [], _ :: _, _, _, e => by cases e
  | _ :: _, [], _, _, e => by cases e
  | i :: is, d :: ds, ρ, ρ', e => by
    rw [List.length_cons, List.length_cons, setAll_len (is := is) (ds := ds) e]
theorem wipe_set {σ : L2.St} {x : Option V} : ∀ {vs : List Nat} {i : Nat}, i ∈ vs → wipe (σ.set i x) vs = wipe σ vs := by
  intro vs
  induction vs with
  | nil =>
    intro i h
    cases h
  | cons v vs ih =>
    intro i h
    by_cases c : i ∈ vs
    · show (wipe (σ.set i x) vs).set v none = (wipe σ vs).set v none
      rw [ih c]
    · have e : i = v := by
        rcases List.mem_cons.mp h with e | e
        · exact e
        · exact absurd e c
      subst e
      have push : ∀ (us : List Nat) (τ : L2.St), i ∉ us → wipe (τ.set i x) us = (wipe τ us).set i x := by
        intro us
        induction us with
        | nil => intro τ _; rfl
        | cons u us ih2 =>
          intro τ hu
          show (wipe (τ.set i x) us).set u none = ((wipe τ us).set u none).set i x
          rw [ih2 τ fun z => hu (List.mem_cons_of_mem _ z)]
          exact List.set_comm _ _ (fun z => hu (by rw [z]; exact List.mem_cons_self ..))
      show (wipe (σ.set i x) vs).set i none = (wipe σ vs).set i none
      rw [push vs σ c, List.set_set]
theorem wipe_sub {σ : L2.St} {us : List Nat} : ∀ {vs : List Nat}, (∀ i ∈ vs, i ∈ us) → wipe (wipe σ vs) us = wipe σ us
  | [], _ => rfl
  | v :: vs, h => by
    show wipe ((wipe σ vs).set v none) us = wipe σ us
    rw [wipe_set (h v (List.mem_cons_self ..)), wipe_sub fun i hi => h i (List.mem_cons_of_mem _ hi)]
section
variable {K : PySem.W.Frag} {F : Fm} {S : List Addr}
theorem gNs_of : ∀ {is : List Nat} {ds : List D} {xs : List V} {σ : L2.St} {H : Hp} {ρ ρ' : Rho} {us : List Nat} {Q : L2.St → Hp → Prop}, EnvOk K F S σ H ρ → RpL K (hide H S) xs ds → setAll is ds ρ = some ρ' → (∀ i ∈ is, i ∈ us) →
    (∀ σ', EnvOk K F S σ' H ρ' → wipe σ' us = wipe σ us → Q σ' H) → gNs is xs σ H Q
  | [], [], _, σ, H, ρ, ρ', us, Q, ok, .nil, e, _, h => by
    cases e
    exact ⟨rfl, h σ ok rfl⟩
  | i :: is, d :: ds, _, σ, H, ρ, ρ', us, Q, ok, .cons (v := v) (vs := vs) r rs, e, hi, h => by
    refine ⟨v, vs, rfl, ?_⟩
    exact gNs_of (is := is) (us := us) (ok.set i r) rs e (fun j hj => hi j (List.mem_cons_of_mem _ hj)) fun σ' ok' w => h σ' ok' (w.trans (wipe_set (hi i (List.mem_cons_self ..))))
  | [], _ :: _, _, _, _, _, _, _, _, _, _, e, _, _ => by cases e
  | _ :: _, [], _, _, _, _, _, _, _, _, _, e, _, _ => by cases e
theorem tg_of {t : Tg} {v : V} {d : D} {σ : L2.St} {H : Hp} {ρ ρ' : Rho} {Q : L2.St → Hp → Prop} (ok : EnvOk K F S σ H ρ) (r : Rp K (hide H S) v d) (e : t.asg d ρ = some ρ') (us : List Nat) (hu : ∀ i ∈ t.vs, i ∈ us)
    (h : ∀ σ', EnvOk K F S σ' H ρ' → wipe σ' us = wipe σ us → Q σ' H) : t.g K v σ H Q := by
  cases t with
  | nm i =>
    cases e
    exact h _ (ok.set i r) (wipe_set (hu i (List.mem_cons_self ..)))
  | tp is =>
    cases r with
    | tup h1 h2 =>
      exact ⟨_, _, rfl, SqT.of (hide_in h1).2, by rw [h2.len]; exact setAll_len (is := is) e, gNs_of ok h2 e hu h⟩
    | gtup h1 h2 =>
      exact ⟨_, _, rfl, sq_gtup h1, by rw [h2.len]; exact setAll_len (is := is) e, gNs_of ok h2 e hu h⟩
    | _ => cases e
  | tl is =>
    cases r with
    | lst h1 h2 =>
      exact ⟨_, _, rfl, SqL.of (hide_in h1).2, by rw [h2.len]; exact setAll_len (is := is) e, gNs_of ok h2 e hu h⟩
    | _ => cases e
end
abbrev DG (X : Cx) (tg : Expr) (t : Tg) : Prop := PG X tg (t.g X.K)
abbrev DGs (X : Cx) (es : List Expr) (is : List Nat) : Prop := PGs X es (gNs is)
section
variable {X : Cx} {F : Fm} {pos : Pos}
theorem dg_name {i : Nat} {x : Str} (hN : X.N.Nodup) (hi : X.N[i]? = some x := by rfl) (hx : Loc X.env.scope x := by first | exact Or.inl rfl | exact Or.inr rfl)
    (hf : X.fn x = true ∨ X.env.scope.names.lookup x = some .local := by first | exact .inl rfl | exact .inr rfl) : DG X (.Name x pos) (.nm i) := pg_name hN hi hx hf
theorem dgs_nil : DGs X [] [] := pgs_nil
theorem dgs_cons {i : Nat} {x : Str} {es : List Expr} {is : List Nat} (hN : X.N.Nodup) (h : DGs X es is) (hi : X.N[i]? = some x := by rfl) (hx : Loc X.env.scope x := by first | exact Or.inl rfl | exact Or.inr rfl)
    (hf : X.fn x = true ∨ X.env.scope.names.lookup x = some .local := by first | exact .inl rfl | exact .inr rfl)
    (hs : (assignEach (.Name x pos :: es) X.env).map (·.2) = assign (.Name x pos) X.env :: (assignEach es X.env).map (·.2) := by rfl) : DGs X (.Name x pos :: es) (i :: is) := pgs_cons (pg_name hN hi hx hf) h hs
theorem dg_tup {es : List Expr} {is : List Nat} {k : Nat} (hc : X.calm = true) (h : DGs X es is) (hn : (assignEach es X.env).length = is.length := by rfl) (hst : (assignEach es X.env).findIdx? (·.1) = none := by rfl) : DG X (.Tuple es k pos) (.tp is) :=
  pg_tup hc h hn hst
theorem dg_lst {es : List Expr} {is : List Nat} {k : Nat} (hc : X.calm = true) (h : DGs X es is) (hn : (assignEach es X.env).length = is.length := by rfl) (hst : (assignEach es X.env).findIdx? (·.1) = none := by rfl) : DG X (.Tuple es k pos) (.tl is) :=
  pg_lst hc h hn hst
/-- a, b = e -/
def sUnp (t : Tg) (s : Rho → Res D) : Rho → SR := fun ρ => sBind (s ρ) fun d => match t.asg d ρ with
  | some ρ' => .nx ρ'
  | none => .stuck
theorem ds_unp {tg e : Expr} {t : Tg} {se : Rho → Res D} (he : DP X F e se) (hg : DG X tg t) (hs : swapsWithSole [tg] e pos.line X.env = pure false := by rfl) (hw : swappedStores [tg] e X.env = pure none := by rfl)
    (h1 : (assignEach [tg] X.env).map (·.2) = [assign tg X.env] := by rfl) : DS X F (.Assign [tg] e pos) (sUnp t se) :=
  PS.imp (ps_asg he hg hs hw h1) fun D σ H ⟨S, ρ, ok, h⟩ => ⟨S, ρ, ok, post_sbind h fun d ed h1 => fun v H' g r => by
    cases ea : t.asg d ρ with
    | none =>
      rw [ea] at h1
      exact h1.elim
    | some ρ' =>
      rw [ea] at h1
      exact tg_of (ok.up g) r ea t.vs (fun i hi => hi) fun σ' ok' _ => h1 S σ' H' ok' (hide_mono (F.gr.ex g) S)⟩
/-- a, b = x, y -/
def sPar (i j : Nat) (s : Rho → Res (List D)) : Rho → SR := fun ρ => sBind (s ρ) fun ds => match ds with
  | [a, b] => .nx ((ρ.set i (.fz a)).set j (.fz b))
  | _ => .stuck
theorem ds_par {i j : Nat} {x y : Str} {a b : Expr} {sa : Rho → Res (List D)} {px py pt : Pos} {kt k2 pt2} (hc : X.calm = true) (hN : X.N.Nodup) (hij : i ≠ j) (ha : DA X F [a, b] sa) (hi : X.N[i]? = some x := by rfl) (hj : X.N[j]? = some y := by rfl)
    (hx : X.env.scope.names.lookup x = some .local := by rfl) (hy : X.env.scope.names.lookup y = some .local := by rfl)
    (hw : swappedStores [.Tuple [.Name x px, .Name y py] kt pt] (.Tuple [a, b] k2 pt2) X.env = pure (some [x, y]) := by rfl)
    (hs : swapsWithSole [.Tuple [.Name x px, .Name y py] kt pt] (.Tuple [a, b] k2 pt2) pos.line X.env = pure false := by rfl) :
    DS X F (.Assign [.Tuple [.Name x px, .Name y py] kt pt] (.Tuple [a, b] k2 pt2) pos) (sPar i j sa) :=
  PS.imp (ps_par hc hN hi hj hij hx hy ha hw hs) fun D σ H ⟨S, ρ, ok, h⟩ => ⟨S, ρ, ok, post_sbind h fun ds ed h1 => fun vs H' g r => by
    match ds, r, h1 with
    | [da, db], .cons (v := v) r1 (.cons (v := w) r2 .nil), h1 => exact ⟨v, w, rfl, h1 S _ H' (((ok.up g).set i r1).set j r2) (hide_mono (F.gr.ex g) S)⟩
    | [], _, h1 => exact h1.elim
    | [_], _, h1 => exact h1.elim
    | _ :: _ :: _ :: _, _, h1 => exact h1.elim⟩

/-! ### what is walked -/
structure ItOk (K : PySem.W.Frag) (S : List Addr) (H : Hp) (J : It) (ds : List D) : Prop where
  go : ∀ {H' S' i}, Ex (hide H S) (hide H' S') → i < ds.length → J.go i H'
  stop : ∀ {H' S'}, Ex (hide H S) (hide H' S') → J.stop ds.length H'
  yld : ∀ {H' S' i x H''}, Sd S' H' → Ex (hide H S) (hide H' S') → J.yld i H' x H'' → i < ds.length → ∃ d, ds[i]? = some d ∧ Same H' H'' ∧ Rp K (hide H'' S') x d
theorem ItOk.mono {K : PySem.W.Frag} {S : List Addr} {H H1 : Hp} {J : It} {ds : List D} (o : ItOk K S H J ds) (x : Ex (hide H S) (hide H1 S)) : ItOk K S H1 J ds :=
  ⟨fun z => o.go (x.trans z), fun z => o.stop (x.trans z), fun sd z => o.yld sd (x.trans z)⟩
def kdI (K : PySem.W.Frag) (F : Fm) : Kd F It (List D) := ⟨fun S H Q ds => ∀ J H', F.G H H' → ds.length ≤ sizeLine → ItOk K S H' J ds → Q J H', fun g h J H' g' l r => h J H' (F.gr.trans g g') l r⟩
abbrev DI (X : Cx) (F : Fm) (tg iter : Expr) (s : Rho → Res (List D)) : Prop := PI X tg iter (tK X.K (kdI X.K F) s)
theorem PI.imp {X : Cx} {tg e : Expr} {t t' : TI} (h : PI X tg e t) (i : ∀ σ H Q, t' σ H Q → t σ H Q) : PI X tg e t' := ⟨fun pins s σ H Q I q => h.run pins s σ H Q I (i σ H Q q)⟩
/-- the items of a value that is walked -/
def itemsOf : D → Option (List D)
  | .tup ds => some ds
  | .gtup ds => some ds
  | .lst ds => some ds
  | .str x => if x.cps.size ≤ sizeLine then some (x.cps.toList.map fun c => .str ⟨#[c]⟩) else none
  | _ => none
def iVal (s : Rho → Res D) : Rho → Res (List D) := fun ρ => (s ρ).bind fun d => Res.of (itemsOf d)
theorem it_lst {K : PySem.W.Frag} {S : List Addr} {H : Hp} {a : Addr} {xs : List V} {ds : List D} (h : hide H S a = some (.lst xs)) (r : RpL K (hide H S) xs ds) : ItOk K S H (Itl K a) ds where
  go := fun {H' S' i} x l => by
    obtain ⟨v, h1, h2⟩ := r.get (List.getElem?_eq_getElem l)
    exact ⟨xs, v, SqL.of (hide_in (x _ _ h fun ps z => by cases z)).2, h1⟩
  stop := fun {H' S'} x => ⟨xs, SqL.of (hide_in (x _ _ h fun ps z => by cases z)).2, by rw [r.len]; exact Nat.le_refl _⟩
  yld := fun {H' S' i v H''} sd x y l => by
    obtain ⟨rfl, f⟩ := y
    have q := f xs (SqL.of (hide_in (x _ _ h fun ps z => by cases z)).2)
    obtain ⟨d, h1, h2⟩ := r.get' q
    exact ⟨d, h1, Same.refl _, h2.ex x⟩
theorem it_tup {K : PySem.W.Frag} {S : List Addr} {H : Hp} {a : Addr} {xs : List V} {ds : List D} (h : SqT K (hide H S) a xs) (r : RpL K (hide H S) xs ds) : ItOk K S H (Itt K a) ds where
  go := fun {H' S' i} x l => by
    obtain ⟨v, h1, h2⟩ := r.get (List.getElem?_eq_getElem l)
    exact ⟨xs, v, hide_ex.sqT (x.sqT h), h1⟩
  stop := fun {H' S'} x => ⟨xs, hide_ex.sqT (x.sqT h), by rw [r.len]; exact Nat.le_refl _⟩
  yld := fun {H' S' i v H''} sd x y l => by
    obtain ⟨rfl, f⟩ := y
    have q := f xs (hide_ex.sqT (x.sqT h))
    obtain ⟨d, h1, h2⟩ := r.get' q
    exact ⟨d, h1, Same.refl _, h2.ex x⟩
theorem it_str {K : PySem.W.Frag} {S : List Addr} {H : Hp} {z : Str} : ItOk K S H (Its z) (z.cps.toList.map fun c => .str ⟨#[c]⟩) where
  go := fun {H' S' i} x l => by
    have : i < z.cps.size := by simpa using l
    exact this
  stop := fun {H' S'} x => by
    show z.cps.size ≤ _
    simp
  yld := fun {H' S' i v H''} sd x y l => by
    obtain ⟨rfl, c, e, rfl⟩ := y
    refine ⟨.str ⟨#[c]⟩, ?_, Same.refl _, .str _⟩
    rw [List.getElem?_map, Array.getElem?_toList, e]
    rfl
theorem it_rng {K : PySem.W.Frag} {S : List Addr} {H : Hp} {lo : Int} {n : Nat} : ItOk K S H (Itr lo n) ((List.range n).map fun (i : Nat) => .int (lo + i)) where
  go := fun {H' S' i} x l => by
    have : i < n := by simpa using l
    exact this
  stop := fun {H' S'} x => by
    show n ≤ _
    simp
  yld := fun {H' S' i v H''} sd x y l => by
    obtain ⟨rfl, rfl⟩ := y
    have hl : i < n := by simpa using l
    refine ⟨.int (lo + i), ?_, Same.refl _, .int _⟩
    rw [List.getElem?_map, List.getElem?_range hl]
    rfl
theorem di_val {tg e : Expr} {s : Rho → Res D} (he : DP X F e s) : DI X F tg e (iVal s) := by
  refine ⟨fun pins s0 σ H R I h => ?_⟩
  obtain ⟨S, ρ, ok, q⟩ := h
  refine thn (he.run pins s0 σ H (fun v H1 => ∃ d ds, F.G H H1 ∧ Rp X.K (hide H1 S) v d ∧ itemsOf d = some ds ∧ (kdI X.K F).post S H R ds) I ⟨S, ρ, ok, post_bind q fun d ed h1 => fun v H1 g r => ?_⟩) fun v s1 ⟨x, H1, I1, r1, d, ds, g, rp, ei, q1⟩ => ?_
  · cases ei : itemsOf d with
    | none =>
      rw [ei] at h1
      exact h1.elim
    | some ds =>
      rw [ei] at h1
      exact ⟨d, ds, g, r, ei, h1⟩
  · cases rp with
    | @lst a xs _ h1 h2 =>
      cases ei
      cases r1
      obtain ⟨its, rv, p, hz⟩ := I1.list (SqL.of (hide_in h1).2)
      refine wpAny_pyIter_list p.isList ?_
      refine ⟨s1.heap.objs.size, [s1.heap.objs.size], _, _, H1, rfl, I1.kept (t' := s1.toks) fun b o e => Heap.get?_push_of_some _ e, turn_list a _, ⟨_, Heap.get?_push_size _ rfl, rfl, rfl⟩, fun b hb => ?_, q1 _ H1 g (by rw [← h2.len]; exact hz) (it_lst h1 h2)⟩
      have e : b = s1.heap.objs.size := by simpa using hb
      subst e
      exact I1.fpOk (Nat.le_refl _) (I1.hok.fresh (Nat.le_refl _))
    | @tup a xs _ h1 h2 =>
      cases ei
      cases r1
      obtain ⟨its, rv, p, hz⟩ := I1.tuple (SqT.of (hide_in h1).2)
      refine wpAny_pyIter_tuple (show s1.heap.IsTuple a its.toArray from p) ?_
      refine ⟨s1.heap.objs.size, [s1.heap.objs.size], _, _, H1, rfl, I1.kept (t' := s1.toks) fun b o e => Heap.get?_push_of_some _ e, turn_tuple a _, ⟨_, Heap.get?_push_size _ rfl, rfl, rfl⟩, fun b hb => ?_, q1 _ H1 g (by rw [← h2.len]; exact hz) (it_tup (SqT.of h1) h2)⟩
      have e : b = s1.heap.objs.size := by simpa using hb
      subst e
      exact I1.fpOk (Nat.le_refl _) (I1.hok.fresh (Nat.le_refl _))
    | @gtup a xs _ h1 h2 =>
      cases ei
      cases r1
      obtain ⟨its, rv, p, hz⟩ := I1.tuple (sq_gtup h1)
      refine wpAny_pyIter_tuple (show s1.heap.IsTuple a its.toArray from p) ?_
      refine ⟨s1.heap.objs.size, [s1.heap.objs.size], _, _, H1, rfl, I1.kept (t' := s1.toks) fun b o e => Heap.get?_push_of_some _ e, turn_tuple a _, ⟨_, Heap.get?_push_size _ rfl, rfl, rfl⟩, fun b hb => ?_, q1 _ H1 g (by rw [← h2.len]; exact hz) (it_tup (sq_gtup h1) h2)⟩
      have e : b = s1.heap.objs.size := by simpa using hb
      subst e
      exact I1.fpOk (Nat.le_refl _) (I1.hok.fresh (Nat.le_refl _))
    | str z =>
      have ei' : (if z.cps.size ≤ sizeLine then some (z.cps.toList.map fun c => D.str ⟨#[c]⟩) else none) = some ds := ei
      by_cases hz : z.cps.size ≤ sizeLine
      · rw [if_pos hz] at ei'
        cases ei'
        obtain ⟨t, rfl⟩ := r1
        have hq : R (Its z) H1 := q1 _ H1 g (by simpa using hz) it_str
        cases ha : z.cps.all (· < 128)
        · exact wpAny_pyIter_wide ha (pi_one (tk := s1.toks) I1 _ (turn_str _ z t "str_iterator" (.inr rfl)) ⟨_, Heap.get?_push_size _ rfl, rfl, rfl⟩ hq)
        · exact wpAny_pyIter_ascii ha (pi_one (tk := s1.toks) I1 _ (turn_str _ z t "str_ascii_iterator" (.inl rfl)) ⟨_, Heap.get?_push_size _ rfl, rfl, rfl⟩ hq)
      · rw [if_neg hz] at ei'
        cases ei'
    | _ => cases ei
/-- range(n), range(a, b) -/
def rangeD (lo hi : Int) : List D := (List.range (hi - lo).toNat).map fun (i : Nat) => .int (lo + i)
def rangeB (lo hi : Int) : Bool := decide (-1000000 ≤ lo) && (decide (lo ≤ 1000000) && (decide (-1000000 ≤ hi) && decide (hi ≤ 1000000)))
def rng1 : List D → Option (List D)
  | [.int j] => if rangeB 0 j = true then some (rangeD 0 j) else none
  | _ => none
def rng2 : List D → Option (List D)
  | [.int i, .int j] => if rangeB i j = true then some (rangeD i j) else none
  | _ => none
def iRng (g : List D → Option (List D)) (s : Rho → Res (List D)) : Rho → Res (List D) := fun ρ => (s ρ).bind fun ds => Res.of (g ds)
theorem rangeB_ok {lo hi : Int} (h : rangeB lo hi = true) : -1000000 ≤ lo ∧ lo ≤ 1000000 ∧ -1000000 ≤ hi ∧ hi ≤ 1000000 := by
  unfold rangeB at h
  simp only [Bool.and_eq_true, decide_eq_true_eq] at h
  exact h
theorem it_range {K : PySem.W.Frag} {S : List Addr} {H : Hp} {lo hi : Int} : ItOk K S H (Itr lo (hi - lo).toNat) (rangeD lo hi) := it_rng
theorem rangeD_len (lo hi : Int) : (rangeD lo hi).length = (hi - lo).toNat := by
  unfold rangeD
  rw [List.length_map, List.length_range]
theorem di_range1 {tg a : Expr} {sa : Rho → Res (List D)} {p pos : Pos} (hm : X.mg "range" = none) (ha : DA X F [a] sa) (hg : Gl X "range" := by rfl) (hs : starEach [a] X.env = [(false, eval a X.env)] := by rfl) :
    DI X F tg (.Call (.Name "range" p) [a] [] pos) (iRng rng1 sa) := PI.imp (pi_range1 hg hm ha hs) fun σ H R ⟨S, ρ, ok, q⟩ => ⟨S, ρ, ok, post_bind q fun ds ed h1 => fun vs H1 g r => by
    have key : ∃ j, ds = [.int j] ∧ rangeB 0 j = true := by
      cases e : rng1 ds with
      | none =>
        rw [e] at h1
        exact h1.elim
      | some z =>
        unfold rng1 at e
        split at e
        · next j =>
          split at e
          · next c => exact ⟨j, rfl, c⟩
          · cases e
        · cases e
    obtain ⟨j, rfl, c⟩ := key
    have e : rng1 [.int j] = some (rangeD 0 j) := if_pos c
    rw [e] at h1
    obtain ⟨_, _, h3, h4⟩ := rangeB_ok c
    cases r with
    | cons r1 r2 =>
      cases r2
      cases r1
      have hq : R (Itr 0 (j - 0).toNat) H1 := h1 _ H1 g (by rw [rangeD_len]; show (j - 0).toNat ≤ 2 ^ 24; omega) it_range
      rw [Int.sub_zero] at hq
      exact ⟨j, rfl, by omega, by omega, hq⟩⟩
theorem di_range2 {tg a b : Expr} {sa : Rho → Res (List D)} {p pos : Pos} (hm : X.mg "range" = none) (ha : DA X F [a, b] sa) (hg : Gl X "range" := by rfl) (hs : starEach [a, b] X.env = [(false, eval a X.env), (false, eval b X.env)] := by rfl)
    (hs2 : starEach [b] X.env = [(false, eval b X.env)] := by rfl) :
    DI X F tg (.Call (.Name "range" p) [a, b] [] pos) (iRng rng2 sa) := PI.imp (pi_range2 hg hm ha hs hs2) fun σ H R ⟨S, ρ, ok, q⟩ => ⟨S, ρ, ok, post_bind q fun ds ed h1 => fun vs H1 g r => by
    have key : ∃ i j, ds = [.int i, .int j] ∧ rangeB i j = true := by
      cases e : rng2 ds with
      | none =>
        rw [e] at h1
        exact h1.elim
      | some z =>
        unfold rng2 at e
        split at e
        · next i j =>
          split at e
          · next c => exact ⟨i, j, rfl, c⟩
          · cases e
        · cases e
    obtain ⟨i, j, rfl, c⟩ := key
    have e : rng2 [.int i, .int j] = some (rangeD i j) := if_pos c
    rw [e] at h1
    obtain ⟨h1', h2', h3, h4⟩ := rangeB_ok c
    cases r with
    | cons r1 r2 =>
      cases r2 with
      | cons r3 r4 =>
        cases r4
        cases r1
        cases r3
        exact ⟨i, j, rfl, ⟨by omega, by omega, by omega, by omega⟩, h1 _ H1 g (by rw [rangeD_len]; show (j - i).toNat ≤ 2 ^ 24; omega) it_range⟩⟩
/-! ### for -/
def forL (t : Tg) (body : Rho → SR) : List D → Rho → SR
  | [], ρ => .nx ρ
  | d :: ds, ρ => match t.asg d ρ with
    | none => .stuck
    | some ρ1 => match body ρ1 with
      | .nx ρ2 => forL t body ds ρ2
      | .ct ρ2 => forL t body ds ρ2
      | .bk ρ2 => .nx ρ2
      | r => r
def sFor (it : Rho → Res (List D)) (t : Tg) (body : Rho → SR) : Rho → SR := fun ρ => sBind (it ρ) fun ds => forL t body ds ρ
theorem ds_for {tg iter : Expr} {it : Rho → Res (List D)} {t : Tg} {bd : List Stmt} {body : Rho → SR} (hp : PassesOwn (model X.prog X.w) X.A X.env X.xe) (hc : X.calm = true) (hi : DI X F tg iter it) (hg : DG X tg t) (hb : DSs X F bd body)
    (hs : ∀ x, foldedSetIterable iter X.env x = pure x := by intro _; rfl) : DS X F (.For tg iter bd [] pos) (sFor it t body) :=
  PS.imp (ps_for hp hc hi hg hb hs) fun D σ H ⟨S, ρ, ok, h⟩ => ⟨S, ρ, ok, post_sbind h fun ds ed h1 => fun J H1 g _ io => by
    refine ⟨fun i m σ' H' => ∃ S' ρ', EnvOk X.K F S' σ' H' ρ' ∧ Ex (hide H1 S) (hide H' S') ∧ i + m = ds.length ∧ PostS X.K F S' H' D (forL t body (ds.drop i) ρ'),
      ⟨ds.length, S, ρ, ok.up g, Ex.refl _, by omega, PostS.mono (r := forL t body ds ρ) h1 (hide_mono (F.gr.ex g) S)⟩, ?_⟩
    rintro i m σ' H' ⟨S', ρ', ok', x', em, hp'⟩
    by_cases c : i < ds.length
    · refine .inr ⟨io.go x' c, fun σ2 H2 => ∃ S2 ρ2, EnvOk X.K F S2 σ2 H2 ρ2 ∧ Ex (hide H1 S) (hide H2 S2) ∧ PostS X.K F S2 H2 D (forL t body (ds.drop (i + 1)) ρ2), ?_, ?_⟩
      · rintro σ2 H2 ⟨S2, ρ2, ok2, x2, p2⟩
        exact ⟨m - 1, by omega, S2, ρ2, ok2, x2, by omega, p2⟩
      · intro v H2 hy
        obtain ⟨d, h3, s3, r3⟩ := io.yld ok'.sd x' hy c
        have ed' : ds.drop i = d :: ds.drop (i + 1) := by
          rw [List.drop_eq_getElem_cons c]
          have : ds[i] = d := by
            rw [List.getElem?_eq_getElem c] at h3
            exact Option.some.inj h3
          rw [this]
        rw [ed'] at hp'
        unfold forL at hp'
        cases ea : t.asg d ρ' with
        | none =>
          rw [ea] at hp'
          exact hp'.elim
        | some ρ1 =>
          rw [ea] at hp'
          have ok2 := ok'.up (F.gr.same s3)
          have x2 : Ex (hide H' S') (hide H2 S') := hide_mono (Ex.of s3) S'
          refine tg_of ok2 r3 ea t.vs (fun i hi => hi) fun σ3 ok3 _ => ⟨S', ρ1, ok3, ?_⟩
          dsimp only at hp'
          cases eb : body ρ1 with
          | nx ρ2 =>
            rw [eb] at hp'
            exact fun S4 σ4 H4 ok4 x4 => ⟨S4, ρ2, ok4, (x'.trans x2).trans x4, PostS.mono hp' (x2.trans x4)⟩
          | ct ρ2 =>
            rw [eb] at hp'
            exact fun S4 σ4 H4 ok4 x4 => ⟨S4, ρ2, ok4, (x'.trans x2).trans x4, PostS.mono hp' (x2.trans x4)⟩
          | bk ρ2 =>
            rw [eb] at hp'
            exact fun S4 σ4 H4 ok4 x4 => hp' S4 σ4 H4 ok4 (x2.trans x4)
          | rk d' ρ2 =>
            rw [eb] at hp'
            exact fun v4 S4 σ4 H4 ok4 x4 => hp' v4 S4 σ4 H4 ok4 (x2.trans x4)
          | rt d' =>
            rw [eb] at hp'
            exact hp'
          | er c' =>
            rw [eb] at hp'
            exact hp'
          | stuck =>
            rw [eb] at hp'
            exact hp'
    · have ei : i = ds.length := by omega
      refine .inl ⟨by rw [ei]; exact io.stop x', ?_⟩
      rw [List.drop_eq_nil_of_le (by omega)] at hp'
      exact hp' S' σ' H' ok' (Ex.refl _)⟩
/-! ### while -/
def whileN (c : Rho → Res Bool) (body : Rho → SR) : Nat → Rho → SR
  | 0, _ => .stuck
  | n + 1, ρ => sBind (c ρ) fun k => if k = true then (match body ρ with
      | .nx ρ2 => whileN c body n ρ2
      | .ct ρ2 => whileN c body n ρ2
      | .bk ρ2 => .nx ρ2
      | r => r) else .nx ρ
def sWhile (n : Nat) (c : Rho → Res Bool) (body : Rho → SR) : Rho → SR := fun ρ => whileN c body n ρ
theorem ds_while (n : Nat) {c : Expr} {sc : Rho → Res Bool} {bd : List Stmt} {body : Rho → SR} (hp : PassesOwn (model X.prog X.w) X.A X.env X.xe) (hc : DT X F c sc) (hb : DSs X F bd body) : DS X F (.While c bd [] pos) (sWhile n sc body) :=
  PS.imp (ps_while hp hc hb) fun D σ H ⟨S, ρ, ok, h⟩ => by
    refine ⟨fun m σ' H' => ∃ S' ρ', EnvOk X.K F S' σ' H' ρ' ∧ PostS X.K F S' H' D (whileN sc body m ρ'), ⟨n, S, ρ, ok, h⟩, ?_⟩
    rintro m σ' H' ⟨S', ρ', ok', hp'⟩
    cases m with
    | zero => exact hp'.elim
    | succ m =>
      refine ⟨S', ρ', ok', post_sbind hp' fun k ek h1 => fun H2 g2 => ?_⟩
      have x2 : Ex (hide H' S') (hide H2 S') := hide_mono (F.gr.ex g2) S'
      cases k with
      | false => exact iteF (h1 S' σ' H2 (ok'.up g2) x2)
      | true =>
        refine iteT ⟨fun σ3 H3 => ∃ S3 ρ3, EnvOk X.K F S3 σ3 H3 ρ3 ∧ PostS X.K F S3 H3 D (whileN sc body m ρ3), ?_, S', ρ', ok'.up g2, ?_⟩
        · rintro σ3 H3 ⟨S3, ρ3, ok3, p3⟩
          exact ⟨m, Nat.lt_succ_self m, S3, ρ3, ok3, p3⟩
        · rw [if_pos rfl] at h1
          cases eb : body ρ' with
          | nx ρ2 =>
            rw [eb] at h1
            exact fun S4 σ4 H4 ok4 x4 => ⟨S4, ρ2, ok4, PostS.mono h1 (x2.trans x4)⟩
          | ct ρ2 =>
            rw [eb] at h1
            exact fun S4 σ4 H4 ok4 x4 => ⟨S4, ρ2, ok4, PostS.mono h1 (x2.trans x4)⟩
          | bk ρ2 =>
            rw [eb] at h1
            exact fun S4 σ4 H4 ok4 x4 => h1 S4 σ4 H4 ok4 (x2.trans x4)
          | rk d' ρ2 =>
            rw [eb] at h1
            exact fun v4 S4 σ4 H4 ok4 x4 => h1 v4 S4 σ4 H4 ok4 (x2.trans x4)
          | rt d' =>
            rw [eb] at h1
            exact h1
          | er c' =>
            rw [eb] at h1
            exact h1
          | stuck =>
            rw [eb] at h1
            exact h1
/-! ### own lists and dicts changed -/
def sApp (i : Nat) (s : Rho → Res D) : Rho → SR := fun ρ => match ρ[i]? with
  | some (.ow (.lst ds)) => sBind (s ρ) fun d => if ds.length < sizeLine then .nx (ρ.set i (.ow (.lst (ds ++ [d])))) else .stuck
  | _ => .stuck
theorem Own.ref {K : PySem.W.Frag} {S : List Addr} {H : Hp} {v : V} {ds : List D} (h : Own K S H v (.lst ds)) : ∃ a xs, v = .ref a ∧ a ∈ S ∧ H a = some (.lst xs) ∧ RpL K (hide H S) xs ds := by
  cases h with
  | lst h1 h2 h3 => exact ⟨_, _, rfl, h1, h2, h3⟩
theorem ds_append {i : Nat} {x : Str} {p apos cpos : Pos} {e : Expr} {se : Rho → Res D} (he : DP X F e se) (hN : X.N[i]? = some x := by rfl) (hv : Vis X.env.scope x := by first | exact Or.inl rfl | exact Or.inr (Or.inl rfl) | exact Or.inr (Or.inr rfl))
    (hd : (x == ("__debug__" : Str)) = false := by decide) (hcd : (x == ("__classdict__" : Str)) = false := by decide)
    (hbase : attributeBase (.Name x p) "append" X.env (eval (.Name x p) X.env) = eval (.Name x p) X.env := by rfl)
    (hfew : ((backTo cpos (starEach [e] X.env)).all (fun x => !x.1) && (backToKw cpos (keywordEach [] X.env)).all (fun x => x.1.isSome) && decide (([e] : List Expr).length + ([] : List Keyword).length + (if ([] : List Keyword).isEmpty then 0 else 1) < 30)) = true := by rfl)
    (hline : (apos.endLine == cpos.line) = true := by rfl) (hs : starEach [e] X.env = (false, eval e X.env) :: starEach [] X.env := by rfl) (hplain : (backTo cpos (starEach [] X.env)).any (·.1) = false := by rfl)
    (hsw : swapsWith (.Call (.Attribute (.Name x p) "append" apos) [e] [] cpos) none pos.line X.env = pure false := by rfl) :
    DS X F (.Expr (.Call (.Attribute (.Name x p) "append" apos) [e] [] cpos) pos) (sApp i se) :=
  PS.imp (ps_expr (pe_bm PySem.F.plainAttrs_list PySem.F.slot_list_append PySem.F.type_list_append mt_append (pe_var hN hv hd hcd) (pa_cons he pa_nil hs) hbase hfew hline hs hplain) hsw) fun D σ H ⟨S, ρ, ok, h⟩ => by
    unfold sApp at h
    split at h
    · next ds ei =>
      obtain ⟨o, h1, v, rfl, h2⟩ := ok.slots i _ ei
      obtain ⟨a, xs, rfl, q1, q2, q3⟩ := h2.ref
      refine ⟨_, h1, .inl ⟨rfl, _, SqL.of q2⟩, S, ρ, ok, post_sbind h fun d ed h3 => fun y H1 g r => ?_⟩
      by_cases c : ds.length < sizeLine
      · rw [if_pos c] at h3
        have ok1 := ok.up g
        have q2' : H1 a = some (.lst xs) := F.gr.ex g _ _ q2 fun ps z => by cases z
        refine ⟨a, xs, y, rfl, rfl, q2', by rw [q3.len]; exact c, h3 S σ _ (ok1.turn ei h1 (.lst q1 upd_same ?_)) ?_⟩
        · rw [hide_upd q1]
          exact (q3.ex (hide_mono (F.gr.ex g) S)).app (.cons r .nil)
        · rw [hide_upd q1]
          exact hide_mono (F.gr.ex g) S
      · rw [if_neg c] at h3
        exact h3.elim
    · exact h.elim
def sExt (i : Nat) (s : Rho → Res D) : Rho → SR := fun ρ => match ρ[i]? with
  | some (.ow (.lst ds)) => sBind (s ρ) fun d => match d with
    | .lst es => if ds.length + es.length ≤ sizeLine then .nx (ρ.set i (.ow (.lst (ds ++ es)))) else .stuck
    | _ => .stuck
  | _ => .stuck
theorem ds_extend {i : Nat} {x : Str} {p apos cpos : Pos} {e : Expr} {se : Rho → Res D} (he : DP X F e se) (hN : X.N[i]? = some x := by rfl) (hv : Vis X.env.scope x := by first | exact Or.inl rfl | exact Or.inr (Or.inl rfl) | exact Or.inr (Or.inr rfl))
    (hd : (x == ("__debug__" : Str)) = false := by decide) (hcd : (x == ("__classdict__" : Str)) = false := by decide)
    (hbase : attributeBase (.Name x p) "extend" X.env (eval (.Name x p) X.env) = eval (.Name x p) X.env := by rfl)
    (hfew : ((backTo cpos (starEach [e] X.env)).all (fun x => !x.1) && (backToKw cpos (keywordEach [] X.env)).all (fun x => x.1.isSome) && decide (([e] : List Expr).length + ([] : List Keyword).length + (if ([] : List Keyword).isEmpty then 0 else 1) < 30)) = true := by rfl)
    (hline : (apos.endLine == cpos.line) = true := by rfl) (hs : starEach [e] X.env = (false, eval e X.env) :: starEach [] X.env := by rfl) (hplain : (backTo cpos (starEach [] X.env)).any (·.1) = false := by rfl)
    (hsw : swapsWith (.Call (.Attribute (.Name x p) "extend" apos) [e] [] cpos) none pos.line X.env = pure false := by rfl) :
    DS X F (.Expr (.Call (.Attribute (.Name x p) "extend" apos) [e] [] cpos) pos) (sExt i se) :=
  PS.imp (ps_expr (pe_bm PySem.F.plainAttrs_list PySem.F.slot_list_extend PySem.F.type_list_extend mt_extend (pe_var hN hv hd hcd) (pa_cons he pa_nil hs) hbase hfew hline hs hplain) hsw) fun D σ H ⟨S, ρ, ok, h⟩ => by
    unfold sExt at h
    split at h
    · next ds ei =>
      obtain ⟨o, h1, v, rfl, h2⟩ := ok.slots i _ ei
      obtain ⟨a, xs, rfl, q1, q2, q3⟩ := h2.ref
      refine ⟨_, h1, .inl ⟨rfl, _, SqL.of q2⟩, S, ρ, ok, post_sbind h fun d ed h3 => fun y H1 g r => ?_⟩
      cases d with
      | lst es =>
        dsimp only at h3
        by_cases c : ds.length + es.length ≤ sizeLine
        · rw [if_pos c] at h3
          have ok1 := ok.up g
          have q2' : H1 a = some (.lst xs) := F.gr.ex g _ _ q2 fun ps z => by cases z
          cases r with
          | lst r1 r2 =>
            refine ⟨a, _, xs, _, rfl, rfl, q2', (hide_in r1).2, by rw [q3.len, r2.len]; exact c, h3 S σ _ (ok1.turn ei h1 (.lst q1 upd_same ?_)) ?_⟩
            · rw [hide_upd q1]
              exact (q3.ex (hide_mono (F.gr.ex g) S)).app r2
            · rw [hide_upd q1]
              exact hide_mono (F.gr.ex g) S
        · rw [if_neg c] at h3
          exact h3.elim
      | _ => exact h3.elim
    · exact h.elim
/-! ### comprehensions -/
/-- what a comprehension walks: all that stands may be leant on -/
structure ItOkC (K : PySem.W.Frag) (S : List Addr) (H : Hp) (J : It) (ds : List D) : Prop where
  go : ∀ {H' S' i}, Ex H H' → Ex (hide H S) (hide H' S') → i < ds.length → J.go i H'
  stop : ∀ {H' S'}, Ex H H' → Ex (hide H S) (hide H' S') → J.stop ds.length H'
  yld : ∀ {H' S' i x H''}, Ex H H' → Sd S' H' → Ex (hide H S) (hide H' S') → J.yld i H' x H'' → i < ds.length → ∃ d, ds[i]? = some d ∧ Same H' H'' ∧ Rp K (hide H'' S') x d
theorem ItOk.c {K : PySem.W.Frag} {S : List Addr} {H : Hp} {J : It} {ds : List D} (o : ItOk K S H J ds) : ItOkC K S H J ds := ⟨fun _ x l => o.go x l, fun _ x => o.stop x, fun _ sd x y l => o.yld sd x y l⟩
def kdIC (K : PySem.W.Frag) (F : Fm) : Kd F It (List D) := ⟨fun S H Q ds => ∀ J H', F.G H H' → ds.length ≤ sizeLine → ItOkC K S H' J ds → Q J H', fun g h J H' g' l r => h J H' (F.gr.trans g g') l r⟩
abbrev DIC (X : Cx) (F : Fm) (tg iter : Expr) (s : Rho → Res (List D)) : Prop := PI X tg iter (tK X.K (kdIC X.K F) s)
theorem DI.c {tg e : Expr} {s : Rho → Res (List D)} (h : DI X F tg e s) : DIC X F tg e s := PI.imp h fun σ H Q ⟨S, ρ, ok, q⟩ => ⟨S, ρ, ok, by
  cases e : s ρ with
  | ok ds =>
    rw [e] at q
    exact fun J H' g l io => q J H' g l io.c
  | err c =>
    rw [e] at q
    exact q
  | stuck =>
    rw [e] at q
    exact q⟩
/-- an own list, walked by a comprehension -/
def iOwn (s : Rho → Res D) : Rho → Res (List D) := fun ρ => (s ρ).bind fun d => match d with
  | .lst ds => .ok ds
  | _ => .stuck
theorem dic_own {tg e : Expr} {s : Rho → Res D} (he : DB X F e s) : DIC X F tg e (iOwn s) := by
  refine ⟨fun pins s0 σ H R I h => ?_⟩
  obtain ⟨S, ρ, ok, q⟩ := h
  refine thn (he.run pins s0 σ H (fun v H1 => ∃ ds a xs, F.G H H1 ∧ v = .ref a ∧ H1 a = some (.lst xs) ∧ RpL X.K (hide H1 S) xs ds ∧ (kdIC X.K F).post S H R ds) I ⟨S, ρ, ok, post_bind q fun d ed h1 => fun v H1 g r => ?_⟩) fun v s1 ⟨x, H1, I1, r1, ds, a, xs, g, ev, ha, rs, q1⟩ => ?_
  · cases d with
    | lst ds =>
      obtain ⟨a, xs, e1, e2, e3⟩ := r.lst_inv
      exact ⟨ds, a, xs, g, e1, e2, e3, h1⟩
    | _ => exact h1.elim
  · subst ev
    cases r1
    obtain ⟨its, rv, p, hz⟩ := I1.list (SqL.of ha)
    refine wpAny_pyIter_list p.isList ?_
    refine ⟨s1.heap.objs.size, [s1.heap.objs.size], _, _, H1, rfl, I1.kept (t' := s1.toks) fun b o e => Heap.get?_push_of_some _ e, turn_list a _, ⟨_, Heap.get?_push_size _ rfl, rfl, rfl⟩, fun b hb => ?_, q1 _ H1 g (by rw [← rs.len]; exact hz) ⟨?_, ?_, ?_⟩⟩
    · have e : b = s1.heap.objs.size := by simpa using hb
      subst e
      exact I1.fpOk (Nat.le_refl _) (I1.hok.fresh (Nat.le_refl _))
    · intro H' S' i x _ l
      obtain ⟨v, h1, h2⟩ := rs.get (List.getElem?_eq_getElem l)
      exact ⟨xs, v, SqL.of (x _ _ ha fun ps z => by cases z), h1⟩
    · intro H' S' x _
      exact ⟨xs, SqL.of (x _ _ ha fun ps z => by cases z), by rw [rs.len]; exact Nat.le_refl _⟩
    · intro H' S' i v H'' x sd x' y l
      obtain ⟨rfl, f⟩ := y
      have q := f xs (SqL.of (x _ _ ha fun ps z => by cases z))
      obtain ⟨d, h1, h2⟩ := rs.get' q
      exact ⟨d, h1, Same.refl _, h2.ex x'⟩
def wipeR (ρ : Rho) : List Nat → Rho
  | [] => ρ
  | v :: vs => (wipeR ρ vs).set v .no
theorem EnvOk.wipe1 {K : PySem.W.Frag} {S : List Addr} {σ : L2.St} {H : Hp} {ρ : Rho} (ok : EnvOk K F S σ H ρ) (i : Nat) : EnvOk K F S (σ.set i none) H (ρ.set i .no) where
  grow := ok.grow
  base := ok.base
  new := ok.new
  sdom := ok.sdom
  len := by rw [List.length_set, List.length_set, ok.len]
  slots := fun j s e => by
    by_cases c : i = j
    · subst c
      have hl : i < ρ.length := by
        have := (List.getElem?_eq_some_iff.mp e).1
        rwa [List.length_set] at this
      rw [List.getElem?_set_self hl] at e
      cases e
      rw [List.getElem?_set_self (by rw [ok.len]; exact hl)]
      exact ⟨_, rfl, trivial⟩
    · rw [List.getElem?_set_ne c] at e
      rw [List.getElem?_set_ne c]
      exact ok.slots j s e
  dist := fun j k dj dk a h1 h2 h3 h4 => by
    have back : ∀ (l : Nat) (dl : D), (ρ.set i .no)[l]? = some (.ow dl) → (σ.set i none)[l]? = some (some (.ref a)) → ρ[l]? = some (.ow dl) ∧ σ[l]? = some (some (.ref a)) := fun l dl q q' => by
      by_cases c : i = l
      · subst c
        have hl : i < ρ.length := by
          have := (List.getElem?_eq_some_iff.mp q).1
          rwa [List.length_set] at this
        rw [List.getElem?_set_self hl] at q
        cases q
      · rw [List.getElem?_set_ne c] at q q'
        exact ⟨q, q'⟩
    obtain ⟨a1, a2⟩ := back j dj h1 h3
    obtain ⟨b1, b2⟩ := back k dk h2 h4
    exact ok.dist j k dj dk a a1 b1 a2 b2
  nown := fun j dj a h1 h2 => by
    by_cases c : i = j
    · subst c
      have hl : i < ρ.length := by
        have := (List.getElem?_eq_some_iff.mp h1).1
        rwa [List.length_set] at this
      rw [List.getElem?_set_self hl] at h1
      cases h1
    · rw [List.getElem?_set_ne c] at h1 h2
      exact ok.nown j dj a h1 h2
  trs := ok.trs.move (Ex.refl _) (fun b o hb ho _ _ _ => ⟨hb, ho⟩) (fun j t e => by
      obtain ⟨c, e'⟩ := set_tr e fun u z => by cases z
      exact ⟨e', List.getElem?_set_ne c⟩) (fun a _ h _ => h) fun j dj a e1 e2 => by
    by_cases c : i = j
    · subst c
      have hl : i < ρ.length := by
        have := (List.getElem?_eq_some_iff.mp e1).1
        rwa [List.length_set] at this
      rw [List.getElem?_set_self hl] at e1
      cases e1
    · rw [List.getElem?_set_ne c] at e1 e2
      exact .inr ⟨j, dj, e1, e2⟩
theorem EnvOk.wipe {K : PySem.W.Frag} {S : List Addr} {σ : L2.St} {H : Hp} {ρ : Rho} (ok : EnvOk K F S σ H ρ) : ∀ vs : List Nat, EnvOk K F S (L2.wipe σ vs) H (wipeR ρ vs)
  | [] => ok
  | v :: vs => (ok.wipe vs).wipe1 v
/-- a further hidden object -/
theorem EnvOk.hid {K : PySem.W.Frag} {S : List Addr} {σ : L2.St} {H H' : Hp} {ρ : Rho} (ok : EnvOk K F S σ H ρ) {p : Addr} {ob : HO} (g : F.G H H') (n : Nt H p) (e : H' p = some ob) (m : Mut ob) : EnvOk K F (p :: S) σ H' ρ where
  grow := F.up ok.grow g
  base := fun a h => List.mem_cons_of_mem _ (ok.base a h)
  new := fun a h => by
    rcases List.mem_cons.mp h with rfl | h
    · exact .inr (F.fresh ok.grow n)
    · exact ok.new a h
  sdom := fun a h => by
    rcases List.mem_cons.mp h with rfl | h
    · exact ⟨_, e, m⟩
    · exact (ok.up g).sdom a h
  len := ok.len
  slots := fun j s e => by
    obtain ⟨o', h1, h2⟩ := ok.slots j s e
    refine ⟨o', h1, ?_⟩
    have x : Ex (hide H S) (hide H' (p :: S)) := hide_new (F.gr.ex g) n
    cases s with
    | no => trivial
    | fz d' =>
      obtain ⟨v, e1, r⟩ := h2
      exact ⟨v, e1, r.ex x⟩
    | ow d' =>
      obtain ⟨v, e1, r⟩ := h2
      refine ⟨v, e1, ?_⟩
      cases r with
      | lst q1 q2 q3 => exact .lst (List.mem_cons_of_mem _ q1) (F.gr.ex g _ _ q2 fun ps z => by cases z) (q3.ex x)
      | dic q1 q2 q3 => exact .dic (List.mem_cons_of_mem _ q1) (F.gr.ex g _ _ q2 fun ps z => by cases z) (q3.ex x)
    | tr t => trivial
  dist := ok.dist
  nown := ok.nown
  trs := ok.trs.move (hide_new (F.gr.ex g) n) (fun b o hb ho m _ _ => ⟨List.mem_cons_of_mem _ hb, F.gr.ex g b o ho m.nt⟩) (fun i t e => ⟨e, rfl⟩) (fun a _ h _ => h) fun i d a e1 e2 => .inr ⟨i, d, e1, e2⟩
theorem EnvOk.nox {K : PySem.W.Frag} {S : List Addr} {σ : L2.St} {H : Hp} {ρ : Rho} (ok : EnvOk K F S σ H ρ) : EnvOk K F.nox S σ H ρ := ⟨ok.grow, ok.base, ok.new, ok.sdom, ok.len, ok.slots, ok.dist, ok.nown, ok.trs⟩
theorem EnvOk.unnox {K : PySem.W.Frag} {S : List Addr} {σ : L2.St} {H : Hp} {ρ : Rho} (ok : EnvOk K F.nox S σ H ρ) : EnvOk K F S σ H ρ := ⟨ok.grow, ok.base, ok.new, ok.sdom, ok.len, ok.slots, ok.dist, ok.nown, ok.trs⟩
def compL (t : Tg) (tt : Rho → Res Bool) (el : Rho → Res D) (ρ : Rho) : List D → Res (List D)
  | [] => .ok []
  | d :: ds => match t.asg d ρ with
    | none => .stuck
    | some ρ1 => match tt ρ1 with
      | .ok k => if k = true then (match el ρ1 with
        | .ok y => (compL t tt el ρ ds).bind fun ys => .ok (y :: ys)
        | _ => .stuck) else compL t tt el ρ ds
      | _ => .stuck
def eComp (it : Rho → Res (List D)) (t : Tg) (tt : Rho → Res Bool) (el : Rho → Res D) (vs : List Nat) : Rho → Res D := fun ρ => (it ρ).bind fun ds => (compL t tt el (wipeR ρ vs) ds).bind fun out => .ok (.lst out)
def tYes' : Rho → Res Bool := fun _ => .ok true
abbrev DTs (X : Cx) (F : Fm) (es : List Expr) (s : Rho → Res Bool) : Prop := PTs X es (tK X.K (kdT F) s)
theorem PTs.imp {X : Cx} {e : List Expr} {t t' : TT} (h : PTs X e t) (i : ∀ σ H Q, t' σ H Q → t σ H Q) : PTs X e t' := ⟨fun pins s σ H Q I q => h.run pins s σ H Q I (i σ H Q q)⟩
theorem dts_nil : DTs X F [] tYes' := PTs.imp pts_nil fun σ H Q ⟨S, ρ, ok, q⟩ => q H (F.gr.refl H)
theorem dts_one {c : Expr} {s : Rho → Res Bool} (h : DT X F c s) : DTs X F [c] s := pts_one h
theorem compL_no_err {t : Tg} {tt : Rho → Res Bool} {el : Rho → Res D} {ρ : Rho} : ∀ {ds : List D} {c : Str}, compL t tt el ρ ds = .err c → False
  | [], _, e => by cases e
  | d :: ds, c, e => by
    unfold compL at e
    split at e
    · cases e
    · split at e
      · split at e
        · split at e
          · cases e2 : compL t tt el ρ ds with
            | ok ys =>
              rw [e2] at e
              cases e
            | err c' => exact compL_no_err e2
            | stuck =>
              rw [e2] at e
              cases e
          · cases e
        · exact compL_no_err e
      · cases e
theorem tLc_of {K : PySem.W.Frag} {it : Rho → Res (List D)} {t : Tg} {tt : Rho → Res Bool} {el : Rho → Res D} {vs : List Nat} {σ : L2.St} {H : Hp} {Q : VK} (hv : ∀ i ∈ t.vs, i ∈ vs) (h : tK K (kdF K F) (eComp it t tt el vs) σ H Q) :
    tLc (tK K (kdIC K F) it) (t.g K) (tK K (kdT F.nox) tt) (tK K (kdV K F.nox) el) vs σ H Q := by
  obtain ⟨S, ρ, ok, q⟩ := h
  refine ⟨S, ρ, ok, post_bind q fun ds ed h1 => fun J H1 g hz io => ?_⟩
  intro p np
  cases eo : compL t tt el (wipeR ρ vs) ds with
  | err c => exact (compL_no_err eo).elim
  | stuck =>
    rw [eo] at h1
    exact h1.elim
  | ok out =>
    rw [eo] at h1
    have n0 : Nt H p := F.gr.dom g (Nt.of np)
    have ok1 : EnvOk K F S σ H1 ρ := ok.up g
    have s1 : Same H1 (upd H1 p (.lst [])) := same_new np
    refine ⟨fun i m H' => ∃ acc outs rest, i + m = ds.length ∧ H' p = some (.lst acc) ∧ RpL K (hide H' (p :: S)) acc outs ∧ outs.length ≤ i ∧ F.G H1 H' ∧ EnvOk K F (p :: S) (L2.wipe σ vs) H' (wipeR ρ vs) ∧ Ex (hide H1 S) (hide H' (p :: S)) ∧
        compL t tt el (wipeR ρ vs) (ds.drop i) = .ok rest ∧ outs ++ rest = out,
      ⟨ds.length, [], [], out, by omega, upd_same, .nil, Nat.le_refl _, F.gr.same s1, (ok1.hid (F.gr.same s1) (Nt.of np) upd_same (.lst _)).wipe vs, hide_new (Ex.of s1) (Nt.of np), eo, rfl⟩, ?_⟩
    rintro i m H' ⟨acc, outs, rest, em, hp, hr, hl, g', ok', x', er, eq'⟩
    by_cases c : i < ds.length
    · refine .inr ⟨io.go (F.gr.ex g') x' c, fun H2 => ∃ acc outs rest, H2 p = some (.lst acc) ∧ RpL K (hide H2 (p :: S)) acc outs ∧ outs.length ≤ i + 1 ∧ F.G H1 H2 ∧ EnvOk K F (p :: S) (L2.wipe σ vs) H2 (wipeR ρ vs) ∧ Ex (hide H1 S) (hide H2 (p :: S)) ∧
        compL t tt el (wipeR ρ vs) (ds.drop (i + 1)) = .ok rest ∧ outs ++ rest = out, ?_, ?_⟩
      · rintro H2 ⟨acc2, outs2, rest2, a1, a2, a3, a4, a5, a6, a7, a8⟩
        exact ⟨m - 1, by omega, acc2, outs2, rest2, by omega, a1, a2, a3, a4, a5, a6, a7, a8⟩
      · intro v H2 hy
        obtain ⟨d, h3, s3, r3⟩ := io.yld (F.gr.ex g') ok'.sd x' hy c
        have ed' : ds.drop i = d :: ds.drop (i + 1) := by
          rw [List.drop_eq_getElem_cons c]
          have : ds[i] = d := by
            rw [List.getElem?_eq_getElem c] at h3
            exact Option.some.inj h3
          rw [this]
        rw [ed'] at er
        unfold compL at er
        cases ea : t.asg d (wipeR ρ vs) with
        | none =>
          rw [ea] at er
          cases er
        | some ρ1 =>
          rw [ea] at er
          dsimp only at er
          have g3 : F.G H' H2 := F.gr.same s3
          refine tg_of (ok'.up g3) r3 ea vs hv fun σ3 ok3 w3 => ⟨?_, ?_⟩
          · rw [w3, wipe_sub fun i hi => hi]
          · refine ⟨p :: S, ρ1, ok3.nox, ?_⟩
            cases et : tt ρ1 with
            | err c' =>
              rw [et] at er
              cases er
            | stuck =>
              rw [et] at er
              cases er
            | ok k =>
              rw [et] at er
              intro H3 g4
              have x4 : Ex H' H3 := (Ex.of s3).trans (F.gr.ex g4)
              have p3 : H3 p = some (.lst acc) := x4 _ _ hp fun ps z => by cases z
              dsimp only at er
              cases k with
              | false =>
                rw [if_neg Bool.false_ne_true] at er
                refine iteF ⟨acc, outs, rest, p3, hr.ex (hide_mono x4 _), by omega, F.gr.trans g' (F.gr.trans g3 g4), ok'.up (F.gr.trans g3 g4), x'.trans (hide_mono x4 _), er, eq'⟩
              | true =>
                rw [if_pos rfl] at er
                refine iteT ⟨p :: S, ρ1, (ok3.up g4).nox, ?_⟩
                cases ee : el ρ1 with
                | err c' =>
                  rw [ee] at er
                  cases er
                | stuck =>
                  rw [ee] at er
                  cases er
                | ok y =>
                  rw [ee] at er
                  intro yv H4 g5 ry
                  have x5 : Ex H' H4 := x4.trans (F.gr.ex g5)
                  have p4 : H4 p = some (.lst acc) := x5 _ _ hp fun ps z => by cases z
                  cases e6 : compL t tt el (wipeR ρ vs) (ds.drop (i + 1)) with
                  | err c' => exact (compL_no_err e6).elim
                  | stuck =>
                    rw [e6] at er
                    cases er
                  | ok rest2 =>
                    rw [e6] at er
                    cases er
                    have g6 : F.G H1 H4 := F.gr.trans g' (F.gr.trans g3 (F.gr.trans g4 g5))
                    have hin : p ∈ p :: S := List.mem_cons_self ..
                    refine ⟨acc, p4, ?_, acc ++ [yv], outs ++ [y], rest2, upd_same, ?_, by rw [List.length_append]; exact Nat.succ_le_succ hl, F.gr.mu g6 (Nt.of np) p4 (.lst _), ?_, ?_, rfl, by rw [← eq', List.append_assoc]; rfl⟩
                    · rw [hr.len]
                      omega
                    · rw [hide_upd hin]
                      exact (hr.ex (hide_mono x5 _)).app (.cons ry .nil)
                    · have ok4 := ok'.up (F.gr.trans g3 (F.gr.trans g4 g5))
                      have n1 : F.W p := F.fresh ok1.grow (Nt.of np)
                      refine ⟨F.mu ok4.grow n1 p4 (.lst _), ok4.base, ok4.new, fun b hb => ?_, ok4.len, fun j s' e' => ?_, ok4.dist, ok4.nown, (ok1.wipe vs).trs.move (by rw [hide_upd hin]; exact x'.trans (hide_mono x5 _)) (fun b o hb ho m _ _ => ⟨List.mem_cons_of_mem _ hb, by
                        have nb : b ≠ p := fun z => by
                          rw [z, np] at ho
                          cases ho
                        rw [upd_ne nb]
                        exact F.gr.ex g6 b o ho m.nt⟩) (fun i t e => ⟨e, rfl⟩) (fun a _ h _ => h) fun i d a e1 e2 => .inr ⟨i, d, e1, e2⟩⟩
                      · by_cases c' : b = p
                        · subst c'
                          exact ⟨_, upd_same, .lst _⟩
                        · rw [upd_ne c']
                          exact ok4.sdom b hb
                      · obtain ⟨o', z1, z2⟩ := ok4.slots j s' e'
                        refine ⟨o', z1, ?_⟩
                        cases s' with
                        | no => trivial
                        | fz d' =>
                          obtain ⟨v', e1, r'⟩ := z2
                          exact ⟨v', e1, by rw [hide_upd hin]; exact r'⟩
                        | ow dj =>
                          obtain ⟨v', e1, r'⟩ := z2
                          refine ⟨v', e1, ?_⟩
                          have old : ∀ (b : Addr) (xs : List V), v' = .ref b → b ≠ p := fun b xs ev z => by
                            subst z
                            subst ev
                            subst e1
                            have hw := (ok1.wipe vs).slots j _ e'
                            obtain ⟨o2, y1, v2, y2, y3⟩ := hw
                            rw [z1] at y1
                            cases y1
                            cases y2
                            cases y3 with
                            | lst _ y4 _ =>
                              rw [np] at y4
                              cases y4
                            | dic _ y4 _ =>
                              rw [np] at y4
                              cases y4
                          cases r' with
                          | @lst b xs _ q1 q2 q3 => exact .lst q1 (by rw [upd_ne (old b xs rfl)]; exact q2) (by rw [hide_upd hin]; exact q3)
                          | @dic b _ _ q1 q2 q3 => exact .dic q1 (by rw [upd_ne (old b [] rfl)]; exact q2) (by rw [hide_upd hin]; exact q3)
                        | tr t => trivial
                    · rw [hide_upd hin]
                      exact x'.trans (hide_mono x5 _)
    · have ei : i = ds.length := by omega
      refine .inl ⟨by rw [ei]; exact io.stop (F.gr.ex g') x', ?_⟩
      rw [List.drop_eq_nil_of_le (by omega)] at er
      cases er
      rw [List.append_nil] at eq'
      subst eq'
      exact h1 p H' (F.gr.trans g g') n0 (.lst (List.mem_cons_self ..) hp hr)
theorem df_comp {elt tg iter : Expr} {ifs : List Expr} {scope : Scope} {own : List (Str × Nat)} {pos : Pos} {it : Rho → Res (List D)} {t : Tg} {tt : Rho → Res Bool} {el : Rho → Res D} (hc : X.calm = true) (hN : X.N.Nodup) (hi : DIC X F tg iter it)
    (ok : BlkOk X.N X.env.scope scope own)
    (hg : ∀ (s : Shared) (H : Hp) (C : Addr) (cl : List (Str × Addr)) (fp : List Addr), DG (X.blk s H scope (compEnvC scope cl C X.env) fp) tg t)
    (ht : ∀ (s : Shared) (H : Hp) (C : Addr) (cl : List (Str × Addr)) (fp : List Addr), DTs (X.blk s H scope (compEnvC scope cl C X.env) fp) F.nox ifs tt)
    (he : ∀ (s : Shared) (H : Hp) (C : Addr) (cl : List (Str × Addr)) (fp : List Addr), DP (X.blk s H scope (compEnvC scope cl C X.env) fp) F.nox elt el) (hv : ∀ i ∈ t.vs, i ∈ own.map (·.2) := by decide)
    (hs : ∀ x, foldedSetIterable iter X.env x = pure x := by intro _; rfl) : DF X F (.ListComp elt [⟨tg, iter, ifs, 0⟩] scope pos) (eComp it t tt el (own.map (·.2))) :=
  PE.imp (pe_lc hc hN hi ok hg ht he hs) fun σ H Q h => tLc_of hv h
/-- name = [..] on one line -/
theorem ds_setComp {i : Nat} {y : Str} {py : Pos} {elt tg iter : Expr} {ifs : List Expr} {scope : Scope} {own : List (Str × Nat)} {pos spos : Pos} {it : Rho → Res (List D)} {t : Tg} {tt : Rho → Res Bool} {el : Rho → Res D} (hc : X.calm = true) (hN : X.N.Nodup)
    (hi : DIC X F tg iter it) (ok : BlkOk X.N X.env.scope scope own)
    (hg : ∀ (s : Shared) (H : Hp) (C : Addr) (cl : List (Str × Addr)) (fp : List Addr), DG (X.blk s H scope (compEnvC scope cl C X.env) fp) tg t)
    (ht : ∀ (s : Shared) (H : Hp) (C : Addr) (cl : List (Str × Addr)) (fp : List Addr), DTs (X.blk s H scope (compEnvC scope cl C X.env) fp) F.nox ifs tt)
    (he : ∀ (s : Shared) (H : Hp) (C : Addr) (cl : List (Str × Addr)) (fp : List Addr), DP (X.blk s H scope (compEnvC scope cl C X.env) fp) F.nox elt el) (hy : X.N[i]? = some y := by rfl) (hyl : X.env.scope.names.lookup y = some .local := by rfl)
    (hsw : swapsWith (.ListComp elt [⟨tg, iter, ifs, 0⟩] scope pos) (some (.Name y py)) spos.line X.env = pure true := by exact sw_true rfl rfl rfl (by decide +kernel)) (hv : ∀ i ∈ t.vs, i ∈ own.map (·.2) := by decide)
    (hs : ∀ x, foldedSetIterable iter X.env x = pure x := by intro _; rfl) : DS X F (.Assign [.Name y py] (.ListComp elt [⟨tg, iter, ifs, 0⟩] scope pos) spos) (sSet i (eComp it t tt el (own.map (·.2)))) :=
  PS.imp (ps_setLc hc hN hy hyl hsw hi ok hg ht he hs) fun D σ H ⟨S, ρ, ok', h⟩ => tLc_of hv ⟨S, ρ, ok', post_sbind h fun d ed h1 => fun p H' g n o => by
    refine h1 S _ H' ((ok'.up g).set i ?_) (hide_mono (F.gr.ex g) S)
    have hs : p ∉ S := ok'.fresh n
    cases o with
    | lst h1 h2 h3 => exact .lst (by rw [hide_of hs]; exact h2) (h3.ex (hide_less fun a h => List.mem_cons_of_mem _ h))
    | dic h1 h2 h3 => exact .dic (by rw [hide_of hs]; exact h2) (h3.ex (hide_less fun a h => List.mem_cons_of_mem _ h))⟩
end
end DL

set_option Elab.async false
set_option linter.all false
set_option maxRecDepth 100000
set_option maxHeartbeats 1000000
/-! DL6: defs by data, calls, raise, built-ins. -/
namespace DL
open PySem PySem.Spec PyProof.Rows L2 LamX

/-! ### growth with tables of code objects -/
abbrev Tb : Type := List (Addr × Str)
def GT (T : Tb) (H H' : Hp) : Prop := Ex H H' ∧ (Tabs T H → Tabs T H')
theorem grow_tab (T : Tb) : Grow (GT T) where
  refl := fun H => ⟨Ex.refl H, fun t => t⟩
  trans := fun a b => ⟨a.1.trans b.1, fun t => b.2 (a.2 t)⟩
  same := fun s => ⟨Ex.of s, fun t => t.ext fun b o e => s b o e⟩
  ex := fun g => g.1
  dom := fun {H H' b} g n o e => by
    by_cases c : ∃ ps, o = .tbl ps
    · exact c
    · exact (n.no (g.1 b o e fun ps z => c ⟨ps, z⟩) fun ps z => c ⟨ps, z⟩).elim
  mu := fun {H0 H a o o'} g n ha m => by
    refine ⟨fun b u e nt => ?_, fun t p hp => ?_⟩
    · have nb : b ≠ a := fun z => by
        subst z
        exact n.no e nt
      rw [upd_ne nb]
      exact g.1 b u e nt
    · obtain ⟨ps, h1, h2, h3⟩ := g.2 t p hp
      have np : p.1 ≠ a := fun z => by
        rw [z, ha] at h1
        cases h1
        exact m.nt ps rfl
      refine ⟨ps, by rw [upd_ne np]; exact h1, h2, fun pos cv e => ?_⟩
      obtain ⟨c, rfl, hc⟩ := h3 pos cv e
      refine ⟨c, rfl, ?_⟩
      have nc : c ≠ a := fun z => by
        rw [z, ha] at hc
        cases hc
        cases m
      rw [upd_ne nc]
      exact hc
/-! ### a def by data -/
def spD (K : PySem.W.Frag) (T : Tb) (m : List D → Res D) : Sp := fun vs H Q E => Tabs T H ∧ ∃ ds S, (∀ a ∈ S, ∃ o, H a = some o ∧ Mut o) ∧ RpL K (hide H S) vs ds ∧
  match m ds with
  | .ok d => ∀ v H', GT T H H' → Rp K (hide H' S) v d → Q v H'
  | .err c => ∀ H', GT T H H' → E (.ref (He.ga K c)) none H'
  | .stuck => False
/-- a def's code object -/
def cdA (K : PySem.W.Frag) (f : Addr) : Addr := match K.lookup f with
  | some ⟨_, _, .func fd, _⟩ => (match fd.code with
    | .ref c => c
    | _ => 0)
  | _ => 0
theorem cdA_eq {K : PySem.W.Frag} {f : Addr} {oc : Value} {od : Option Addr} {osl : Array (Option Value)} {fd : FuncData} {c : Addr} (lk : K.lookup f = some ⟨oc, od, .func fd, osl⟩) (e : fd.code = .ref c) : cdA K f = c := by
  unfold cdA
  rw [lk]
  show (match fd.code with | .ref c => c | _ => 0) = c
  rw [e]
theorem codeIn_ref {K : PySem.W.Frag} {cd : Value} {q : Str} (h : PySem.W.codeIn K cd q = true) : ∃ c, cd = .ref c := by
  cases cd with
  | ref c => exact ⟨c, rfl⟩
  | _ => cases h
def rho0 (N : Nat) (ds : List D) : Rho := ds.map Slot.fz ++ List.replicate (N - ds.length) .no
def outOf : SR → Res D
  | .nx _ => .ok .non
  | .rt d => .ok d
  | .er c => .err c
  | _ => .stuck
def runB (n N : Nat) (s : Rho → SR) (ds : List D) : Res D := if ds.length = n then outOf (s (rho0 N ds)) else .stuck
theorem runB_len {n N : Nat} {s : Rho → SR} {ds : List D} {α : Prop} (h : match runB n N s ds with
  | .ok d => True
  | .err c => True
  | .stuck => False) : ds.length = n := by
  unfold runB at h
  by_cases c : ds.length = n
  · exact c
  · rw [if_neg c] at h
    exact h.elim
abbrev fm0 (T : Tb) (S : List Addr) (H : Hp) (E : XK) : Fm := Fm.std (GT T) (grow_tab T) S H E
structure Fits (T : Tb) (F : Fm) : Prop where
  g : ∀ {H H' : Hp}, GT T H H' → F.G H H'
  t : ∀ {H : Hp}, F.I H → Tabs T H
theorem Fits.nox {T : Tb} {F : Fm} (h : Fits T F) : Fits T F.nox := ⟨h.g, h.t⟩
theorem fits0 {T : Tb} {S : List Addr} {H : Hp} {E : XK} (hT : Tabs T H) : Fits T (fm0 T S H E) := ⟨fun g => g, fun g => g.2 hT⟩
theorem start_ok {K : PySem.W.Frag} {T : Tb} {S : List Addr} {H : Hp} {E : XK} {N : List Str} {vs : List V} {ds : List D} (hs : ∀ a ∈ S, ∃ o, H a = some o ∧ Mut o) (r : RpL K (hide H S) vs ds) :
    EnvOk K (fm0 T S H E) S (L2.start N vs) H (rho0 N.length ds) where
  grow := (grow_tab T).refl H
  base := fun a h => h
  new := fun a h => .inl h
  sdom := hs
  len := by
    unfold L2.start rho0
    rw [List.length_append, List.length_append, List.length_map, List.length_map, List.length_replicate, List.length_replicate, r.len]
  slots := fun i s e => by
    unfold rho0 at e
    unfold L2.start
    by_cases c : i < ds.length
    · rw [List.getElem?_append_left (by rw [List.length_map]; exact c), List.getElem?_map] at e
      rw [List.getElem?_append_left (by rw [List.length_map, r.len]; exact c), List.getElem?_map]
      rw [List.getElem?_eq_getElem c] at e
      cases e
      obtain ⟨y, h1, h2⟩ := r.get (List.getElem?_eq_getElem c)
      rw [h1]
      exact ⟨_, rfl, y, rfl, h2⟩
    · have hl : i < (ds.map Slot.fz ++ List.replicate (N.length - ds.length) Slot.no).length := (List.getElem?_eq_some_iff.mp e).1
      rw [List.length_append, List.length_map, List.length_replicate] at hl
      rw [List.getElem?_append_right (by rw [List.length_map]; omega), List.length_map] at e
      rw [List.getElem?_append_right (by rw [List.length_map, r.len]; omega), List.length_map, r.len]
      rw [List.getElem?_replicate, if_pos (by omega)] at e
      cases e
      rw [List.getElem?_replicate, if_pos (by omega)]
      exact ⟨_, rfl, trivial⟩
  dist := fun i j di dj a h1 => by
    have : Slot.ow di ∈ rho0 N.length ds := List.mem_of_getElem? h1
    unfold rho0 at this
    rcases List.mem_append.mp this with z | z
    · obtain ⟨d, _, e⟩ := List.mem_map.mp z
      cases e
    · have := List.eq_of_mem_replicate z
      cases this
  nown := fun i di a h1 => by
    have : Slot.ow di ∈ rho0 N.length ds := List.mem_of_getElem? h1
    unfold rho0 at this
    rcases List.mem_append.mp this with z | z
    · obtain ⟨d, _, e⟩ := List.mem_map.mp z
      cases e
    · have := List.eq_of_mem_replicate z
      cases this
  trs := TrOk.none fun i t h1 => by
    have : Slot.tr t ∈ rho0 N.length ds := List.mem_of_getElem? h1
    unfold rho0 at this
    rcases List.mem_append.mp this with z | z
    · obtain ⟨d, _, e⟩ := List.mem_map.mp z
      cases e
    · have := List.eq_of_mem_replicate z
      cases this
section
variable {P : Program} {w : World} {K : PySem.W.Frag} {mg : Str → Option Value} {base : Heap} {x qual : Str} {params : Arguments} {body : List Stmt} {scope : Scope} {f : Addr} {fd : FuncData}
theorem fn_data {T : Tb} {N ps : List Str} {k n : Nat} {s : Rho → SR} (F : FunD K x qual params body scope [] [] f fd) (Sc : FnScope N ps scope) (hn : n = ps.length)
    (hb : ∀ (A : Around) (outer : List Env) (st : Shared) (H : Hp) (E : XK) (S : List Addr), Tabs T H → Room k (A.deeper (envOfC qual scope st.heap.objs.size f (.ref (cdA K f)))) →
      DSs (cxOf (L2.CX P w) P w K mg base N qual scope f (.ref (cdA K f)) A outer st H E) (fm0 T S H E) body s) :
    FnOk P w K mg base (L2.CX P w) (k + 1) f fd ps (spD K T (runB n N.length s)) := by
  have key : ∀ {vs : List V} {H : Hp} {Q : VK} {E : XK} {ds : List D} {S : List Addr}, RpL K (hide H S) vs ds → (match runB n N.length s ds with
      | .ok d => ∀ v H', GT T H H' → Rp K (hide H' S) v d → Q v H'
      | .err c => ∀ H', GT T H H' → E (.ref (He.ga K c)) none H'
      | .stuck => False) → ds.length = n := by
    intro vs H Q E ds S r h
    unfold runB at h
    by_cases c : ds.length = n
    · exact c
    · rw [if_neg c] at h
      exact h.elim
  obtain ⟨oc, od, dV, kV, doc, pm, an, cdv, ct, osl, rfl, lk, hcd, _, _⟩ := F.ex
  obtain ⟨c, rfl⟩ := codeIn_ref hcd
  have ec : cdA K f = c := cdA_eq lk rfl
  refine fn_of lk hcd Sc (fun vs H Q E h => ?_) (fun A outer st H vs Q E hr h => ?_)
  · obtain ⟨_, ds, S, hs, r, h⟩ := h
    rw [r.len, key (Q := Q) (E := E) r h, hn]
  · obtain ⟨hT, ds, S, hs, r, h⟩ := h
    have hl := key (Q := Q) (E := E) r h
    unfold runB at h
    rw [if_pos hl] at h
    have hb' := hb A outer st H E S hT
    rw [ec] at hb'
    refine ⟨_, hb' hr, S, rho0 N.length ds, start_ok hs r, ?_⟩
    show PostS K (fm0 T S H E) S H _ (s (rho0 N.length ds))
    cases e : s (rho0 N.length ds) with
    | nx ρ =>
      rw [e] at h
      exact fun S' σ' H' ok' x => h _ H' ok'.grow .non
    | rt d =>
      rw [e] at h
      exact fun v H' g r => h v H' g r
    | er c =>
      rw [e] at h
      exact h
    | bk ρ =>
      rw [e] at h
      exact h.elim
    | ct ρ =>
      rw [e] at h
      exact h.elim
    | stuck =>
      rw [e] at h
      exact h.elim
    | rk d ρ =>
      rw [e] at h
      exact h.elim
end
section
variable {X : Cx} {F : Fm} {pos : Pos}
def eFn (m : List D → Res D) (ss : Rho → Res (List D)) : Rho → Res D := fun ρ => (ss ρ).bind m
theorem tCall_of {K : PySem.W.Frag} {T : Tb} {m : List D → Res D} {ss : Rho → Res (List D)} {σ : L2.St} {H : Hp} {Q : VK} (hF : Fits T F) (h : tK K (kdV K F) (eFn m ss) σ H Q) : tCall (spD K T m) [] F.E (tK K (kdL K F) ss) σ H Q := by
  obtain ⟨S, ρ, ok, q⟩ := h
  refine ⟨S, ρ, ok, post_bind q fun ds ed h1 => fun vs H1 g r => ?_⟩
  rw [List.append_nil]
  have ok1 := ok.up g
  refine ⟨hF.t ok1.grow, ds, S, ok1.sdom, r, ?_⟩
  cases e : m ds with
  | ok d =>
    rw [e] at h1
    exact fun v H' s r' => h1 v H' (F.gr.trans g (hF.g s)) r'
  | err c =>
    rw [e] at h1
    exact fun H' s => h1 H' (F.up ok1.grow (hF.g s))
  | stuck =>
    rw [e] at h1
    exact h1
theorem dp_call {T : Tb} {m : List D → Res D} {x : Str} {k : Nat} {f : Addr} {fd : FuncData} {ps : List Str} {p : Pos} {e : Expr} {es : List Expr} {ss : Rho → Res (List D)} (hF : Fits T F) (Fn : FnOk X.prog X.w X.K X.mg X.base (L2.CX X.prog X.w) k f fd ps (spD X.K T m)) (hr : Room k X.A)
    (hm : X.mg x = some (.ref f)) (hk : PySem.W.keepIn X.K (.ref f) = true) (hb : Binds X.K fd ps []) (hx : Passes (L2.CX X.prog X.w) X F.E) (ha : DA X F (e :: es) ss) (hg : Gl X x := by rfl) (hdb : (x == ("__debug__" : Str)) = false := by decide)
    (he : starEach (e :: es) X.env = (false, eval e X.env) :: starEach es X.env := by rfl) (hpl : (backTo pos (starEach es X.env)).any (·.1) = false := by rfl) : DP X F (.Call (.Name x p) (e :: es) [] pos) (eFn m ss) :=
  PE.imp (pe_call Fn hr hg hm hk hb .nil hx ha hdb he hpl) fun _ _ _ h => tCall_of hF h
/-! ### raise -/
/-- what the text tells of an exception's class -/
structure ExcT (K : PySem.W.Frag) (mg : Str → Option Value) (c : Str) : Prop where
  q : PySem.W.excIn K (He.ga K c) He.veBase "ValueError.__new__" = true
  k : PySem.W.keepIn K (.ref (He.ga K c)) = true
  s : PySem.W.subIn K (.ref (He.ga K c)) (.type "BaseException") = some true
  t : PySem.W.typeIn K (.ref (He.ga K c)) = some (.type "type")
  g : mg c = some (.ref (He.ga K c))
def sRaise (c : Str) : Rho → SR := fun _ => .er c
theorem ds_raise {c m : Str} {j : Nat} {p p2 p3 : Pos} (hc : X.calm = true) (tk : Takes X (fun cls d _ H => F.E cls d H)) (T : ExcT X.K X.mg c) (hg : Gl X c := by rfl) (hdb : (c == ("__debug__" : Str)) = false := by decide) :
    DS X F (.Raise (some (.Call (.Name c p) [.Constant (.str m) j p2] [] p3)) none pos) (sRaise c) :=
  PS.imp (ps_raise hc tk (pmk_own PySem.F.excBase_ValueError T.q T.g T.k (raises_own T.s T.t) hg hdb)) fun D σ H ⟨S, ρ, ok, h⟩ => h H ok.grow
/-! ### len, tuple, list, all, any -/
def dLen : List D → Option D
  | [.tup ds] => some (.int ds.length)
  | [.lst ds] => some (.int ds.length)
  | [.gtup ds] => some (.int ds.length)
  | [.scr ns] => some (.int ns.length)
  | [.str x] => if x.length ≤ sizeLine then some (.int x.length) else none
  | _ => none
theorem call_lenP : CallR X (.builtin "len") (rDC X.K dLen) := by
  intro pins s σ H xs us Q I rv h
  obtain ⟨S, ds, d, sd, rs, e, q⟩ := h
  unfold dLen at e
  split at e
  · cases e
    obtain ⟨v, rfl, r⟩ := Paired.one_inv rs
    obtain ⟨a, vx, rfl, ha, ra⟩ := r.tup_inv
    refine call_len_seq pins s σ H _ us Q I rv ⟨a, vx, rfl, .inr (SqT.of ha), ?_⟩
    rw [ra.len]
    exact q _ H (Same.refl H) (.int _)
  · cases e
    obtain ⟨v, rfl, r⟩ := Paired.one_inv rs
    obtain ⟨a, vx, rfl, ha, ra⟩ := r.lst_inv
    refine call_len_seq pins s σ H _ us Q I rv ⟨a, vx, rfl, .inl (SqL.of ha), ?_⟩
    rw [ra.len]
    exact q _ H (Same.refl H) (.int _)
  · cases e
    obtain ⟨v, rfl, r⟩ := Paired.one_inv rs
    obtain ⟨a, vx, rfl, ha, ra⟩ := r.gtup_inv
    refine call_len_seq pins s σ H _ us Q I rv ⟨a, vx, rfl, .inr ha, ?_⟩
    rw [ra.len]
    exact q _ H (Same.refl H) (.int _)
  · cases e
    obtain ⟨v, rfl, r⟩ := Paired.one_inv rs
    obtain ⟨a, rfl, ha⟩ := r.scr_inv
    refine call_len_seq pins s σ H _ us Q I rv ⟨a, _, rfl, .inl ha, ?_⟩
    rw [List.length_map]
    exact q _ H (Same.refl H) (.int _)
  · split at e
    · next c =>
      cases e
      obtain ⟨v, rfl, r⟩ := Paired.one_inv rs
      have e1 := r.str_inv
      subst e1
      exact call_len_str pins s σ H _ us Q I rv ⟨_, rfl, c, q _ H (Same.refl H) (.int _)⟩
    · cases e
  · cases e
def dTuple : List D → Option D
  | [.lst ds] => some (.tup ds)
  | [.tup ds] => some (.tup ds)
  | _ => none
theorem call_tupleP : CallR X (.type "tuple") (rDC X.K dTuple) := by
  intro pins s σ H xs us Q I rv h
  obtain ⟨S, ds, d, sd, rs, e, q⟩ := h
  unfold dTuple at e
  split at e
  · cases e
    obtain ⟨v, rfl, r⟩ := Paired.one_inv rs
    obtain ⟨a, vx, rfl, ha, ra⟩ := r.lst_inv
    exact call_tuple_of pins s σ H _ us Q I rv ⟨a, vx, rfl, .inl ⟨SqL.of ha, fun l nl => q _ _ (same_new nl) (new_tup sd nl ra)⟩⟩
  · cases e
    obtain ⟨v, rfl, r⟩ := Paired.one_inv rs
    obtain ⟨a, vx, rfl, ha, ra⟩ := r.tup_inv
    exact call_tuple_of pins s σ H _ us Q I rv ⟨a, vx, rfl, .inr ⟨SqT.of ha, q _ H (Same.refl H) r.tup_rp⟩⟩
  · cases e
def dList : List D → Option D
  | [.lst ds] => some (.lst ds)
  | [.tup ds] => some (.lst ds)
  | _ => none
theorem call_listP : CallR X (.type "list") (rDC X.K dList) := by
  intro pins s σ H xs us Q I rv h
  obtain ⟨S, ds, d, sd, rs, e, q⟩ := h
  unfold dList at e
  split at e
  · cases e
    obtain ⟨v, rfl, r⟩ := Paired.one_inv rs
    obtain ⟨a, vx, rfl, ha, ra⟩ := r.lst_inv
    exact call_list_of pins s σ H _ us Q I rv ⟨a, vx, rfl, .inl (SqL.of ha), fun l nl => q _ _ (same_new nl) (new_lst sd nl ra)⟩
  · cases e
    obtain ⟨v, rfl, r⟩ := Paired.one_inv rs
    obtain ⟨a, vx, rfl, ha, ra⟩ := r.tup_inv
    exact call_list_of pins s σ H _ us Q I rv ⟨a, vx, rfl, .inr (SqT.of ha), fun l nl => q _ _ (same_new nl) (new_lst sd nl ra)⟩
  · cases e
def blsOf : List D → Option (List Bool)
  | [] => some []
  | .bl i :: r => (blsOf r).map (i :: ·)
  | _ :: _ => none
theorem RpL.bls {K : PySem.W.Frag} {H : Hp} : ∀ {ds : List D} {vs : List V} {is : List Bool}, RpL K H vs ds → blsOf ds = some is → vs = is.map V.bl
  | [], _, _, .nil, e => by
    cases e
    rfl
  | .bl i :: r, _, _, .cons h t, e => by
    cases h
    cases er : blsOf r with
    | none =>
      simp only [blsOf, er, Option.map_none] at e
      cases e
    | some js =>
      simp only [blsOf, er, Option.map_some, Option.some.injEq] at e
      subst e
      rw [RpL.bls t er]
      rfl
  | .non :: _, _, _, _, e => by cases e
  | .int _ :: _, _, _, _, e => by cases e
  | .str _ :: _, _, _, _, e => by cases e
  | .tup _ :: _, _, _, _, e => by cases e
  | .lst _ :: _, _, _, _, e => by cases e
  | .dic _ :: _, _, _, _, e => by cases e
  | .obj _ _ :: _, _, _, _, e => by cases e
  | .scr _ :: _, _, _, _, e => by cases e
  | .gtup _ :: _, _, _, _, e => by cases e
  | .opq _ :: _, _, _, _, e => by cases e
def dAll : List D → Option D
  | [.lst ds] => (blsOf ds).map fun bs => .bl (bs.all id)
  | _ => none
def dAny : List D → Option D
  | [.lst ds] => (blsOf ds).map fun bs => .bl (bs.any id)
  | _ => none
theorem call_allP (hc : X.calm = true) : CallR X (.builtin "all") (rDC X.K dAll) := by
  intro pins s σ H xs us Q I rv h
  obtain ⟨S, ds, d, sd, rs, e, q⟩ := h
  unfold dAll at e
  split at e
  · next es =>
    cases eb : blsOf es with
    | none =>
      rw [eb] at e
      cases e
    | some bs =>
      rw [eb] at e
      cases e
      obtain ⟨v, rfl, r⟩ := Paired.one_inv rs
      obtain ⟨a, vx, rfl, ha, ra⟩ := r.lst_inv
      have := ra.bls eb
      subst this
      exact cr_all hc pins s σ H _ us Q I rv ⟨a, bs, rfl, SqL.of ha, q _ H (Same.refl H) (.bl _)⟩
  · cases e
theorem call_anyP (hc : X.calm = true) : CallR X (.builtin "any") (rDC X.K dAny) := by
  intro pins s σ H xs us Q I rv h
  obtain ⟨S, ds, d, sd, rs, e, q⟩ := h
  unfold dAny at e
  split at e
  · next es =>
    cases eb : blsOf es with
    | none =>
      rw [eb] at e
      cases e
    | some bs =>
      rw [eb] at e
      cases e
      obtain ⟨v, rfl, r⟩ := Paired.one_inv rs
      obtain ⟨a, vx, rfl, ha, ra⟩ := r.lst_inv
      have := ra.bls eb
      subst this
      exact cr_any hc pins s σ H _ us Q I rv ⟨a, bs, rfl, SqL.of ha, q _ H (Same.refl H) (.bl _)⟩
  · cases e
/-! ### min, max -/
def maxL : List Int → Option Int
  | [] => none
  | n :: ns => some (ns.foldl (fun a b => if a < b then b else a) n)
def minL : List Int → Option Int
  | [] => none
  | n :: ns => some (ns.foldl (fun a b => if b < a then b else a) n)
theorem maxL_ok : ∀ (ns : List Int) (n m : Int), ns.foldl (fun a b => if a < b then b else a) n = m → (m = n ∨ m ∈ ns) ∧ n ≤ m ∧ ∀ y ∈ ns, y ≤ m
  | [], n, m, e => by
    cases e
    exact ⟨.inl rfl, Int.le_refl _, fun y h => by cases h⟩
  | a :: ns, n, m, e => by
    obtain ⟨h1, h2, h3⟩ := maxL_ok ns (if n < a then a else n) m e
    by_cases c : n < a
    · rw [if_pos c] at h1 h2
      refine ⟨?_, by omega, fun y hy => ?_⟩
      · rcases h1 with z | z
        · exact .inr (by rw [z]; exact List.mem_cons_self ..)
        · exact .inr (List.mem_cons_of_mem _ z)
      · rcases List.mem_cons.mp hy with z | z
        · omega
        · exact h3 y z
    · rw [if_neg c] at h1 h2
      refine ⟨?_, h2, fun y hy => ?_⟩
      · rcases h1 with z | z
        · exact .inl z
        · exact .inr (List.mem_cons_of_mem _ z)
      · rcases List.mem_cons.mp hy with z | z
        · omega
        · exact h3 y z
theorem minL_ok : ∀ (ns : List Int) (n m : Int), ns.foldl (fun a b => if b < a then b else a) n = m → (m = n ∨ m ∈ ns) ∧ m ≤ n ∧ ∀ y ∈ ns, m ≤ y
  | [], n, m, e => by
    cases e
    exact ⟨.inl rfl, Int.le_refl _, fun y h => by cases h⟩
  | a :: ns, n, m, e => by
    obtain ⟨h1, h2, h3⟩ := minL_ok ns (if a < n then a else n) m e
    by_cases c : a < n
    · rw [if_pos c] at h1 h2
      refine ⟨?_, by omega, fun y hy => ?_⟩
      · rcases h1 with z | z
        · exact .inr (by rw [z]; exact List.mem_cons_self ..)
        · exact .inr (List.mem_cons_of_mem _ z)
      · rcases List.mem_cons.mp hy with z | z
        · omega
        · exact h3 y z
    · rw [if_neg c] at h1 h2
      refine ⟨?_, h2, fun y hy => ?_⟩
      · rcases h1 with z | z
        · exact .inl z
        · exact .inr (List.mem_cons_of_mem _ z)
      · rcases List.mem_cons.mp hy with z | z
        · omega
        · exact h3 y z
def dMax : List D → Option D
  | [.int i, .int j] => some (.int (if j > i then j else i))
  | [.lst ds] => (intsOf ds).bind fun ns => (maxL ns).map .int
  | _ => none
def dMin : List D → Option D
  | [.int i, .int j] => some (.int (if j < i then j else i))
  | [.lst ds] => (intsOf ds).bind fun ns => (minL ns).map .int
  | _ => none
theorem call_maxP (hc : X.calm = true) : CallR X (.builtin "max") (rDC X.K dMax) := by
  intro pins s σ H xs us Q I rv h
  obtain ⟨S, ds, d, sd, rs, e, q⟩ := h
  unfold dMax at e
  split at e
  · cases e
    obtain ⟨v, v', rfl, r, r'⟩ := Paired.two_inv rs
    have e1 := r.int_inv
    have e2 := r'.int_inv
    subst e1 e2
    exact call_max2 hc pins s σ H _ us Q I rv ⟨_, _, rfl, q _ H (Same.refl H) (.int _)⟩
  · next es =>
    cases eb : intsOf es with
    | none =>
      rw [eb] at e
      cases e
    | some ns =>
      rw [eb] at e
      obtain ⟨v, rfl, r⟩ := Paired.one_inv rs
      obtain ⟨a, vx, rfl, ha, ra⟩ := r.lst_inv
      have := ra.ints eb
      subst this
      cases ns with
      | nil => cases e
      | cons n ns =>
        cases e
        obtain ⟨k1, k2, k3⟩ := maxL_ok ns n _ rfl
        refine cr_max hc pins s σ H _ us Q I rv ⟨a, n :: ns, rfl, SqL.of ha, Nat.succ_pos _, fun m hm hle => ?_⟩
        have : m = ns.foldl (fun a b => if a < b then b else a) n := by
          refine Int.le_antisymm ?_ (hle _ ?_)
          · rcases List.mem_cons.mp hm with z | z
            · rw [z]
              exact k2
            · exact k3 m z
          · rcases k1 with z | z
            · rw [z]
              exact List.mem_cons_self ..
            · exact List.mem_cons_of_mem _ z
        rw [this]
        exact q _ H (Same.refl H) (.int _)
  · cases e
theorem call_minP (hc : X.calm = true) : CallR X (.builtin "min") (rDC X.K dMin) := by
  intro pins s σ H xs us Q I rv h
  obtain ⟨S, ds, d, sd, rs, e, q⟩ := h
  unfold dMin at e
  split at e
  · cases e
    obtain ⟨v, v', rfl, r, r'⟩ := Paired.two_inv rs
    have e1 := r.int_inv
    have e2 := r'.int_inv
    subst e1 e2
    exact call_min2 hc pins s σ H _ us Q I rv ⟨_, _, rfl, q _ H (Same.refl H) (.int _)⟩
  · next es =>
    cases eb : intsOf es with
    | none =>
      rw [eb] at e
      cases e
    | some ns =>
      rw [eb] at e
      obtain ⟨v, rfl, r⟩ := Paired.one_inv rs
      obtain ⟨a, vx, rfl, ha, ra⟩ := r.lst_inv
      have := ra.ints eb
      subst this
      cases ns with
      | nil => cases e
      | cons n ns =>
        cases e
        obtain ⟨k1, k2, k3⟩ := minL_ok ns n _ rfl
        refine cr_min hc pins s σ H _ us Q I rv ⟨a, n :: ns, rfl, SqL.of ha, Nat.succ_pos _, fun m hm hle => ?_⟩
        have : m = ns.foldl (fun a b => if b < a then b else a) n := by
          refine Int.le_antisymm (hle _ ?_) ?_
          · rcases k1 with z | z
            · rw [z]
              exact List.mem_cons_self ..
            · exact List.mem_cons_of_mem _ z
          · rcases List.mem_cons.mp hm with z | z
            · rw [z]
              exact k2
            · exact k3 m z
        rw [this]
        exact q _ H (Same.refl H) (.int _)
  · cases e
/-! ### int, str, abs -/
def dInt : List D → Option D
  | [.int i] => some (.int i)
  | [.bl b] => some (.int (if b then 1 else 0))
  | _ => none
theorem call_intP : CallR X (.type "int") (rDC X.K dInt) := by
  intro pins s σ H xs us Q I rv h
  obtain ⟨S, ds, d, sd, rs, e, q⟩ := h
  unfold dInt at e
  split at e
  · cases e
    obtain ⟨v, rfl, r⟩ := Paired.one_inv rs
    have e1 := r.int_inv
    subst e1
    exact call_int1 pins s σ H _ us Q I rv (.inl ⟨_, rfl, q _ H (Same.refl H) (.int _)⟩)
  · cases e
    obtain ⟨v, rfl, r⟩ := Paired.one_inv rs
    have e1 := r.bl_inv
    subst e1
    exact call_int1 pins s σ H _ us Q I rv (.inr ⟨_, rfl, q _ H (Same.refl H) (.int _)⟩)
  · cases e
end
end DL

set_option Elab.async false
set_option linter.all false
set_option maxRecDepth 100000
set_option maxHeartbeats 1000000
/-! DL7: isinstance; a def by its name. -/
namespace DL
open PySem PySem.Spec PyProof.Rows L2

def tyN : D → Option String
  | .non => some "NoneType"
  | .bl _ => some "bool"
  | .int _ => some "int"
  | .str _ => some "str"
  | .tup _ => some "tuple"
  | .lst _ => some "list"
  | .dic _ => some "dict"
  | _ => none
def dIsi (T : String) (d : D) : Option D := (tyN d).bind fun t => (kitB t T).map .bl
theorem tyN_of {K : PySem.W.Frag} {S : List Addr} {H : Hp} {v : V} {d : D} {t : String} (h : RpB K S H v d) (e : tyN d = some t) : TyX K H v (.type t) := by
  cases d with
  | non =>
    cases e
    have := h.non_inv
    subst this
    exact .base .non
  | bl b =>
    cases e
    have := h.bl_inv
    subst this
    exact .base (.bl b)
  | int b =>
    cases e
    have := h.int_inv
    subst this
    exact .base (.int b)
  | str b =>
    cases e
    have := h.str_inv
    subst this
    exact .base (.str b)
  | tup b =>
    cases e
    obtain ⟨a, xs, rfl, h1, _⟩ := h.tup_inv
    exact .base (.tup h1)
  | lst b =>
    cases e
    obtain ⟨a, xs, rfl, h1, _⟩ := h.lst_inv
    exact .base (.lst h1)
  | dic b =>
    cases e
    obtain ⟨a, xs, rfl, h1, _⟩ := h.dic_inv
    exact .base (.dT h1)
  | _ => cases e
section
variable {X : Cx} {F : Fm} {pos : Pos}
theorem dp_isi {x : Str} {T : String} {p p2 : Pos} {e : Expr} {s : Rho → Res D} (hi : X.mg "isinstance" = none) (hm : X.mg x = none) (he : DB X F e s) (hT : bootBuiltins x = some (.type T) := by decide +kernel) (hg : Gl X "isinstance" := by rfl) (hg2 : Gl X x := by rfl)
    (hn : x ≠ "__name__" := by decide) (hd : (x == ("__debug__" : Str)) = false := by decide) (hv : bootBuiltins "isinstance" = some (.builtin "isinstance") := by decide +kernel) (hn1 : ("isinstance" : Str) ≠ "__name__" := by decide) (hd1 : (("isinstance" : Str) == ("__debug__" : Str)) = false := by decide)
    (hs2 : starEach [.Name x p2] X.env = (false, eval (.Name x p2) X.env) :: starEach [] X.env := by rfl)
    (hs : starEach [e, .Name x p2] X.env = (false, eval e X.env) :: starEach [.Name x p2] X.env := by rfl) (hpl : (backTo pos (starEach [.Name x p2] X.env)).any (·.1) = false := by rfl) :
    DP X F (.Call (.Name "isinstance" p) [e, .Name x p2] [] pos) (e1 (dIsi T) s) :=
  PE.imp (pe_callB call_isi hg hi hv (pa_cons he (pa_cons (pe_bltn (v := .ty T) hg2 hm hT rfl hn hd) pa_nil hs2) hs) hn1 hd1 hs hpl) fun σ H Q ⟨S, ρ, ok, q⟩ => by
    refine ⟨S, ρ, ok, post_bind q fun d ed h1 => fun v H1 g r => ?_⟩
    cases et : tyN d with
    | none =>
      unfold dIsi at h1
      rw [et] at h1
      exact h1.elim
    | some t =>
      cases ek : kitB t T with
      | none =>
        unfold dIsi at h1
        rw [et] at h1
        simp only [Option.bind_some, ek] at h1
        exact h1.elim
      | some b =>
        unfold dIsi at h1
        rw [et] at h1
        simp only [Option.bind_some, ek] at h1
        exact ⟨v, .ty T, .type t, .type T, b, rfl, .ty T, tyN_of r et, kit_ty ek, h1 _ H1 g (.bl b)⟩
end
/-! ### a def by its name -/
def FD (T : Tb) (P : Program) (w : World) (K : PySem.W.Frag) (mg : Str → Option Value) (base : Heap) (k : Nat) (x : Str) (ps : List Str) (m : List D → Res D) : Prop :=
  ∃ fd, FnOk P w K mg base (L2.CX P w) k (He.ga K x) fd ps (spD K T m) ∧ Binds K fd ps [] ∧ mg x = some (.ref (He.ga K x)) ∧ PySem.W.keepIn K (.ref (He.ga K x)) = true
/-- the def as the text has it -/
structure FT (K : PySem.W.Frag) (mg : Str → Option Value) (x : Str) (st : Stmt) (ps : List Str) : Prop where
  ex : ∃ fd, FunD K x x (defArgs st) (defBody st) (defScope st) [] [] (He.ga K x) fd ∧ Binds K fd ps []
  g : mg x = some (.ref (He.ga K x))
theorem FD.mono {T : Tb} {P : Program} {w : World} {K : PySem.W.Frag} {mg : Str → Option Value} {base : Heap} {j k : Nat} {x : Str} {ps : List Str} {m : List D → Res D} (h : FD T P w K mg base j x ps m) (l : j ≤ k) : FD T P w K mg base k x ps m := by
  obtain ⟨fd, h1, h2⟩ := h
  exact ⟨fd, h1.mono l, h2⟩
theorem fd_of {Tb0 : Tb} {P : Program} {w : World} {K : PySem.W.Frag} {mg : Str → Option Value} {base : Heap} {x : Str} {st : Stmt} {N ps : List Str} {k n : Nat} {s : Rho → SR} (T : FT K mg x st ps) (Sc : FnScope N ps (defScope st)) (hn : n = ps.length)
    (hb : ∀ (A : Around) (outer : List Env) (s0 : Shared) (H : Hp) (E : XK) (S : List Addr), LamX.Tabs Tb0 H → Room k (A.deeper (envOfC x (defScope st) s0.heap.objs.size (He.ga K x) (.ref (cdA K (He.ga K x))))) →
      DSs (cxOf (L2.CX P w) P w K mg base N x (defScope st) (He.ga K x) (.ref (cdA K (He.ga K x))) A outer s0 H E) (fm0 Tb0 S H E) (defBody st) s) :
    FD Tb0 P w K mg base (k + 1) x ps (runB n N.length s) := by
  obtain ⟨fd, h1, h2⟩ := T.ex
  exact ⟨fd, fn_data h1 Sc hn hb, h2, T.g, h1.kp⟩
theorem dp_fn {T : Tb} {X : Cx} {F : Fm} {pos : Pos} {m : List D → Res D} {x : Str} {k : Nat} {ps : List Str} {p : Pos} {e : Expr} {es : List Expr} {ss : Rho → Res (List D)} (hF : Fits T F) (h : FD T X.prog X.w X.K X.mg X.base k x ps m) (hr : Room k X.A)
    (hx : Passes (L2.CX X.prog X.w) X F.E) (ha : DA X F (e :: es) ss) (hg : Gl X x := by rfl) (hdb : (x == ("__debug__" : Str)) = false := by decide)
    (he : starEach (e :: es) X.env = (false, eval e X.env) :: starEach es X.env := by rfl) (hpl : (backTo pos (starEach es X.env)).any (·.1) = false := by rfl) : DP X F (.Call (.Name x p) (e :: es) [] pos) (eFn m ss) := by
  obtain ⟨fd, h1, h2, h3, h4⟩ := h
  exact dp_call hF h1 hr h3 h4 h2 hx ha hg hdb he hpl
theorem hu100 {A : Around} {k : Nat} (hr : Room k A) : A.units + 100 < cLine := by
  have := hr.un
  omega
end DL

set_option Elab.async false
set_option linter.all false
set_option maxRecDepth 100000
set_option maxHeartbeats 1000000
/-! DL8: what the head tells; the end of a law. -/
namespace DL
open PySem PySem.Spec PyProof.Rows L2

/-! ### data that the top has written -/
def repL (f : Value → D → Bool) : List Value → List D → Bool
  | [], [] => true
  | u :: us, d :: ds => f u d && repL f us ds
  | _, _ => false
def repB (K : PySem.W.Frag) : Nat → Value → D → Bool
  | _, .int j _, .int i => decide (j = i)
  | _, .str y _, .str x => decide (y = x)
  | _, .bool c, .bl b => c == b
  | n + 1, .ref a, .gtup ds => match K.lookup a with
    | some ⟨.type c, _, .seq its _, _⟩ => decide (c = "tuple") && (decide (its.size ≤ sizeLine) && repL (repB K n) its.toList ds)
    | _ => false
  | _, _, _ => false
theorem repL_ok {K : PySem.W.Frag} {f : Value → D → Bool} (ih : ∀ u d, f u d = true → ∃ v, RelV v u ∧ ∀ H, Rp K H v d) : ∀ {us : List Value} {ds : List D}, repL f us ds = true → ∃ vs, Vals vs us ∧ ∀ H, RpL K H vs ds
  | [], [], _ => ⟨[], .nil, fun _ => .nil⟩
  | [], _ :: _, h => by cases h
  | _ :: _, [], h => by cases h
  | u :: us, d :: ds, h => by
    obtain ⟨h1, h2⟩ := Bool.and_eq_true_iff.mp h
    obtain ⟨v, r1, r2⟩ := ih u d h1
    obtain ⟨vs, q1, q2⟩ := repL_ok ih h2
    exact ⟨v :: vs, .cons r1 q1, fun H => .cons (r2 H) (q2 H)⟩
theorem repB_ok {K : PySem.W.Frag} : ∀ (n : Nat) (u : Value) (d : D), repB K n u d = true → ∃ v, RelV v u ∧ ∀ H, Rp K H v d := by
  intro n
  induction n with
  | zero =>
    intro u d h
    unfold repB at h
    split at h
    · next j _ i => exact ⟨.int i, ⟨_, by rw [of_decide_eq_true h]⟩, fun H => .int i⟩
    · next j _ i => exact ⟨.str i, ⟨_, by rw [of_decide_eq_true h]⟩, fun H => .str i⟩
    · next c b =>
      have : c = b := by simpa using h
      subst this
      exact ⟨.bl c, rfl, fun H => .bl c⟩
    · next hh => exact absurd hh (by omega)
    · cases h
  | succ n ih =>
    intro u d h
    unfold repB at h
    split at h
    · next j _ i => exact ⟨.int i, ⟨_, by rw [of_decide_eq_true h]⟩, fun H => .int i⟩
    · next j _ i => exact ⟨.str i, ⟨_, by rw [of_decide_eq_true h]⟩, fun H => .str i⟩
    · next c b =>
      have : c = b := by simpa using h
      subst this
      exact ⟨.bl c, rfl, fun H => .bl c⟩
    · next n' a ds e =>
      cases e
      split at h
      · next c dd its m sl el =>
        obtain ⟨h1, h2⟩ := Bool.and_eq_true_iff.mp h
        obtain ⟨h3, h4⟩ := Bool.and_eq_true_iff.mp h2
        obtain ⟨vs, q1, q2⟩ := repL_ok ih h4
        have hc := of_decide_eq_true h1
        subst hc
        exact ⟨.ref a, rfl, fun H => .gtup (.inr ⟨_, its, m, el, rfl, rfl, of_decide_eq_true h3, q1⟩) (q2 H)⟩
      · cases h
    · cases h
def globB (K : PySem.W.Frag) (x : Str) (d : D) : Bool := match PySem.W.nsIn K mainGlobals x with
  | some (some u) => repB K 5 u d
  | _ => false
theorem glob_of {K : PySem.W.Frag} {h : Heap} {mg : Str → Option Value} {x : Str} {d : D} (X : K.In h) (G : h.Ns mainGlobals mg) (e : globB K x d = true) : GlobD K mg x d := by
  unfold globB at e
  split at e
  · next u en =>
    obtain ⟨v, r, q⟩ := repB_ok 5 u d e
    exact ⟨u, v, PySem.W.mg_of X G en, r, q⟩
  · cases e
theorem exc_of {K : PySem.W.Frag} {h : Heap} {mg : Str → Option Value} {x : Str} (X : K.In h) (G : h.Ns mainGlobals mg) (g : (He.Fa.glo x).ok K = true) (e : (He.Fa.exc x).ok K = true) : ExcT K mg x := by
  obtain ⟨h1, h2, h3, h4⟩ := He.exc_ok e
  exact ⟨h1, h2, h3, h4, He.glo_ok X G g⟩
theorem ft_of {K : PySem.W.Frag} {h : Heap} {mg : Str → Option Value} {x : Str} {st : Stmt} {ps : List Str} (X : K.In h) (G : h.Ns mainGlobals mg) (g : (He.Fa.glo x).ok K = true)
    (F : ∃ fd, FunD K x x (defArgs st) (defBody st) (defScope st) [] [] (He.ga K x) fd)
    (hb : ∀ (kV doc pm : Value) (an : Option Addr) (cdv ct : Value) (us : List Value), us.length = ps.length → bindArgs (PySem.W.fnOf x x (defArgs st) (defBody st) (defScope st) .none kV doc pm an cdv ct) ⟨us, []⟩ = pure (ps.zip us)) : FT K mg x st ps := by
  obtain ⟨fd, F⟩ := F
  exact ⟨⟨fd, F, F.bindsN hb⟩, He.glo_ok X G g⟩
/-- no exception leaves: by the promise -/
theorem fn_calm {P : Program} {w : World} {K : PySem.W.Frag} {mg : Str → Option Value} {base : Heap} {k : Nat} {f : Addr} {fd : FuncData} {ps : List Str} {sp : Sp} (F : FnOk P w K mg base (L2.CX P w) k f fd ps sp) :
    FnOk P w K mg base CX0 k f fd ps (fun vs H Q _ => sp vs H Q (fun _ _ _ => False)) := by
  refine ⟨fun vs H Q E h => F.len vs H Q _ h, fun A outer s H args us vs Q E hr e0 hb hv h => ?_⟩
  refine codeAny_mono (F.run A outer s H args us vs Q (fun _ _ _ => False) hr e0 hb hv h) fun r s' z => ?_
  cases r with
  | ok fl =>
    cases fl with
    | ret u => exact z
    | _ => exact z
  | error e =>
    obtain ⟨_, _, _, _, _, _, _, _, _, _, _, _, q⟩ := z
    exact q.elim
theorem hide_nil {H : Hp} : hide H [] = H := by
  funext b
  unfold hide
  rw [if_neg (by intro z; cases z)]
/-- the law's promise from its mirror's answer -/
theorem law_sp {K : PySem.W.Frag} {T : Tb} {m : List D → Res D} {H : Hp} {a : Addr} {ns : List Int} (hT : LamX.Tabs T H) (hS : SqL K H a (ns.map V.int)) (e : m [.scr ns] = .ok (.bl true)) :
    spD K T m [.ref a] H (fun v _ => v = .bl true) (fun _ _ _ => False) := by
  refine ⟨hT, [.scr ns], [], fun a h => (by cases h), .cons (.scr ?_) .nil, ?_⟩
  · rw [hide_nil]
    exact hS
  · rw [e]
    exact fun v H' _ r => r.bl_inv
end DL

set_option Elab.async false
set_option linter.all false
set_option maxRecDepth 100000
set_option maxHeartbeats 1000000
/-! DL9: enumerate of tuples, texts, lists; zip. -/
namespace DL
open PySem PySem.Spec PyProof.Rows L2

/-! ### enumerate(tuple), at the library's level -/
set_option maxHeartbeats 4000000 in
theorem meets_enum_tup (l : Addr) (items : Array Value) (n : Nat) (dct : Option Addr) (sl : Array (Option Value)) :
    Meets (Builtin.«enumerate.__new__» ⟨[.type "enumerate", .ref l], []⟩) (fun _ R s => s.heap.get? l = some { cls := .type "tuple", dict := dct, data := .seq items n, slots := sl } ∧
      R (.ok (.ret (.ref (s.heap.push { cls := .type "tuple_iterator", data := .fields #[.ref l, .int 0 0] }).objs.size)))
        { s with heap := (s.heap.push { cls := .type "tuple_iterator", data := .fields #[.ref l, .int 0 0] }).push { cls := .type "enumerate", data := .fields #[.none, .bool false, .ref s.heap.objs.size, rawInt 0, .none, .none] } }) :=
  .of_wp fun prog w A R s h => by
    obtain ⟨hp, g, d, tk, os⟩ := s
    obtain ⟨hl, h⟩ := h
    have hsub := sub_enumerate
    have hL : Heap.IsTuple (Shared.heap ⟨hp, g, d, tk, os⟩) l items := ⟨_, hl, rfl, n, rfl⟩
    wp_walk using PySem.AutoSeq1.wpAny_loadPart' hl
    refine wpAny_stack_any fun st => wpAny_pure ?_
    split
    · rename_i c _ _ _ _ _
      cases (c == Value.type "enumerate")
      · wp_walk using PySem.AutoSeq1.wpAny_loadPart' hl, wpAny_pyIter_tuple hL
        exact ⟨_, rfl, h⟩
      · wp_walk using PySem.AutoSeq1.wpAny_loadPart' hl, wpAny_pyIter_tuple hL
        exact ⟨_, rfl, h⟩
    · wp_walk using PySem.AutoSeq1.wpAny_loadPart' hl, wpAny_pyIter_tuple hL
      exact ⟨_, rfl, h⟩
section
variable {prog : Program} {w : World} {A : Around} {E : Value → Shared → Prop} {s : Shared}
theorem call_enum_tup {l : Addr} {items : Array Value} {Q : Value → Shared → Prop} (hL : s.heap.IsTuple l items)
    (h : ∀ h', IsEnum h' (s.heap.objs.size + 1) s.heap.objs.size 0 .none → h'.IsTupleIter s.heap.objs.size l 0 → h'.objs.size = s.heap.objs.size + 2 →
      (∀ b o, s.heap.get? b = some o → h'.get? b = some o) → Q (.ref (s.heap.objs.size + 1)) { s with heap := h' }) :
    wpAny (model prog w) A (call (.type "enumerate") [.ref l]) Q E s := by
  obtain ⟨⟨c, dct, dt, sl⟩, hl, hc, n, hd⟩ := hL
  replace hc : c = .type "tuple" := hc
  replace hd : dt = .seq items n := hd
  subst hc hd
  refine callType_new F.called_enumerate (by decide) (F.typeCall_enumerate_1 _) (F.newCall_enumerate_1 _) (fun obj => F.args_object_init_2 obj _) F.entry_enumerate_new
    (meets_enum_tup l items n dct sl) ⟨hl, ?_⟩
  have hz : (s.heap.push { cls := .type "tuple_iterator", data := .fields #[.ref l, .int 0 0] }).objs.size = s.heap.objs.size + 1 := Heap.size_push ..
  show _ ∧ _
  rw [hz]
  have he : IsEnum ((s.heap.push { cls := .type "tuple_iterator", data := .fields #[.ref l, .int 0 0] }).push
      { cls := .type "enumerate", data := .fields #[.none, .bool false, .ref s.heap.objs.size, rawInt 0, .none, .none] }) (s.heap.objs.size + 1) s.heap.objs.size 0 .none := by
    have := Heap.get?_push_size (s.heap.push { cls := .type "tuple_iterator", data := .fields #[.ref l, .int 0 0] })
      (o := { cls := .type "enumerate", data := .fields #[.none, .bool false, .ref s.heap.objs.size, rawInt 0, .none, .none] }) rfl
    rw [hz] at this
    exact this
  refine ⟨⟨_, he, rfl⟩, h _ he ⟨_, Heap.get?_push_of_some _ (Heap.get?_push_size _ rfl), rfl, rfl⟩ (by rw [Heap.size_push, hz]) fun b o x => Heap.get?_push_of_some _ (Heap.get?_push_of_some _ x)⟩
end
/-- the turns: pairs of the place and the item, of a tuple -/
def IteT (K : PySem.W.Frag) (a : Addr) : It :=
  ⟨fun i H => ∃ (xs : List V) (x : V), SqT K H a xs ∧ xs[i]? = some x, fun i H v H' => ∃ T x, v = .ref T ∧ H T = none ∧ H' = upd H T (.tup [.int (i : Nat), x]) ∧ ∀ xs, SqT K H a xs → xs[i]? = some x, fun i H => ∃ xs : List V, SqT K H a xs ∧ xs.length = i⟩
def IteS (z : Str) : It :=
  ⟨fun i _ => i < z.cps.size, fun i H v H' => ∃ T c, v = .ref T ∧ H T = none ∧ H' = upd H T (.tup [.int (i : Nat), .str ⟨#[c]⟩]) ∧ z.cps[i]? = some c, fun i _ => i = z.cps.size⟩
theorem turn_enumT {P : Program} {w : World} {K : PySem.W.Frag} {elts : List Expr} {kk : Nat} {tpos : Pos} (a e it : Addr) (hai : a ≠ it) (hae : a ≠ e) :
    Turn P w K (.Tuple elts kk tpos) (IteT K a) [e, it] e (fun i h => (∃ old, IsEnum h e it ((i : Nat) : Int) old) ∧ h.IsTupleIter it a i ∧ e ≠ it) where
  mem := by simp
  obj := fun i h st b hb => by
    obtain ⟨⟨old, he⟩, ⟨o, ho, hc, hd⟩, _⟩ := st
    have e' : b = e ∨ b = it := by simpa using hb
    rcases e' with z | z
    · rw [z]
      exact ⟨_, he, fun v q => nomatch q⟩
    · rw [z]
      exact ⟨o, ho, fun v q => by rw [hd] at q; cases q⟩
  keep := fun i h h' st k => let ⟨⟨old, he⟩, hi, hne⟩ := st; ⟨⟨old, k e (by simp) _ he⟩, hi.at fun o q => k it (by simp) o q, hne⟩
  item := by
    intro X hP hw hK hc i pins s σ H E I hf st hg
    subst hP hw hK
    obtain ⟨⟨old, he⟩, hit, hne⟩ := st
    obtain ⟨xs, x, hq, hx⟩ := hg
    obtain ⟨its, rv, p, hz⟩ := I.tuple hq
    have p' : s.heap.IsTuple a its.toArray := p
    obtain ⟨u, hu, ru⟩ := rv.get hx
    have hlt : i < its.length := (List.getElem?_eq_some_iff.mp hu).1
    have hel : e < s.heap.objs.size := Heap.lt_size he
    have hil : it < s.heap.objs.size := by
      obtain ⟨_, q, _⟩ := hit
      exact Heap.lt_size q
    refine wpAny_pyNext_enum_itemD (Draws.tuple (A := X.A.in1) (I.ok.hd hc) it a hai its.toArray) he ⟨hit, p'⟩ (by simpa using hlt) hne (by simp [hne, Ne.symm hae]) fun x' h' tk hP ho hst hT hsz hk => ?_
    have ex : x' = u := by
      have : its[i]? = some x' := by simpa using hP
      rw [hu] at this
      exact (Option.some.inj this).symm
    subst ex
    refine ⟨_, rfl, wpAny_letOwnedTupleGo_enum (s := { s with heap := h', toks := tk + 1 }) ho fun h'' he' sb => ?_⟩
    have hT2 : h''.get? s.heap.objs.size = some { cls := .type "tuple", data := .seq #[.int i tk, x'] } := (sb.2 _ (Nat.ne_of_gt hel)).trans hT
    have new : ObjOk X.prog X.w (upd H s.heap.objs.size (.tup [.int (i : Nat), x])) h'' s.heap.objs.size (.tup [.int (i : Nat), x]) :=
      ⟨by show 2 ≤ sizeLine; decide, [.int i tk, x'], .cons ⟨_, rfl⟩ (.cons ru .nil), ⟨_, hT2, rfl, _, rfl⟩⟩
    have I1 : Inv X pins σ (upd H s.heap.objs.size (.tup [.int (i : Nat), x])) { s with heap := h'', toks := tk + 1 } :=
      I.turnedNew (ch := [e, it]) (fun b ob hb q => (sb.2 b (fun z => hb (by simp [z]))).trans (hk b ob (fun z => hb (by simp [z])) (fun z => hb (by simp [z])) q)) hf (Nat.le_refl _) new
    refine ⟨.ref s.heap.objs.size, _, I1, rfl, ⟨_, x, rfl, I.hok.fresh (Nat.le_refl _), rfl, fun ys hy => by rw [I.tuple_inj hy hq]; exact hx⟩, ⟨⟨x', ?_⟩, hst.1.at fun o q => (sb.2 it (Ne.symm hne)).trans q, hne⟩, fun b hb => ?_⟩
    · have e1 : ((i + 1 : Nat) : Int) = (i : Int) + 1 := by omega
      rw [e1]
      exact he'
    · have hb' : b < s.heap.objs.size := by
        have e' : b = e ∨ b = it := by simpa using hb
        rcases e' with z | z
        · rw [z]; exact hel
        · rw [z]; exact hil
      rw [upd_ne (Nat.ne_of_lt hb')]
      exact (hf b hb).1
  done := by
    intro X hP hw hK hc i pins s σ H E I hf st hg
    subst hP hw hK
    obtain ⟨⟨old, he⟩, hit, hne⟩ := st
    obtain ⟨xs, hq, hx⟩ := hg
    obtain ⟨its, rv, p, hz⟩ := I.tuple hq
    have p' : s.heap.IsTuple a its.toArray := p
    obtain ⟨f0, f1, f2, f3, f4, f5⟩ := hf it (by simp)
    have hl := rv.length
    refine wpAny_pyNext_enum_endD (Draws.tuple (A := X.A.in1) (I.ok.hd hc) it a hai its.toArray) he ?_ fun h' eb => ⟨rfl, I.turned (t' := s.toks) (fun b o hb q => eb b o hb q) f0 f1 f3 f4 f5⟩
    have : its.toArray.size = i := by
      simp
      omega
    rw [this]
    exact ⟨hit, p'⟩
  self := fun A i s Q E st h => let ⟨⟨_, he⟩, _⟩ := st; wpAny_pyIter_enum he h
theorem turn_enumS {P : Program} {w : World} {K : PySem.W.Frag} {elts : List Expr} {kk : Nat} {tpos : Pos} (z : Str) (t : Tok) (e it : Addr) :
    Turn P w K (.Tuple elts kk tpos) (IteS z) [e, it] e (fun i h => (∃ old, IsEnum h e it ((i : Nat) : Int) old) ∧ h.IsStrIter it (strIterType z) z t i ∧ e ≠ it) where
  mem := by simp
  obj := fun i h st b hb => by
    obtain ⟨⟨old, he⟩, ⟨o, ho, hc, hd⟩, _⟩ := st
    have e' : b = e ∨ b = it := by simpa using hb
    rcases e' with z | z
    · rw [z]
      exact ⟨_, he, fun v q => nomatch q⟩
    · rw [z]
      exact ⟨o, ho, fun v q => by rw [hd] at q; cases q⟩
  keep := fun i h h' st k => let ⟨⟨old, he⟩, ⟨o, ho, hc, hd⟩, hne⟩ := st; ⟨⟨old, k e (by simp) _ he⟩, ⟨o, k it (by simp) o ho, hc, hd⟩, hne⟩
  item := by
    intro X hP hw hK hc i pins s σ H E I hf st hg
    subst hP hw hK
    obtain ⟨⟨old, he⟩, hit, hne⟩ := st
    have hlt : i < z.cps.size := hg
    have hel : e < s.heap.objs.size := Heap.lt_size he
    have hil : it < s.heap.objs.size := by
      obtain ⟨_, q, _⟩ := hit
      exact Heap.lt_size q
    refine wpAny_pyNext_enum_itemD (Draws.text (A := X.A.in1) (I.ok.hd hc) it z t) he hit hlt hne (by simp [hne]) fun x' h' tk hP ho hst hT hsz hk => ?_
    obtain ⟨c, u, hcz, rfl⟩ := hP
    refine ⟨_, rfl, wpAny_letOwnedTupleGo_enum (s := { s with heap := h', toks := tk + 1 }) ho fun h'' he' sb => ?_⟩
    have hT2 : h''.get? s.heap.objs.size = some { cls := .type "tuple", data := .seq #[.int i tk, .str ⟨#[c]⟩ u] } := (sb.2 _ (Nat.ne_of_gt hel)).trans hT
    have new : ObjOk X.prog X.w (upd H s.heap.objs.size (.tup [.int (i : Nat), .str ⟨#[c]⟩])) h'' s.heap.objs.size (.tup [.int (i : Nat), .str ⟨#[c]⟩]) :=
      ⟨by show 2 ≤ sizeLine; decide, [.int i tk, .str ⟨#[c]⟩ u], .cons ⟨_, rfl⟩ (.cons ⟨_, rfl⟩ .nil), ⟨_, hT2, rfl, _, rfl⟩⟩
    have I1 : Inv X pins σ (upd H s.heap.objs.size (.tup [.int (i : Nat), .str ⟨#[c]⟩])) { s with heap := h'', toks := tk + 1 } :=
      I.turnedNew (ch := [e, it]) (fun b ob hb q => (sb.2 b (fun z => hb (by simp [z]))).trans (hk b ob (fun z => hb (by simp [z])) (fun z => hb (by simp [z])) q)) hf (Nat.le_refl _) new
    refine ⟨.ref s.heap.objs.size, _, I1, rfl, ⟨_, c, rfl, I.hok.fresh (Nat.le_refl _), rfl, hcz⟩, ⟨⟨.str ⟨#[c]⟩ u, ?_⟩, ?_, hne⟩, fun b hb => ?_⟩
    · have e1 : ((i + 1 : Nat) : Int) = (i : Int) + 1 := by omega
      rw [e1]
      exact he'
    · obtain ⟨o, ho', hc', hd'⟩ := hst
      exact ⟨o, (sb.2 it (Ne.symm hne)).trans ho', hc', hd'⟩
    · have hb' : b < s.heap.objs.size := by
        have e' : b = e ∨ b = it := by simpa using hb
        rcases e' with z | z
        · rw [z]; exact hel
        · rw [z]; exact hil
      rw [upd_ne (Nat.ne_of_lt hb')]
      exact (hf b hb).1
  done := by
    intro X hP hw hK hc i pins s σ H E I hf st hg
    subst hP hw hK
    obtain ⟨⟨old, he⟩, hit, hne⟩ := st
    have hi : i = z.cps.size := hg
    subst hi
    obtain ⟨f0, f1, f2, f3, f4, f5⟩ := hf it (by simp)
    exact wpAny_pyNext_enum_endD (Draws.text (A := X.A.in1) (I.ok.hd hc) it z t) he hit fun h' eb => ⟨rfl, I.turned (t' := s.toks) (fun b o hb q => eb b o hb q) f0 f1 f3 f4 f5⟩
  self := fun A i s Q E st h => let ⟨⟨_, he⟩, _⟩ := st; wpAny_pyIter_enum he h
/-! ### by data -/
def enumD (ds : List D) : List D := ds.zipIdx.map fun p => .tup [.int (p.2 : Nat), p.1]
theorem enumD_len (ds : List D) : (enumD ds).length = ds.length := by simp [enumD]
theorem enumD_get {ds : List D} {i : Nat} {d : D} (h : ds[i]? = some d) : (enumD ds)[i]? = some (.tup [.int (i : Nat), d]) := by
  unfold enumD
  rw [List.getElem?_map, List.getElem?_zipIdx, h]
  simp
def enumO : List D → Option (List D)
  | [d] => (itemsOf d).map enumD
  | _ => none
section
variable {X : Cx} {F : Fm}
theorem rp_pair {K : PySem.W.Frag} {S' : List Addr} {H' : Hp} {T : Addr} {x y : V} {dx dy : D} (sd : Sd S' H') (nT : H' T = none) (r1 : Rp K (hide H' S') x dx) (r2 : Rp K (hide H' S') y dy) : Rp K (hide (upd H' T (.tup [x, y])) S') (.ref T) (.tup [dx, dy]) :=
  new_tup sd nT (.cons r1 (.cons r2 .nil))
theorem di_enum {e : Expr} {sa : Rho → Res (List D)} {p pos tpos : Pos} {elts : List Expr} {kk : Nat} (hm : X.mg "enumerate" = none) (ha : DA X F [e] sa) (hg : Gl X "enumerate" := by rfl) (hs : starEach [e] X.env = [(false, eval e X.env)] := by rfl) :
    DI X F (.Tuple elts kk tpos) (.Call (.Name "enumerate" p) [e] [] pos) (iRng enumO sa) := by
  refine ⟨fun pins s0 σ H R I h => ?_⟩
  obtain ⟨S, ρ, ok, q⟩ := h
  refine Call_ (ld_blt I hg hm boot_enumerate (PyProof.Rows.callWith_type1 (thn (ha.run pos pins s0 σ H (fun vs H1 => ∃ d ds v, F.G H H1 ∧ vs = [v] ∧ Rp X.K (hide H1 S) v d ∧ itemsOf d = some ds ∧ (kdI X.K F).post S H R (enumD ds)) I ⟨S, ρ, ok, post_bind q fun dd ed h1 => fun vs H1 g r => ?_⟩)
    fun us s1 ⟨vs, H1, I1, r1, d, ds, v, g, ev, rp, ei, q1⟩ => ?_) hs rfl))
  · cases r with
    | nil => exact h1.elim
    | @cons v vs d dr r rs =>
      cases rs with
      | nil =>
        cases ei : itemsOf d with
        | none =>
          have e : enumO [d] = none := by
            show (itemsOf d).map enumD = none
            rw [ei]
            rfl
          rw [e] at h1
          exact h1.elim
        | some ds =>
          have e : enumO [d] = some (enumD ds) := by
            show (itemsOf d).map enumD = _
            rw [ei]
            rfl
          rw [e] at h1
          exact ⟨d, ds, v, g, rfl, r, ei, h1⟩
      | cons _ _ => exact h1.elim
  · subst ev
    obtain ⟨u, rfl, ru⟩ := vals1 r1
    have fp2 : ∀ b ∈ [s1.heap.objs.size + 1, s1.heap.objs.size], FpOk X pins H1 b := fun b hb => by
      have e' : b = s1.heap.objs.size + 1 ∨ b = s1.heap.objs.size := by simpa using hb
      have hle : s1.heap.objs.size ≤ b := by
        rcases e' with z | z
        · rw [z]; exact Nat.le_add_right _ _
        · rw [z]; exact Nat.le_refl _
      exact I1.fpOk hle (I1.hok.fresh hle)
    have tupCase : ∀ (a : Addr) (xs : List V), v = .ref a → SqT X.K (hide H1 S) a xs → RpL X.K (hide H1 S) xs ds →
        wpAny (model X.prog X.w) X.A (call (.type "enumerate") [u]) (fun v s2 => wpAny (model X.prog X.w) X.A (pyIter v) (PIE X pins σ (.Tuple elts kk tpos) R) X.xe s2) X.xe s1 := fun a xs ev hq rs => by
      subst ev
      cases ru
      obtain ⟨its, rv, p', hz⟩ := I1.tuple (hide_ex.sqT hq)
      have pt : s1.heap.IsTuple a its.toArray := p'
      have hlt : a < s1.heap.objs.size := by
        obtain ⟨_, q, _⟩ := pt
        exact Heap.lt_size q
      refine call_enum_tup pt fun h' he hit hsz hk => wpAny_pyIter_enum he ?_
      have I2 : Inv X pins σ H1 { s1 with heap := h' } := I1.kept (t' := s1.toks) hk
      refine ⟨s1.heap.objs.size + 1, [s1.heap.objs.size + 1, s1.heap.objs.size], _, _, H1, rfl, I2, turn_enumT a (s1.heap.objs.size + 1) s1.heap.objs.size (Nat.ne_of_lt hlt) (Nat.ne_of_lt (Nat.lt_succ_of_lt hlt)), ⟨⟨.none, he⟩, hit, Nat.succ_ne_self _⟩, fp2, q1 _ H1 g (by rw [enumD_len, ← rs.len]; exact hz) ⟨?_, ?_, ?_⟩⟩
      · intro H' S' i x l
        rw [enumD_len] at l
        obtain ⟨v, h1, h2⟩ := rs.get (List.getElem?_eq_getElem l)
        exact ⟨xs, v, hide_ex.sqT (x.sqT hq), h1⟩
      · intro H' S' x
        exact ⟨xs, hide_ex.sqT (x.sqT hq), by rw [enumD_len, rs.len]⟩
      · intro H' S' i v H'' sd x y l
        obtain ⟨T, w', rfl, nT, rfl, f⟩ := y
        obtain ⟨d', h1, h2⟩ := rs.get' (f xs (hide_ex.sqT (x.sqT hq)))
        exact ⟨_, enumD_get h1, same_new nT, rp_pair sd nT (.int _) (h2.ex x)⟩
    cases rp with
    | @tup a xs _ h1 h2 =>
      cases ei
      exact tupCase a xs rfl (SqT.of h1) h2
    | @gtup a xs _ h1 h2 =>
      cases ei
      exact tupCase a xs rfl (sq_gtup h1) h2
    | @lst a xs _ h1 rs =>
      cases ei
      cases ru
      obtain ⟨its, rv, p', hz⟩ := I1.list (SqL.of (hide_in h1).2)
      refine call_enumerate_list p'.isList fun h' he hit hsz hk => wpAny_pyIter_enum he ?_
      have I2 : Inv X pins σ H1 { s1 with heap := h' } := I1.kept (t' := s1.toks) hk
      have hh : ∀ {H' : Hp} {S' : List Addr}, Ex (hide H1 S) (hide H' S') → SqL X.K H' a xs := fun x => SqL.of (hide_in (x _ _ h1 fun ps z => by cases z)).2
      refine ⟨s1.heap.objs.size + 1, [s1.heap.objs.size + 1, s1.heap.objs.size], _, _, H1, rfl, I2, turn_enum a (s1.heap.objs.size + 1) s1.heap.objs.size, ⟨⟨.none, he⟩, hit, Nat.succ_ne_self _⟩, fp2, q1 _ H1 g (by rw [enumD_len, ← rs.len]; exact hz) ⟨?_, ?_, ?_⟩⟩
      · intro H' S' i x l
        rw [enumD_len] at l
        obtain ⟨v, h1, h2⟩ := rs.get (List.getElem?_eq_getElem l)
        exact ⟨xs, v, hh x, h1⟩
      · intro H' S' x
        exact ⟨xs, hh x, by rw [enumD_len, rs.len]; exact Nat.le_refl _⟩
      · intro H' S' i v H'' sd x y l
        obtain ⟨T, w', rfl, nT, rfl, f⟩ := y
        obtain ⟨d', h1, h2⟩ := rs.get' (f xs (hh x))
        exact ⟨_, enumD_get h1, same_new nT, rp_pair sd nT (.int _) (h2.ex x)⟩
    | str z =>
      have ei' : (if z.cps.size ≤ sizeLine then some (z.cps.toList.map fun c => D.str ⟨#[c]⟩) else none) = some ds := ei
      by_cases hz : z.cps.size ≤ sizeLine
      · rw [if_pos hz] at ei'
        cases ei'
        obtain ⟨t, rfl⟩ := ru
        refine call_enumerate_str fun h' he hit hsz hk => wpAny_pyIter_enum he ?_
        have I2 : Inv X pins σ H1 { s1 with heap := h' } := I1.kept (t' := s1.toks) hk
        refine ⟨s1.heap.objs.size + 1, [s1.heap.objs.size + 1, s1.heap.objs.size], _, _, H1, rfl, I2, turn_enumS z t (s1.heap.objs.size + 1) s1.heap.objs.size, ⟨⟨.none, he⟩, hit, Nat.succ_ne_self _⟩, fp2, q1 _ H1 g (by rw [enumD_len]; simpa using hz) ⟨?_, ?_, ?_⟩⟩
        · intro H' S' i x l
          rw [enumD_len] at l
          show i < z.cps.size
          simpa using l
        · intro H' S' x
          show _ = z.cps.size
          rw [enumD_len]
          simp
        · intro H' S' i v H'' sd x y l
          obtain ⟨T, c, rfl, nT, rfl, f⟩ := y
          refine ⟨_, enumD_get (d := .str ⟨#[c]⟩) ?_, same_new nT, rp_pair sd nT (.int _) (.str _)⟩
          rw [List.getElem?_map, Array.getElem?_toList, f]
          rfl
      · rw [if_neg hz] at ei'
        cases ei'
    | _ => cases ei
/-! ### zip -/
def zipD (xs ys : List D) : List D := (xs.zip ys).map fun p => .tup [p.1, p.2]
theorem zipD_get {xs ys : List D} {i : Nat} {x y : D} (h1 : xs[i]? = some x) (h2 : ys[i]? = some y) : (zipD xs ys)[i]? = some (.tup [x, y]) := by
  unfold zipD
  have : (xs.zip ys)[i]? = some (x, y) := List.getElem?_zip_eq_some.mpr ⟨h1, h2⟩
  rw [List.getElem?_map, this]
  rfl
theorem zipD_len (xs ys : List D) : (zipD xs ys).length = min xs.length ys.length := by simp [zipD]
def zipO : List D → Option (List D)
  | [.tup xs, .tup ys] => if xs.length ≤ sizeLine then some (zipD xs ys) else none
  | [.lst xs, .lst ys] => if xs.length ≤ sizeLine then some (zipD xs ys) else none
  | _ => none
theorem di_zip {e e2 : Expr} {sa : Rho → Res (List D)} {p pos tpos : Pos} {elts : List Expr} {kk : Nat} (hm : X.mg "zip" = none) (ha : DA X F [e, e2] sa) (hg : Gl X "zip" := by rfl)
    (hs : starEach [e, e2] X.env = (false, eval e X.env) :: starEach [e2] X.env := by rfl) (hpl : (backTo pos (starEach [e2] X.env)).any (·.1) = false := by rfl) :
    DI X F (.Tuple elts kk tpos) (.Call (.Name "zip" p) [e, e2] [] pos) (iRng zipO sa) := PI.imp (RZ.pi_zipA hg hm ha hs hpl) fun σ H R ⟨S, ρ, ok, q⟩ => ⟨S, ρ, ok, post_bind q fun dd ed h1 => fun vs H1 g r => by
    cases ez : zipO dd with
    | none =>
      rw [ez] at h1
      exact h1.elim
    | some zs =>
      rw [ez] at h1
      unfold zipO at ez
      split at ez
      · next xs ys =>
        split at ez
        · next hz =>
          cases ez
          cases r with
          | cons r1 r2 =>
            cases r2 with
            | cons r3 r4 =>
              cases r4
              cases r1 with
              | @tup a vx _ p1 p2 =>
                cases r3 with
                | @tup b vy _ q1 q2 =>
                  have hx : ∀ {H' : Hp} {S' : List Addr}, Ex (hide H1 S) (hide H' S') → SqT X.K H' a vx := fun x => SqT.of (hide_in (x _ _ p1 fun ps z => by cases z)).2
                  have hy : ∀ {H' : Hp} {S' : List Addr}, Ex (hide H1 S) (hide H' S') → SqT X.K H' b vy := fun x => SqT.of (hide_in (x _ _ q1 fun ps z => by cases z)).2
                  refine ⟨a, b, vx, vy, rfl, .inr ⟨hx (Ex.refl _), hy (Ex.refl _), h1 _ H1 g (by rw [zipD_len]; omega) ⟨?_, ?_, ?_⟩⟩⟩
                  · intro H' S' i x l
                    rw [zipD_len] at l
                    obtain ⟨v, z1, z2⟩ := p2.get (List.getElem?_eq_getElem (show i < xs.length by omega))
                    obtain ⟨v', z3, z4⟩ := q2.get (List.getElem?_eq_getElem (show i < ys.length by omega))
                    exact ⟨vx, vy, v, v', hx x, hy x, z1, z3⟩
                  · intro H' S' x
                    refine ⟨vx, vy, hx x, hy x, ?_⟩
                    rw [zipD_len, p2.len, q2.len]
                    omega
                  · intro H' S' i v H'' sd x y l
                    obtain ⟨T, u1, u2, rfl, nT, rfl, f1, f2⟩ := y
                    obtain ⟨d1, z1, z2⟩ := p2.get' (f1 _ (hx x))
                    obtain ⟨d2, z3, z4⟩ := q2.get' (f2 _ (hy x))
                    exact ⟨_, zipD_get z1 z3, same_new nT, rp_pair sd nT (z2.ex x) (z4.ex x)⟩
        · cases ez
      · next xs ys =>
        split at ez
        · next hz =>
          cases ez
          cases r with
          | cons r1 r2 =>
            cases r2 with
            | cons r3 r4 =>
              cases r4
              cases r1 with
              | @lst a vx _ p1 p2 =>
                cases r3 with
                | @lst b vy _ q1 q2 =>
                  have hx : ∀ {H' : Hp} {S' : List Addr}, Ex (hide H1 S) (hide H' S') → SqL X.K H' a vx := fun x => SqL.of (hide_in (x _ _ p1 fun ps z => by cases z)).2
                  have hy : ∀ {H' : Hp} {S' : List Addr}, Ex (hide H1 S) (hide H' S') → SqL X.K H' b vy := fun x => SqL.of (hide_in (x _ _ q1 fun ps z => by cases z)).2
                  refine ⟨a, b, vx, vy, rfl, .inl ⟨hx (Ex.refl _), hy (Ex.refl _), h1 _ H1 g (by rw [zipD_len]; omega) ⟨?_, ?_, ?_⟩⟩⟩
                  · intro H' S' i x l
                    rw [zipD_len] at l
                    obtain ⟨v, z1, z2⟩ := p2.get (List.getElem?_eq_getElem (show i < xs.length by omega))
                    obtain ⟨v', z3, z4⟩ := q2.get (List.getElem?_eq_getElem (show i < ys.length by omega))
                    exact ⟨vx, vy, v, v', hx x, hy x, z1, z3⟩
                  · intro H' S' x
                    refine ⟨vx, vy, hx x, hy x, ?_⟩
                    rw [zipD_len, p2.len, q2.len]
                    omega
                  · intro H' S' i v H'' sd x y l
                    obtain ⟨T, u1, u2, rfl, nT, rfl, f1, f2⟩ := y
                    obtain ⟨d1, z1, z2⟩ := p2.get' (f1 _ (hx x))
                    obtain ⟨d2, z3, z4⟩ := q2.get' (f2 _ (hy x))
                    exact ⟨_, zipD_get z1 z3, same_new nT, rp_pair sd nT (z2.ex x) (z4.ex x)⟩
        · cases ez
      · cases ez⟩
end
end DL

set_option Elab.async false
set_option linter.all false
set_option maxRecDepth 100000
set_option maxHeartbeats 1000000
/-! DL10: slices, reversed slices, methods of texts, sorted. -/
namespace DL
open PySem PySem.Spec PyProof.Rows L2

/-! ### slices -/
def oNo : Rho → Res (Option Int) := fun _ => .ok none
def intO : D → Option (Option Int)
  | .int i => some (some i)
  | _ => none
def oSo (s : Rho → Res D) : Rho → Res (Option Int) := fun ρ => (s ρ).bind fun d => Res.of (intO d)
def cutD (ds : List D) (lo hi : Option Int) : List D := (ds.drop (HT.sIx ds.length 0 lo)).take (HT.sIx ds.length ds.length hi - HT.sIx ds.length 0 lo)
def dSl : D → Option Int → Option Int → Option D
  | .tup ds, l, h => some (.tup (cutD ds l h))
  | .lst ds, l, h => some (.lst (cutD ds l h))
  | .str x, l, h => if x.length ≤ sizeLine then some (.str (cutS x l h)) else none
  | _, _, _ => none
def eSl (a : Rho → Res D) (lo hi : Rho → Res (Option Int)) : Rho → Res D := fun ρ => (a ρ).bind fun x => (lo ρ).bind fun l => (hi ρ).bind fun h => Res.of (dSl x l h)
theorem RpL.cut {K : PySem.W.Frag} {H : Hp} {v : List V} {d : List D} (r : RpL K H v d) (lo hi : Option Int) : RpL K H (cutV v lo hi) (cutD d lo hi) := by
  unfold cutV cutD
  rw [r.len]
  exact (r.drop _).take _
theorem cutD_whole {ds : List D} {lo hi : Option Int} (w : HT.sIx ds.length 0 lo = 0 ∧ HT.sIx ds.length ds.length hi = ds.length) : cutD ds lo hi = ds := by
  unfold cutD
  rw [w.1, w.2, List.drop_zero, Nat.sub_zero, List.take_length]
theorem filterMap_same {α β : Type} {f g : α → Option β} : ∀ {l : List α}, (∀ x ∈ l, f x = g x) → l.filterMap f = l.filterMap g
  | [], _ => rfl
  | x :: l, h => by
    rw [List.filterMap_cons, List.filterMap_cons, h x (List.mem_cons_self ..), filterMap_same fun y hy => h y (List.mem_cons_of_mem _ hy)]
section
variable {X : Cx} {F : Fm} {pos : Pos} {e : Expr} {s : Rho → Res D}
theorem do_none : DO X F none oNo := PO.imp po_none fun σ H Q ⟨S, ρ, ok, q⟩ => q H (F.gr.refl H)
theorem do_some (h : DB X F e s) : DO X F (some e) (oSo s) := PO.imp (po_some h) fun σ H Q ⟨S, ρ, ok, q⟩ => ⟨S, ρ, ok, post_bind q fun d ed h1 => fun v H1 g r => by
    cases d with
    | int i => exact ⟨i, r.int_inv, h1 H1 g⟩
    | _ => exact h1.elim⟩
def rDS (K : PySem.W.Frag) : V → Option Int → Option Int → Hp → VK → Prop := fun x lo hi H Q => ∃ S dx d, Sd S H ∧ RpB K S H x dx ∧ dSl dx lo hi = some d ∧ ∀ v H', Same H H' → Rp K (hide H' S) v d → Q v H'
theorem sl_P : SlR X (rDS X.K) := by
  intro pins s σ H x v vl vu lo hi sl Q I rx hs pl pu h
  obtain ⟨S, dx, d, sd, bx, e, q⟩ := h
  unfold dSl at e
  split at e
  · cases e
    obtain ⟨a, vx, rfl, ha, ra⟩ := bx.tup_inv
    refine sl_tupA pins s σ H _ v vl vu lo hi sl Q I rx hs pl pu ⟨a, vx, rfl, SqT.of ha, fun w => ?_, fun w p np => q _ _ (same_new np) (new_tup sd np (ra.cut lo hi))⟩
    refine q _ H (Same.refl H) ?_
    rw [ra.len] at w
    rw [cutD_whole w]
    exact bx.tup_rp
  · cases e
    obtain ⟨a, vx, rfl, ha, ra⟩ := bx.lst_inv
    exact sl_list pins s σ H _ v vl vu lo hi sl Q I rx hs pl pu ⟨a, vx, rfl, SqL.of ha, fun p np => q _ _ (same_new np) (new_lst sd np (ra.cut lo hi))⟩
  · split at e
    · next c =>
      cases e
      have e1 := bx.str_inv
      subst e1
      exact sl_str pins s σ H _ v vl vu lo hi sl Q I rx hs pl pu ⟨_, rfl, c, q _ H (Same.refl H) (.str _)⟩
    · cases e
  · cases e
theorem dp_sl {lo hi : Option Expr} {slo shi : Rho → Res (Option Int)} {p2 : Pos} (he : DB X F e s) (hl : DO X F lo slo) (hh : DO X F hi shi) : DP X F (.Subscript e (.Slice lo hi none p2) pos) (eSl s slo shi) :=
  PE.imp (pe_slice sl_P he hl hh) fun σ H Q ⟨S, ρ, ok, q⟩ => ⟨S, ρ, ok, post_bind q fun dx ex h1 => fun x H1 g1 rx => ⟨S, ρ, ok.up g1, post_bind (h1.mono g1) fun l el h2 => fun H2 g2 => ⟨S, ρ, (ok.up g1).up g2, post_bind (h2.mono g2) fun u eu h3 => fun H3 g3 => by
    cases e' : dSl dx l u with
    | none =>
      rw [e'] at h3
      exact h3.elim
    | some d =>
      rw [e'] at h3
      exact ⟨S, dx, d, (((ok.up g1).up g2).up g3).sd, (rx.up (F.gr.ex g2)).up (F.gr.ex g3), e', fun v H' s r => h3 v H' (F.gr.trans g3 (F.gr.same s)) r⟩⟩⟩⟩
end
/-! ### reversed -/
section
variable {prog : Program} {w : World} {A : Around} {E : Value → Shared → Prop} {s : Shared}
theorem adjust_rev (n : Nat) : Builtin.Slice.sliceAdjust none none (-1) (n : Int) = ((n : Int) - 1, -1) := by
  unfold Builtin.Slice.sliceAdjust
  simp
theorem places_rev (n : Nat) : Builtin.Slice.slicePlaces ((n : Int) - 1) (-1) (-1) = n := by
  unfold Builtin.Slice.slicePlaces
  have h1 : ¬ ((-1 : Int) > 0) := by decide
  simp only [h1, if_false]
  split <;> simp <;> omega
theorem pick_rev (xs : Array Value) : ((List.range xs.size).filterMap fun (m : Nat) => xs[((xs.size : Int) - 1 + (m : Int) * (-1)).toNat]?).toArray = xs.toList.reverse.toArray := by
  have e : (List.range xs.size).filterMap (fun (m : Nat) => xs[((xs.size : Int) - 1 + (m : Int) * (-1)).toNat]?) = ((List.range xs.size).map fun k => xs.size - 1 - k).filterMap (xs[·]?) := by
    rw [List.filterMap_map]
    refine filterMap_same fun m hm => ?_
    have := List.mem_range.mp hm
    have e2 : ((xs.size : Int) - 1 + (m : Int) * (-1)).toNat = xs.size - 1 - m := by omega
    rw [e2]
    rfl
  rw [e, PySem.W.krv_range, List.filterMap_reverse, PySem.W.krv_all]
theorem sliceApplied_rev {sl : Addr} {vs : Value} {n : Nat} {Q : Int × Int × Nat → Shared → Prop} (hs : s.heap.IsSliceOf sl .none .none vs) (ps : IsPart vs (some (-1)))
    (h : Q ((n : Int) - 1, -1, n) s) : wpAny (model prog w) A (Builtin.Slice.sliceApplied (.ref sl) (pure (n : Int))) Q E s := by
  obtain ⟨os, hos, hcs, hds⟩ := id hs
  unfold Builtin.Slice.sliceApplied Builtin.Slice.sliceFields
  refine wpAny_bind (wpAny_bind (wpAny_field hos hds (x := .none) rfl (wpAny_bind (wpAny_field hos hds (x := .none) rfl (wpAny_bind (wpAny_field hos hds (x := vs) rfl (wpAny_pure ?_)))))))
  refine wpAny_bind (HT.slicePart_ ps ?_)
  show wpAny _ _ (if ((-1 : Int) == 0) = true then _ else _) _ _ s
  rw [if_neg (by decide)]
  refine wpAny_bind (HT.slicePart_ .none (wpAny_bind (HT.slicePart_ .none (wpAny_bind (wpAny_pure ?_)))))
  show wpAny _ _ (match Builtin.Slice.sliceAdjust none none (-1) (n : Int) with | (lo, hi) => pure (lo, (-1 : Int), Builtin.Slice.slicePlaces lo hi (-1))) _ _ s
  rw [adjust_rev n]
  show wpAny _ _ (pure ((n : Int) - 1, (-1 : Int), Builtin.Slice.slicePlaces ((n : Int) - 1) (-1) (-1))) _ _ s
  rw [places_rev]
  exact wpAny_pure h
theorem getItem_tuple_rev {t sl : Addr} {items : Array Value} {vs : Value} {Q : Value → Shared → Prop} (ht : IsTup s.heap t items) (hs : s.heap.IsSliceOf sl .none .none vs) (ps : IsPart vs (some (-1)))
    (h : Q (.ref s.heap.objs.size) { s with heap := s.heap.push { cls := .type "tuple", data := .seq items.toList.reverse.toArray } })
    (hsz : items.size ≤ sizeLine) : wpAny (model prog w) A (getItem (.ref t) (.ref sl)) Q E s := by
  have htake : sizeOk (.seq items.toList.reverse.toArray) := by
    show items.toList.reverse.toArray.size ≤ sizeLine
    rw [List.size_toArray, List.length_reverse, Array.length_toList]
    exact hsz
  obtain ⟨os, hos, hcs, hds⟩ := id hs
  have hTs : s.TypeIs (.ref sl) "slice" := ⟨os, hos, hcs⟩
  unfold getItem
  try with_reducible refine wpAny_holding ?_
  first | refine wpAny_bind (wpAny_pure ?_) | skip
  refine wpAny_bind (wpAny_sequenceKey ht.typeIs (by decide) ?_)
  refine wpAny_bind (wpAny_callSpecial?_slot (name := Str.ofString "__getitem__") ht.typeIs PyProof.Rows.slot_tuple_getitem
    (wpAny_call_entry PyProof.Rows.slot_tuple_getitem ht.typeIs PyProof.Rows.entry_tuple_getitem ?_ (PyProof.Rows.args_tuple_getitem _ _)))
  show wpAny _ _ (Builtin.Tuple.tupleItemsOf (.ref t) >>= _) _ _ s
  refine wpAny_bind (tupleItemsOf_ ht ?_)
  refine wpAny_bind (wpAny_typeOf hTs ?_)
  rw [if_pos (by decide)]
  refine wpAny_bind (sliceApplied_rev hs ps ?_)
  have hno : ¬ (((items.size : Int) - 1 == 0 && (-1 : Int) == 1 && items.size == items.size) = true) := by
    intro q
    rw [Bool.and_eq_true, Bool.and_eq_true] at q
    exact absurd q.1.2 (by decide)
  show wpAny _ _ (if ((items.size : Int) - 1 == 0 && (-1 : Int) == 1 && items.size == items.size) = true then _ else _) _ _ s
  rw [if_neg hno, pick_rev]
  first
    | exact wpAny_bind (m := Builtin.Tuple.tupleExact _) (wpAny_newObj_type (wpAny_pure ⟨_, rfl, wpAny_pure h⟩) htake)
    | exact wpAny_bind (m := Builtin.Tuple.tupleExact _) (wpAny_newObj_type (wpAny_bind (wpAny_pure (wpAny_pure ⟨_, rfl, wpAny_pure h⟩))) htake)
    | exact wpAny_bind (wpAny_bind (m := Builtin.Tuple.tupleExact _) (wpAny_newObj_type (wpAny_pure (wpAny_pure ⟨_, rfl, wpAny_pure h⟩)) htake))
    | exact wpAny_bind (wpAny_bind (m := Builtin.Tuple.tupleExact _) (wpAny_newObj_type (wpAny_pure ⟨_, rfl, wpAny_pure h⟩) htake))
end
theorem strSl_rev (n : Nat) : Builtin.Str.strSliceIndices none none (-1) n = (List.range n).map fun k => n - 1 - k := by
  rw [← PySem.W.krv_sliceRange]
  unfold Builtin.Str.strSliceIndices
  simp
def revS (x : Str) : Str := ⟨x.cps.toList.reverse.toArray⟩
def dRev : D → Option D
  | .tup ds => some (.tup ds.reverse)
  | .lst ds => some (.lst ds.reverse)
  | .str x => if x.length ≤ sizeLine then some (.str (revS x)) else none
  | _ => none
section
variable {X : Cx} {F : Fm} {pos : Pos} {e : Expr} {s : Rho → Res D}
theorem dp_rev {k : Nat} {p1 p2 p3 : Pos} (he : DB X F e s) : DP X F (.Subscript e (.Slice none none (some (.UnaryOp .USub (.Constant (.int 1) k p1) p2)) p3) pos) (e1 dRev s) := by
  refine ⟨fun pins s0 σ H Q I h => ?_⟩
  obtain ⟨S, ρ, ok, q⟩ := h
  refine Subscript_ (thn (he.run pins s0 σ H (fun v H1 => ∃ dx d, F.G H H1 ∧ RpB X.K S H1 v dx ∧ dRev dx = some d ∧ (kdV X.K F).post S H Q d) I ⟨S, ρ, ok, post_bind q fun d ed h1 => fun v H1 g r => ?_⟩) fun v s1 ⟨x, H1, I1, r1, dx, d, g1, bx, ed, q1⟩ => ?_)
  · cases e' : dRev d with
    | none =>
      rw [e'] at h1
      exact h1.elim
    | some d' =>
      rw [e'] at h1
      exact ⟨d, d', g, r, e', h1⟩
  have ok1 := ok.up g1
  have hst : PO X (some (.UnaryOp .USub (.Constant (.int 1) k p1) p2)) (tPart (tUn (rU fun i => .int (-i)) (tC (.int 1)))) := po_some (pe_un un_neg pe_int)
  refine wpAny_Slice (thn (po_none.run pins s1 σ H1 (fun o H2 => o = none ∧ H2 = H1) I1 ⟨rfl, rfl⟩) fun vl s2 ⟨l, H2, I2, pl, el, e2⟩ => ?_)
  subst el e2
  refine thn (po_none.run pins s2 σ H2 (fun o H3 => o = none ∧ H3 = H2) I2 ⟨rfl, rfl⟩) fun vu s3 ⟨u, H3, I3, pu, eu, e3⟩ => ?_
  subst eu e3
  refine thn (hst.run pins s3 σ H3 (fun o H4 => o = some (-1) ∧ H4 = H3) I3 ⟨1, rfl, -1, rfl, rfl, rfl⟩) fun vs s4 ⟨o, H4, I4, ps, eo, e4⟩ => ?_
  subst eo e4
  have I5 : Inv X pins σ H4 { s4 with heap := s4.heap.push { cls := .type "slice", data := .fields #[vl, vu, vs] } } := I4.kept (t' := s4.toks) fun b ob q => Heap.get?_push_of_some _ q
  show wpAny (model X.prog X.w) X.A (subscriptTail e (.Slice none none (some (.UnaryOp .USub (.Constant (.int 1) k p1) p2)) p3) v (.ref s4.heap.objs.size)) (EP X pins σ Q) X.xe { s4 with heap := s4.heap.push { cls := .type "slice", data := .fields #[vl, vu, vs] } }
  unfold dRev at ed
  split at ed
  · cases ed
    obtain ⟨a, xs, rfl, ha, ra⟩ := bx.tup_inv
    cases r1
    obtain ⟨its, r, ht, hz⟩ := I5.tuple (SqT.of (K := X.K) ha)
    have hlen := r.length
    cases pl
    cases pu
    refine tail_any (ops := [.ref a, .ref s4.heap.objs.size]) ht.typeIs PyProof.Rows.slot_tuple_getitem.lookup ?_ (by with_unfolding_all rfl)
    refine getItem_tuple_rev ht (Heap.IsSliceOf.new ..) ps ?_ (by rw [List.size_toArray]; omega)
    rw [List.toList_toArray]
    refine ⟨.ref _, _, I5.laid (t' := s4.toks) (o := .tup xs.reverse) (fun b ob q => Heap.get?_push_of_some _ q) (Nat.le_refl _) ?_, rfl, q1 _ _ (F.gr.trans g1 (F.gr.same (same_new (I5.hok.fresh (Nat.le_refl _))))) (new_tup ok1.sd (I5.hok.fresh (Nat.le_refl _)) ra.rev)⟩
    exact ⟨by rw [List.length_reverse]; exact hz, _, r.reverse, IsTup.new _ _⟩
  · cases ed
    obtain ⟨a, xs, rfl, ha, ra⟩ := bx.lst_inv
    cases r1
    obtain ⟨its, r, ht, hz⟩ := I5.list (SqL.of (K := X.K) ha)
    have hlen := r.length
    refine tail_any (ops := [.ref a, .ref s4.heap.objs.size]) ht.isList.typeIs (PySem.slot_list_getitem.lookup) ?_ (by with_unfolding_all rfl)
    refine wpAny_getItem_list_slice ht.isList (Heap.IsSliceOf.new _ vl vu vs) pl pu ps (by decide) ?_ (by rw [List.size_toArray]; omega)
    rw [PySem.W.krv_pick]
    refine ⟨.ref _, _, I5.laid (t' := s4.toks) (o := .lst xs.reverse) (fun b ob q => Heap.get?_push_of_some _ q) (Nat.le_refl _) ?_, rfl, q1 _ _ (F.gr.trans g1 (F.gr.same (same_new (I5.hok.fresh (Nat.le_refl _))))) (new_lst ok1.sd (I5.hok.fresh (Nat.le_refl _)) ra.rev)⟩
    exact ⟨by rw [List.length_reverse]; exact hz, _, 0, r.reverse, Heap.get?_push_size _ rfl⟩
  · split at ed
    · next z c =>
      cases ed
      have e1 := bx.str_inv
      subst e1
      obtain ⟨t, rfl⟩ := r1
      cases pl
      cases pu
      obtain ⟨st, rfl, est⟩ := IsPart.raw ps
      refine tail_any (ops := [.str z t, .ref s4.heap.objs.size]) (typeIs_str _ _ _) PySem.F.slot_str_getitem.lookup ?_ (by with_unfolding_all rfl)
      refine wpAny_getItem_str_slice (l := none) (u := none) (st := st) ⟨_, Heap.get?_push_size _ rfl, rfl, rfl⟩ (by rw [est]; rfl) ?_
      have hp : slicePicked z none none st = (List.range z.length).map fun k => z.length - 1 - k := by
        unfold slicePicked
        rw [est]
        exact strSl_rev _
      unfold sliceMade
      rw [hp, est, if_neg (by intro q; rw [Bool.and_eq_true] at q; exact absurd q.1 (by decide)), PySem.W.krv_range, List.filterMap_reverse]
      have hz : (List.range z.length).filterMap (z.cps[·]?) = z.cps.toList := PySem.W.krv_all z.cps
      rw [hz]
      exact ⟨by show z.cps.toList.reverse.toArray.size ≤ sizeLine; rw [List.size_toArray, List.length_reverse, Array.length_toList]; exact c, .str _, _, I5.tok _, ⟨_, rfl⟩, q1 _ _ g1 (.str _)⟩
    · cases ed
  · cases ed
end
end DL

set_option Elab.async false
set_option linter.all false
set_option maxRecDepth 100000
set_option maxHeartbeats 1000000
/-! DL11: sorted, methods of texts, abs, str. -/
namespace DL
open PySem PySem.Spec PyProof.Rows L2

/-! ### sorting by insertion -/
section
variable {α : Type} (le : α → α → Bool)
def insB (x : α) : List α → List α
  | [] => [x]
  | y :: r => if le x y = true then x :: y :: r else y :: insB x r
def sortB : List α → List α
  | [] => []
  | x :: r => insB le x (sortB r)
theorem insB_perm (x : α) : ∀ l : List α, (insB le x l).Perm (x :: l)
  | [] => List.Perm.refl _
  | y :: r => by
    unfold insB
    split
    · exact List.Perm.refl _
    · exact ((insB_perm x r).cons y).trans (List.Perm.swap ..)
theorem sortB_perm : ∀ l : List α, (sortB le l).Perm l
  | [] => List.Perm.refl _
  | x :: r => (insB_perm le x (sortB le r)).trans ((sortB_perm r).cons x)
variable {le}
theorem insB_sorted (ht : ∀ x y, le x y = true ∨ le y x = true) (htr : ∀ x y z, le x y = true → le y z = true → le x z = true) (x : α) : ∀ l : List α, l.Pairwise (fun a b => le a b = true) → (insB le x l).Pairwise (fun a b => le a b = true)
  | [], _ => List.pairwise_singleton ..
  | y :: r, h => by
    obtain ⟨h1, h2⟩ := List.pairwise_cons.mp h
    unfold insB
    split
    · next c =>
      refine List.pairwise_cons.mpr ⟨fun z hz => ?_, h⟩
      rcases List.mem_cons.mp hz with e | e
      · rw [e]; exact c
      · exact htr x y z c (h1 z e)
    · next c =>
      refine List.pairwise_cons.mpr ⟨fun z hz => ?_, insB_sorted ht htr x r h2⟩
      rcases List.mem_cons.mp ((insB_perm le x r).mem_iff.mp hz) with e | e
      · rw [e]
        exact (ht x y).resolve_left c
      · exact h1 z e
theorem sortB_sorted (ht : ∀ x y, le x y = true ∨ le y x = true) (htr : ∀ x y z, le x y = true → le y z = true → le x z = true) : ∀ l : List α, (sortB le l).Pairwise (fun a b => le a b = true)
  | [] => List.Pairwise.nil
  | x :: r => insB_sorted ht htr x _ (sortB_sorted ht htr r)
theorem sorted_uniq (ha : ∀ x y, le x y = true → le y x = true → x = y) : ∀ {l m : List α}, l.Perm m → l.Pairwise (fun a b => le a b = true) → m.Pairwise (fun a b => le a b = true) → l = m
  | [], m, p, _, _ => by
    rw [List.Perm.nil_eq p]
  | x :: l, [], p, _, _ => by
    have := p.length_eq
    simp at this
  | x :: l, y :: m, p, hl, hm => by
    obtain ⟨h1, h2⟩ := List.pairwise_cons.mp hl
    obtain ⟨h3, h4⟩ := List.pairwise_cons.mp hm
    have e : x = y := by
      rcases List.mem_cons.mp (p.mem_iff.mp (List.mem_cons_self ..)) with e | e
      · exact e
      · rcases List.mem_cons.mp (p.mem_iff.mpr (List.mem_cons_self ..)) with e' | e'
        · exact e'.symm
        · exact ha x y (h1 y e') (h3 x e)
    subst e
    rw [sorted_uniq ha p.cons_inv h2 h4]
theorem sort_of (ht : ∀ x y, le x y = true ∨ le y x = true) (htr : ∀ x y z, le x y = true → le y z = true → le x z = true) (ha : ∀ x y, le x y = true → le y x = true → x = y) {l m : List α} (p : l.Perm m) (h : l.Pairwise (fun a b => le a b = true)) : l = sortB le m :=
  sorted_uniq ha (p.trans (sortB_perm le m).symm) h (sortB_sorted ht htr m)
end
def leI (a b : Int) : Bool := decide (a ≤ b)
def leP (a b : Int × Int) : Bool := decide (a.1 < b.1) || (decide (a.1 = b.1) && decide (a.2 ≤ b.2))
theorem leP_iff {a b : Int × Int} : leP a b = true ↔ a.1 < b.1 ∨ (a.1 = b.1 ∧ a.2 ≤ b.2) := by
  unfold leP
  simp
abbrev sortI (l : List Int) : List Int := sortB leI l
abbrev sortP (l : List (Int × Int)) : List (Int × Int) := sortB leP l
theorem leP_tot (x y : Int × Int) : leP x y = true ∨ leP y x = true := by
  rw [leP_iff, leP_iff]
  omega
theorem leP_tr (x y z : Int × Int) (h1 : leP x y = true) (h2 : leP y z = true) : leP x z = true := by
  rw [leP_iff] at *
  omega
theorem leP_anti (x y : Int × Int) (h1 : leP x y = true) (h2 : leP y x = true) : x = y := by
  rw [leP_iff] at h1 h2
  exact Prod.ext (by omega) (by omega)
theorem leI_tot (x y : Int) : leI x y = true ∨ leI y x = true := by
  unfold leI
  simp
  omega
theorem leI_tr (x y z : Int) (h1 : leI x y = true) (h2 : leI y z = true) : leI x z = true := by
  unfold leI at *
  simp at *
  omega
theorem leI_anti (x y : Int) (h1 : leI x y = true) (h2 : leI y x = true) : x = y := by
  unfold leI at *
  simp at *
  omega
/-! ### sorted -/
def tupP (p : Int × Int) : D := .tup [.int p.1, .int p.2]
def pairOf : D → Option (Int × Int)
  | .tup [.int i, .int j] => some (i, j)
  | _ => none
def pairsOf : List D → Option (List (Int × Int))
  | [] => some []
  | d :: r => (pairOf d).bind fun p => (pairsOf r).map (p :: ·)
theorem pairOf_eq {d : D} {p : Int × Int} (h : pairOf d = some p) : d = tupP p := by
  unfold pairOf at h
  split at h
  · cases h
    rfl
  · cases h
theorem pairsOf_eq : ∀ {ds : List D} {ps : List (Int × Int)}, pairsOf ds = some ps → ds = ps.map tupP
  | [], ps, h => by
    cases h
    rfl
  | d :: r, ps, h => by
    unfold pairsOf at h
    cases e : pairOf d with
    | none =>
      rw [e] at h
      cases h
    | some p =>
      rw [e] at h
      cases e2 : pairsOf r with
      | none =>
        rw [Option.bind_some, e2] at h
        cases h
      | some q =>
        rw [Option.bind_some, e2] at h
        cases h
        rw [List.map_cons, ← pairOf_eq e, ← pairsOf_eq e2]
theorem pairsOf_map : ∀ (ps : List (Int × Int)), pairsOf (ps.map tupP) = some ps
  | [] => rfl
  | p :: ps => by
    show (pairOf (tupP p)).bind _ = _
    rw [show pairOf (tupP p) = some p from rfl, Option.bind_some, pairsOf_map ps]
    rfl
def dSorted : List D → Option D
  | [.lst ds] => match intsOf ds with
    | some ns => some (.lst ((sortI ns).map .int))
    | none => (pairsOf ds).map fun ps => .lst ((sortP ps).map tupP)
  | _ => none
theorem rpl_ints {K : PySem.W.Frag} {H : Hp} : ∀ (ns : List Int), RpL K H (ns.map V.int) (ns.map D.int)
  | [] => .nil
  | n :: ns => .cons (.int n) (rpl_ints ns)
/-- the two ints of a pair in the heap -/
def kOf (H : Hp) : V → Int × Int
  | .ref t => match H t with
    | some (.tup [.int i, .int j]) => (i, j)
    | _ => (0, 0)
  | _ => (0, 0)
theorem kOf_of {K : PySem.W.Frag} {H H' : Hp} (x : Ex H' H) {v : V} {p : Int × Int} (r : Rp K H' v (tupP p)) : (∃ t, v = .ref t ∧ H t = some (.tup [.int p.1, .int p.2])) ∧ kOf H v = p := by
  cases r with
  | tup h1 h2 =>
    cases h2 with
    | cons a b =>
      cases b with
      | cons a' b' =>
        cases a
        cases a'
        cases b'
        have e := x _ _ h1 fun ps z => by cases z
        exact ⟨⟨_, rfl, e⟩, by show (match H _ with | some (HO.tup [V.int i, V.int j]) => (i, j) | _ => (0, 0)) = p; rw [e]⟩
theorem kOf_map {K : PySem.W.Frag} {H H' : Hp} (x : Ex H' H) : ∀ {vs : List V} {ps : List (Int × Int)}, RpL K H' vs (ps.map tupP) → vs.map (kOf H) = ps
  | [], [], _ => rfl
  | v :: vs, p :: ps, .cons h r => by
    rw [List.map_cons, (kOf_of x h).2, kOf_map x r]
  | [], _ :: _, h => by cases h
  | _ :: _, [], h => by cases h
theorem rpl_of_mem {K : PySem.W.Frag} {H H' : Hp} (x : Ex H' H) {vs : List V} {ps : List (Int × Int)} (r : RpL K H' vs (ps.map tupP)) : ∀ v ∈ vs, Rp K H' v (tupP (kOf H v)) := by
  intro v hv
  obtain ⟨i, hi, e⟩ := List.getElem_of_mem hv
  obtain ⟨d, h1, h2⟩ := r.get' (i := i) (y := v) (by rw [List.getElem?_eq_getElem hi, e])
  rw [List.getElem?_map] at h1
  cases e2 : ps[i]? with
  | none =>
    rw [e2] at h1
    cases h1
  | some p =>
    rw [e2] at h1
    cases h1
    rw [(kOf_of x h2).2]
    exact h2
theorem rpl_map {K : PySem.W.Frag} {H H' : Hp} {k : V → D} : ∀ {vs : List V}, (∀ v ∈ vs, Rp K H' v (k v)) → RpL K H' vs (vs.map k)
  | [], _ => .nil
  | v :: vs, h => .cons (h v (List.mem_cons_self ..)) (rpl_map (H := H) fun u hu => h u (List.mem_cons_of_mem _ hu))
section
variable {X : Cx} {F : Fm} {pos : Pos}
theorem call_sortedP : CallR X (.builtin "sorted") (rDC X.K dSorted) := by
  intro pins s σ H xs us Q I rv h
  obtain ⟨S, ds, d, sd, rs, e, q⟩ := h
  unfold dSorted at e
  split at e
  · next es =>
    obtain ⟨v, rfl, r⟩ := Paired.one_inv rs
    obtain ⟨a, vx, rfl, ha, ra⟩ := r.lst_inv
    split at e
    · next ns en =>
      cases e
      have := ra.ints en
      subst this
      refine cr_sortedI pins s σ H _ us Q I rv ⟨a, ns, rfl, SqL.of ha, fun ns' p hp hs np => ?_⟩
      have e1 : ns' = sortI ns := sort_of leI_tot leI_tr leI_anti hp (hs.imp fun h => by unfold leI; simpa using h)
      subst e1
      exact q _ _ (same_new np) (new_lst sd np (rpl_ints _))
    · next en =>
      cases ep : pairsOf es with
      | none =>
        rw [ep] at e
        cases e
      | some ps =>
        rw [ep] at e
        cases e
        have := pairsOf_eq ep
        subst this
        refine cr_sortedPO pins s σ H _ us Q I rv ⟨a, vx, kOf H, rfl, SqL.of ha, fun x hx => ?_, fun ys p hs ht np => ?_⟩
        · exact (kOf_of hide_ex (rpl_of_mem hide_ex ra x hx)).1
        · have hm : ∀ y ∈ ys, Rp X.K (hide H S) y (tupP (kOf H y)) := fun y hy => rpl_of_mem hide_ex ra y (ht.perm.mem_iff.mp hy)
          have e1 : ys.map (kOf H) = sortP ps := by
            refine sort_of leP_tot leP_tr leP_anti ?_ ?_
            · rw [← kOf_map hide_ex ra]
              exact ht.perm.map _
            · refine List.pairwise_map.mpr (List.Pairwise.imp ?_ hs)
              intro x y h
              have := SrtO.lexB_no.mp h
              rw [leP_iff]
              omega
          have e2 := rpl_map (H := H) hm
          rw [show (ys.map fun y => tupP (kOf H y)) = (ys.map (kOf H)).map tupP by rw [List.map_map]; rfl, e1] at e2
          exact q _ _ (same_new np) (new_lst sd np e2)
  · cases e
/-! ### abs, str -/
def dAbs : List D → Option D
  | [.int i] => some (.int (if i < 0 then -i else i))
  | _ => none
theorem call_absP : CallR X (.builtin "abs") (rDC X.K dAbs) := by
  intro pins s σ H xs us Q I rv h
  obtain ⟨S, ds, d, sd, rs, e, q⟩ := h
  unfold dAbs at e
  split at e
  · cases e
    obtain ⟨v, rfl, r⟩ := Paired.one_inv rs
    have e1 := r.int_inv
    subst e1
    exact call_abs pins s σ H _ us Q I rv ⟨_, rfl, q _ H (Same.refl H) (.int _)⟩
  · cases e
def dStr : List D → Option D
  | [.int i] => if i.natAbs.log2 < 1920 then some (.str (toString i)) else none
  | _ => none
theorem call_strP : CallR X (.type "str") (rDC X.K dStr) := by
  intro pins s σ H xs us Q I rv h
  obtain ⟨S, ds, d, sd, rs, e, q⟩ := h
  unfold dStr at e
  split at e
  · split at e
    · next c =>
      cases e
      obtain ⟨v, rfl, r⟩ := Paired.one_inv rs
      have e1 := r.int_inv
      subst e1
      exact call_str_int pins s σ H _ us Q I rv ⟨_, rfl, c, q _ H (Same.refl H) (.str _)⟩
    · cases e
  · cases e
/-! ### methods of texts -/
def rDM1 (K : PySem.W.Frag) (g : D → D → Option D) : V → List V → Hp → VK → Prop := fun x xs H Q => ∃ S dx dy d y, xs = [y] ∧ Sd S H ∧ RpB K S H x dx ∧ RpB K S H y dy ∧ g dx dy = some d ∧ ∀ v H', Same H H' → Rp K (hide H' S) v d → Q v H'
def rDM0 (K : PySem.W.Frag) (g : D → Option D) : V → List V → Hp → VK → Prop := fun x xs H Q => ∃ S dx d, xs = [] ∧ Sd S H ∧ RpB K S H x dx ∧ g dx = some d ∧ ∀ v H', Same H H' → Rp K (hide H' S) v d → Q v H'
def strD : D → Option Str
  | .str x => some x
  | _ => none
def g2S (g : Str → D → Option D) (a b : D) : Option D := match a with
  | .str x => g x b
  | _ => none
def isStr : D → Bool
  | .str _ => true
  | _ => false
/-- o.name(e): the receiver is a text -/
def eM1 (g : Str → D → Option D) (a b : Rho → Res D) : Rho → Res D := fun ρ => (a ρ).bind fun x => (Res.of (strD x)).bind fun z => (b ρ).bind fun y => Res.of (g z y)
def eM0 (g : Str → Option D) (a : Rho → Res D) : Rho → Res D := fun ρ => (a ρ).bind fun x => (Res.of (strD x)).bind fun z => Res.of (g z)
def rS1 (K : PySem.W.Frag) (g : Str → D → Option D) : V → List V → Hp → VK → Prop := fun x xs H Q => ∃ S z dy d y, x = .str z ∧ xs = [y] ∧ Sd S H ∧ RpB K S H y dy ∧ g z dy = some d ∧ ∀ v H', Same H H' → Rp K (hide H' S) v d → Q v H'
def rS0 (K : PySem.W.Frag) (g : Str → Option D) : V → List V → Hp → VK → Prop := fun x xs H Q => ∃ S z d, x = .str z ∧ xs = [] ∧ Sd S H ∧ g z = some d ∧ ∀ v H', Same H H' → Rp K (hide H' S) v d → Q v H'
variable {o e : Expr} {so se : Rho → Res D}
theorem dp_m1 {id : String} {name : Str} {apos : Pos} {g : Str → D → Option D} (slot : PySem.Slot "str" name id) (ty : typeOf (.builtin id) = pure (.type "method_descriptor")) (rule : MtR X id (rS1 X.K g)) (ho : DB X F o so) (he : DB X F e se)
    (hs : starEach [e] X.env = [(false, eval e X.env)] := by rfl) (hbase : attributeBase o name X.env (eval o X.env) = eval o X.env := by rfl) (hline : (apos.endLine == pos.line) = true := by rfl) :
    DP X F (.Call (.Attribute o name apos) [e] [] pos) (eM1 g so se) :=
  PE.imp (pe_m1 slot ty rule ho he hs hbase hline) fun σ H Q ⟨S, ρ, ok, q⟩ => ⟨S, ρ, ok, post_bind q fun dx ex h1 => fun x H1 g1 rx => by
    cases dx with
    | str z =>
      have e1 := rx.str_inv
      subst e1
      refine ⟨⟨_, rfl⟩, S, ρ, ok.up g1, post_bind (PostK.mono (r := (se ρ).bind fun y => Res.of (g z y)) h1 g1) fun dy ey h2 => fun y H2 g2 ry => ?_⟩
      cases e' : g z dy with
      | none =>
        rw [e'] at h2
        exact h2.elim
      | some d =>
        rw [e'] at h2
        exact ⟨S, z, dy, d, y, rfl, rfl, ((ok.up g1).up g2).sd, ry, e', fun v H' s r => h2 v H' (F.gr.trans g2 (F.gr.same s)) r⟩
    | _ => exact h1.elim⟩
theorem dp_m0 {id : String} {name : Str} {apos : Pos} {g : Str → Option D} (slot : PySem.Slot "str" name id) (ty : typeOf (.builtin id) = pure (.type "method_descriptor")) (rule : MtR X id (rS0 X.K g)) (ho : DB X F o so)
    (hbase : attributeBase o name X.env (eval o X.env) = eval o X.env := by rfl) (hline : (apos.endLine == pos.line) = true := by rfl) :
    DP X F (.Call (.Attribute o name apos) [] [] pos) (eM0 g so) :=
  PE.imp (pe_m0 slot ty rule ho hbase hline) fun σ H Q ⟨S, ρ, ok, q⟩ => ⟨S, ρ, ok, post_bind q fun dx ex h1 => fun x H1 g1 rx => by
    cases dx with
    | str z =>
      have e1 := rx.str_inv
      subst e1
      refine ⟨⟨_, rfl⟩, ?_⟩
      cases e' : g z with
      | none =>
        change PostK _ _ _ _ _ (Res.of (g z)) at h1
        rw [e'] at h1
        exact h1.elim
      | some d =>
        change PostK _ _ _ _ _ (Res.of (g z)) at h1
        rw [e'] at h1
        exact ⟨S, z, d, rfl, rfl, (ok.up g1).sd, e', fun v H' s r => h1 v H' (F.gr.trans g1 (F.gr.same s)) r⟩
    | _ => exact h1.elim⟩
def strsOf : List D → Option (List Str)
  | [] => some []
  | .str i :: r => (strsOf r).map (i :: ·)
  | _ :: _ => none
theorem RpL.strs {K : PySem.W.Frag} {H : Hp} : ∀ {ds : List D} {vs : List V} {is : List Str}, RpL K H vs ds → strsOf ds = some is → vs = is.map V.str
  | [], _, _, .nil, e => by
    cases e
    rfl
  | .str i :: r, _, _, .cons h t, e => by
    cases h
    cases er : strsOf r with
    | none =>
      simp only [strsOf, er, Option.map_none] at e
      cases e
    | some js =>
      simp only [strsOf, er, Option.map_some, Option.some.injEq] at e
      subst e
      rw [RpL.strs t er]
      rfl
  | .non :: _, _, _, _, e => by cases e
  | .bl _ :: _, _, _, _, e => by cases e
  | .int _ :: _, _, _, _, e => by cases e
  | .tup _ :: _, _, _, _, e => by cases e
  | .lst _ :: _, _, _, _, e => by cases e
  | .dic _ :: _, _, _, _, e => by cases e
  | .obj _ _ :: _, _, _, _, e => by cases e
  | .scr _ :: _, _, _, _, e => by cases e
  | .gtup _ :: _, _, _, _, e => by cases e
  | .opq _ :: _, _, _, _, e => by cases e
def joinG (z : Str) (d : D) : Option D := match d with
  | .lst ds => (strsOf ds).bind fun ys => if (ys.map (·.length)).sum + ys.length * z.length ≤ 16777216 then some (.str (Txt.join z ys)) else none
  | .tup ds => (strsOf ds).bind fun ys => if (ys.map (·.length)).sum + ys.length * z.length ≤ 16777216 then some (.str (Txt.join z ys)) else none
  | _ => none
theorem mt_joinP : MtR X "str.join" (rS1 X.K joinG) := by
  intro pins s σ H x xs v us Q I rx rs h
  obtain ⟨S, z, dy, d, y, rfl, rfl, sd, ry, e, q⟩ := h
  unfold joinG at e
  split at e
  · next ds =>
    cases en : strsOf ds with
    | none =>
      rw [en] at e
      cases e
    | some ys =>
      rw [en, Option.bind_some] at e
      split at e
      · next c =>
        cases e
        obtain ⟨a, vx, rfl, ha, ra⟩ := ry.lst_inv
        have := ra.strs en
        subst this
        exact mt_join pins s σ H _ _ v us Q I rx rs ⟨z, a, ys, rfl, rfl, .inl (SqL.of ha), c, q _ H (Same.refl H) (.str _)⟩
      · cases e
  · next ds =>
    cases en : strsOf ds with
    | none =>
      rw [en] at e
      cases e
    | some ys =>
      rw [en, Option.bind_some] at e
      split at e
      · next c =>
        cases e
        obtain ⟨a, vx, rfl, ha, ra⟩ := ry.tup_inv
        have := ra.strs en
        subst this
        exact mt_join pins s σ H _ _ v us Q I rx rs ⟨z, a, ys, rfl, rfl, .inr (SqT.of ha), c, q _ H (Same.refl H) (.str _)⟩
      · cases e
  · cases e
theorem dp_join {apos : Pos} (ho : DB X F o so) (he : DB X F e se) (hs : starEach [e] X.env = [(false, eval e X.env)] := by rfl) (hbase : attributeBase o "join" X.env (eval o X.env) = eval o X.env := by rfl) (hline : (apos.endLine == pos.line) = true := by rfl) :
    DP X F (.Call (.Attribute o "join" apos) [e] [] pos) (eM1 joinG so se) := dp_m1 PySem.F.slot_str_join PySem.F.type_str_join mt_joinP ho he hs hbase hline
end
end DL

set_option Elab.async false
set_option linter.all false
set_option maxRecDepth 100000
set_option maxHeartbeats 1000000
/-! DL12: dicts with tuple keys. -/
namespace DL
open PySem PySem.Spec PyProof.Rows L2
def putD (kvs : List (List Key × D)) (k : List Key) (v : D) : List (List Key × D) :=
  if (kvs.any fun kv => decide (kv.1 = k)) = true then kvs.map (fun kv => if kv.1 = k then (kv.1, v) else kv) else kvs ++ [(k, v)]
theorem RpK.app {K : PySem.W.Frag} {H : Hp} : ∀ {a a' : List (List Key × V)} {b b' : List (List Key × D)}, RpK K H a b → RpK K H a' b' → RpK K H (a ++ a') (b ++ b')
  | _, _, _, _, .nil, s => s
  | _, _, _, _, .cons h r, s => .cons h (RpK.app r s)
theorem RpK.any {K : PySem.W.Frag} {H : Hp} (k : List Key) : ∀ {a : List (List Key × V)} {b : List (List Key × D)}, RpK K H a b → (a.any fun kv => decide (kv.1 = k)) = (b.any fun kv => decide (kv.1 = k))
  | _, _, .nil => rfl
  | _, _, .cons h r => by rw [List.any_cons, List.any_cons, RpK.any k r]
theorem RpK.over {K : PySem.W.Frag} {H : Hp} (k : List Key) {v : V} {d : D} (q : Rp K H v d) : ∀ {a : List (List Key × V)} {b : List (List Key × D)}, RpK K H a b → RpK K H (a.map (fun kv => if kv.1 = k then (kv.1, v) else kv)) (b.map (fun kv => if kv.1 = k then (kv.1, d) else kv))
  | _, _, .nil => .nil
  | _, _, .cons (k := k') h r => by
    rw [List.map_cons, List.map_cons]
    by_cases c : k' = k
    · rw [if_pos c, if_pos c]
      exact .cons q (RpK.over k q r)
    · rw [if_neg c, if_neg c]
      exact .cons h (RpK.over k q r)
theorem RpK.put {K : PySem.W.Frag} {H : Hp} (k : List Key) {v : V} {d : D} (q : Rp K H v d) {a : List (List Key × V)} {b : List (List Key × D)} (r : RpK K H a b) : RpK K H (putK a k v) (putD b k d) := by
  unfold putK putD
  rw [r.any k]
  split
  · exact r.over k q
  · exact r.app (.cons q .nil)
theorem RpK.len {K : PySem.W.Frag} {H : Hp} : ∀ {a : List (List Key × V)} {b : List (List Key × D)}, RpK K H a b → a.length = b.length
  | _, _, .nil => rfl
  | _, _, .cons _ r => by rw [List.length_cons, List.length_cons, RpK.len r]
theorem RpK.keys {K : PySem.W.Frag} {H : Hp} : ∀ {a : List (List Key × V)} {b : List (List Key × D)}, RpK K H a b → a.map (·.1) = b.map (·.1)
  | _, _, .nil => rfl
  | _, _, .cons _ r => by rw [List.map_cons, List.map_cons, RpK.keys r]
section
variable {X : Cx} {F : Fm} {pos : Pos}
def eDnew : Rho → Res D := fun _ => .ok (.dic [])
theorem df_dnew : DF X F (.Dict [] [] pos) eDnew := PE.imp pe_dnewT fun σ H Q ⟨S, ρ, ok, q⟩ => fun p np => q p _ (F.gr.same (same_new np)) (Nt.of np) (.dic (List.mem_cons_self ..) upd_same .nil)
/-- d[k] = v, d a dict of the frame's own -/
def keyD : D → Option (List Key)
  | .tup ks => keyOf ks
  | _ => none
def sPut (i : Nat) (sk sv : Rho → Res D) : Rho → SR := fun ρ => sBind (sv ρ) fun v => match ρ[i]? with
  | some (.ow (.dic kvs)) => sBind (sk ρ) fun k => match keyD k with
    | some key => if kvs.length < sizeLine then .nx (ρ.set i (.ow (.dic (putD kvs key v)))) else .stuck
    | none => .stuck
  | _ => .stuck
theorem Own.dref {K : PySem.W.Frag} {S : List Addr} {H : Hp} {v : V} {ds : List (List Key × D)} (h : Own K S H v (.dic ds)) : ∃ a xs, v = .ref a ∧ a ∈ S ∧ H a = some (.dT xs) ∧ RpK K (hide H S) xs ds := by
  cases h with
  | dic h1 h2 h3 => exact ⟨_, _, rfl, h1, h2, h3⟩
theorem ds_put {i : Nat} {x : Str} {p pos' : Pos} {ei ev : Expr} {sk sv : Rho → Res D} (hu : X.A.units + 100 < cLine) (hk : DP X F ei sk) (hv : DP X F ev sv) (hN : X.N[i]? = some x := by rfl)
    (hvis : Vis X.env.scope x := by first | exact Or.inl rfl | exact Or.inr (Or.inl rfl) | exact Or.inr (Or.inr rfl)) (hd : (x == ("__debug__" : Str)) = false := by decide) (hcd : (x == ("__classdict__" : Str)) = false := by decide)
    (hs : swapsWith ev (some (.Subscript (.Name x p) ei pos')) pos.line X.env = pure false := by rfl) : DS X F (.Assign [.Subscript (.Name x p) ei pos'] ev pos) (sPut i sk sv) :=
  PS.imp (ps_dput (by omega) (pe_var hN hvis hd hcd) hk hv hs) fun D σ H ⟨S, ρ, ok, h⟩ => by
    refine ⟨S, ρ, ok, post_sbind h fun d ed h1 => fun v H1 g1 rv => ?_⟩
    have ok1 := ok.up g1
    cases ei : ρ[i]? with
    | none =>
      rw [ei] at h1
      exact h1.elim
    | some sl =>
      rw [ei] at h1
      cases sl with
      | no => exact h1.elim
      | fz _ => exact h1.elim
      | tr _ => exact h1.elim
      | ow dd =>
        cases dd with
        | dic kvs =>
          obtain ⟨o, z1, v', rfl, z2⟩ := ok1.slots i _ ei
          obtain ⟨a, xs, rfl, q1, q2, q3⟩ := z2.dref
          refine ⟨_, z1, S, ρ, ok1, post_sbind (PostS.mono (r := sBind (sk ρ) _) h1 (hide_mono (F.gr.ex g1) S)) fun k ek h2 => fun y H2 g2 ry => ?_⟩
          cases k with
          | tup ks =>
            cases ekk : keyOf ks with
            | none =>
              rw [show keyD (.tup ks) = keyOf ks from rfl, ekk] at h2
              exact h2.elim
            | some key =>
              rw [show keyD (.tup ks) = keyOf ks from rfl, ekk] at h2
              dsimp only at h2
              by_cases c : kvs.length < sizeLine
              · rw [if_pos c] at h2
                cases ry with
                | @tup b yv _ y1 y2 =>
                  have e1 := y2.keys ekk
                  subst e1
                  have ok2 := ok1.up g2
                  have q2' : H2 a = some (.dT xs) := F.gr.ex g2 _ _ q2 fun ps z => by cases z
                  refine ⟨a, _, rfl, DPut.t q2' (hide_in y1).2 (by rw [q3.len]; exact c), h2 S σ _ (ok2.turn ei z1 (.dic q1 upd_same ?_)) ?_⟩
                  · rw [hide_upd q1]
                    exact (q3.ex (hide_mono (F.gr.ex g2) S)).put key (rv.ex (hide_mono (F.gr.ex g2) S))
                  · rw [hide_upd q1]
                    exact hide_mono (F.gr.ex g2) S
              · rw [if_neg c] at h2
                exact h2.elim
          | _ => exact h2.elim
        | _ => exact h1.elim
end
end DL

set_option Elab.async false
set_option linter.all false
set_option maxRecDepth 100000
set_option maxHeartbeats 1000000
/-! DL13: sorted(dict), dict(pairs), {k: v}. -/
namespace DL
open PySem PySem.Spec PyProof.Rows L2
theorem paired_get {α β : Type} {R : α → β → Prop} : ∀ {l₁ : List α} {l₂ : List β} {j : Nat} {x : β}, Paired R l₁ l₂ → l₂[j]? = some x → ∃ y, l₁[j]? = some y ∧ R y x
  | _, _, 0, _, .cons h _, e => by
    simp at e
    subst e
    exact ⟨_, rfl, h⟩
  | _, _, j + 1, _, .cons _ r, e => by
    obtain ⟨y, h1, h2⟩ := paired_get (j := j) r (by simpa using e)
    exact ⟨y, by simpa using h1, h2⟩
  | _, _, _, _, .nil, e => by simp at e
section
variable {X : Cx}
/-- sorted(t), t a tuple of pairs of ints -/
theorem collect_tup {prog : Program} {w : World} {A : Around} {E : Value → Shared → Prop} {s : Shared} {l : Addr} {vs : List Value} {Q : List Value → Shared → Prop} (hl : s.heap.IsTuple l vs.toArray)
    (h : Q vs { s with heap := (s.heap.push (seqObj "list" #[] 0)).update s.heap.objs.size (Obj.mapSeq (· ++ vs.toArray)) }) (hz : vs.length ≤ sizeLine) : wpAny (model prog w) A (collect (.ref l)) Q E s := by
  obtain ⟨o, ho, hc, n, hd⟩ := id hl
  unfold collect
  refine wpAny_bind (wpAny_runValue (codeAny_builtin PyProof.Rows.entry_proto_collect' ?_))
  show wpAny _ _ (do again (.builtin "list.__iadd__" ⟨[← newList [], .ref l], []⟩)) _ _ s
  refine wpAny_bind (wpAny_newList (wpAny_pure ⟨Code.quiet_builtin _ (by decide +kernel), codeAny_builtin PyProof.Rows.entry_list_iadd' ?_⟩))
  show wpAny _ _ (Builtin.List.listExtendWith (.ref s.heap.objs.size) (.ref l) (.ref s.heap.objs.size)) _ _ { s with heap := s.heap.push (seqObj "list" #[] 0) }
  unfold Builtin.List.listExtendWith
  have hp : (s.heap.push (seqObj "list" #[] 0)).get? l = some o := Heap.get?_push_of_some _ ho
  refine wpAny_bind (wpAny_typeOf (T := "tuple") ⟨o, hp, hc⟩ ?_)
  rw [if_pos (by rw [show (Value.type "tuple" == Value.type "tuple") = true from rfl, Bool.or_true])]
  refine wpAny_bind (PyProof.Rows.listItems_at hp hd (wpAny_bind (PyProof.Rows.listItems_at (xs := #[]) (n := 0) (Heap.get?_push_size _ rfl) rfl ?_)))
  rw [if_neg (by simp)]
  refine wpAny_bind (PyProof.Rows.listUpdate_at (xs := #[]) (n := 0) (Heap.get?_push_size _ rfl) rfl ?_ (Nat.zero_le _) (by show (#[] ++ vs.toArray).size ≤ sizeLine + 1; simp only [Array.size_append, List.size_toArray, List.length_nil]; omega))
  refine wpAny_pure ?_
  show wpAny (model prog w) A (load s.heap.objs.size >>= _) Q E { s with heap := (s.heap.push (seqObj "list" #[] 0)).update s.heap.objs.size (Obj.mapSeq (· ++ vs.toArray)) }
  refine wpAny_bind (wpAny_load (PyProof.Rows.get?_update_seq (Heap.get?_push_size _ rfl) _) ?_)
  show wpAny _ _ (pure ((#[] : Array Value) ++ vs.toArray).toList) Q E _
  rw [show ((#[] : Array Value) ++ vs.toArray).toList = vs by simp]
  exact wpAny_pure h
theorem sorted_tP : CallR X (.builtin "sorted") (fun xs H Q => ∃ (a : Addr) (vs : List V), xs = [.ref a] ∧ H a = some (.tup vs) ∧ (∀ x ∈ vs, ∃ t, x = V.ref t ∧ H t = some (.tup [.int (kOf H x).1, .int (kOf H x).2])) ∧
    ∀ ys p, SrtO.Srtd (ltP (kOf H)) ys → SrtO.Stb (ltP (kOf H)) ys vs → H p = none → Q (.ref p) (upd H p (.lst ys))) := by
  intro pins s σ H xs us Q I r q
  obtain ⟨a, vs, rfl, ha, hx, q⟩ := q
  obtain ⟨u, rfl, rx⟩ := r.one
  cases rx
  obtain ⟨its, rv, hl, hz⟩ := I.tuple (SqT.of (K := X.K) ha)
  obtain ⟨e1, e2⟩ := refs_back rv fun x m => by
    obtain ⟨t, e, _⟩ := hx x m
    exact ⟨t, e⟩
  have hzi : its.length ≤ sizeLine := by rw [← rv.length]; exact hz
  refine Calls.call_function_entry PyProof.Rows.kind_sorted PyProof.Rows.plain_sorted PyProof.Rows.entry_sorted (PyProof.Rows.args_sorted1 _) ?_
  unfold Builtin.«sorted»
  refine wpAny_bind (m := checkCount "sorted" 1 1 _) (wpAny_pure ?_)
  refine wpAny_bind (collect_tup hl ?_ hzi)
  have kp : ∀ b ob, s.heap.get? b = some ob → ((s.heap.push (seqObj "list" #[] 0)).update s.heap.objs.size (Obj.mapSeq (· ++ its.toArray))).get? b = some ob := fun b ob e => by
    rw [Heap.get?_update_ne _ _ _ _ (Nat.ne_of_lt (Heap.lt_size e))]
    exact Heap.get?_push_of_some _ e
  generalize (s.heap.push (seqObj "list" #[] 0)).update s.heap.objs.size (Obj.mapSeq (· ++ its.toArray)) = h' at kp
  have I1 : Inv X pins σ H { s with heap := h' } := I.kept (t' := s.toks) kp
  refine wpAny_bind (wpAny_newList ?_ hzi)
  have hoL : (h'.push (seqObj "list" its.toArray 0)).get? h'.objs.size = some (seqObj "list" its.toArray 0) := Heap.get?_push_size _ rfl
  show wpAny _ _ _ _ _ { s with heap := h'.push (seqObj "list" its.toArray 0) }
  have I2 : Inv X pins σ H { s with heap := h'.push (seqObj "list" its.toArray 0) } := I1.kept (t' := s.toks) fun b ob e => Heap.get?_push_of_some _ e
  have hp : ∀ v ∈ its, Srt.IsPair (h'.push (seqObj "list" its.toArray 0)) v (kOf H (backV v)).1 (kOf H (backV v)).2 := fun v hv => by
    obtain ⟨t, rfl⟩ := e2 v hv
    have hm : V.ref t ∈ vs := by rw [e1]; exact List.mem_map.mpr ⟨_, hv, rfl⟩
    obtain ⟨t', e, ht⟩ := hx _ hm
    cases e
    obtain ⟨_, its2, r2, o', ho', hc', n', hd'⟩ := I2.hok _ _ ht
    obtain ⟨u1, u2, rfl, ri, rj⟩ := vals2 r2
    obtain ⟨t1, rfl⟩ := ri
    obtain ⟨t2, rfl⟩ := rj
    exact ⟨t, o', t1, t2, n', rfl, ho', hc', hd'⟩
  refine wpAny_bind (wpAny_holding (wpAny_call_entry PyProof.Rows.slot_list_sort ⟨_, hoL, rfl⟩ PyProof.Rows.entry_list_sort
    (SrtO.list_sort_ord (s := { s with heap := h'.push (seqObj "list" its.toArray 0) }) (SrtO.swo_lex fun u => kOf H (backV u)) hoL hzi (fun h2 => SrtO.pairs_sortableO (by omega) hp fun o' e => ?_) fun out h1 h2 => ⟨_, rfl, ?_⟩) (PyProof.Rows.args_list_sort _)))
  · have e' : some o' = some (seqObj "list" its.toArray 0) := e.symm.trans hoL
    cases e'
    intro c
    exact absurd (Value.type.inj c) (by decide)
  · have h3 : ∀ u ∈ out, ∃ a, u = Value.ref a := fun u hu => e2 u (h2.perm.mem_iff.mp hu)
    obtain ⟨e', he'⟩ := PyProof.Rows.sortedHeap_at (vs := its) (out := out.toArray) hoL
    have hb : SrtO.Stb (ltP (kOf H)) (out.map backV) vs := by
      rw [e1]
      exact SrtO.Stb.map (ltP_swo (kOf H)) backV h2
    have hlen : (out.map backV).length ≤ sizeLine := by
      rw [hb.len]
      exact hz
    refine wpAny_pure ⟨_, rfl, .ref h'.objs.size, upd H h'.objs.size (.lst (out.map backV)), I1.laid (t' := s.toks) (fun b u e => ?_) (Nat.le_refl _) ⟨hlen, out, e', vals_back h3, he'⟩, rfl, q _ _ (SrtO.srtd_map h1) hb (I1.hok.fresh (Nat.le_refl _))⟩
    have hlt := Heap.lt_size e
    show (PyProof.Rows.sortedHeap (h'.push (seqObj "list" its.toArray 0)) h'.objs.size its out.toArray).get? b = some u
    rw [PyProof.Rows.sortedHeap_old (Nat.ne_of_lt hlt) (by rw [PyProof.Rows.size_push']; exact Nat.lt_succ_of_lt hlt)]
    exact Heap.get?_push_of_some _ e
/-- sorted(d), d a dict whose keys are pairs of ints -/
theorem sorted_dT (hcalm : X.calm = true) : CallR X (.builtin "sorted") (fun xs H Q => ∃ (a : Addr) (kvs : List (List Key × V)), xs = [.ref a] ∧ H a = some (.dT kvs) ∧ (∀ kv ∈ kvs, ∃ i j : Int, kv.1 = [Sum.inl i, Sum.inl j]) ∧
    ∀ (bs : List Addr) (ys : List V) (p : Addr), IsKeys H kvs bs → SrtO.Srtd (ltP (kOf H)) ys → SrtO.Stb (ltP (kOf H)) ys (bs.map V.ref) → H p = none → Q (.ref p) (upd H p (.lst ys))) := by
  intro pins s σ H xs us Q I r q
  obtain ⟨d, kvs, rfl, hd, hks, q⟩ := q
  obtain ⟨u, rfl, rx⟩ := r.one
  cases rx
  obtain ⟨z, hs, ks, pr, o, es, ep, ho, hx, hdt, he, hn⟩ := (show ObjOk X.prog X.w H s.heap d (.dT kvs) from I.hok _ _ hd)
  have l1 : es.size = ks.length := size_of_entries he
  have l2 : kvs.length = ks.length := Paired.length pr
  refine Calls.call_function_entry PyProof.Rows.kind_sorted PyProof.Rows.plain_sorted PyProof.Rows.entry_sorted (PyProof.Rows.args_sorted1 _) ?_
  unfold Builtin.«sorted»
  refine wpAny_bind (m := checkCount "sorted" 1 1 _) (wpAny_pure ?_)
  refine wpAny_bind (PySem.W.kdu_collect (A := X.A.in1) (kdl_raw hs hx hdt) (I.ok.hd hcalm) ho (by omega) fun h' tk acc hk it => ?_)
  have ea : acc.toList = ks.map fun x => Value.ref x.2.1 := by
    have hl : acc.toList.length = ks.length := by rw [Array.length_toList, it.1]; exact l1
    apply List.ext_getElem?
    intro j
    rw [List.getElem?_map]
    cases hj : acc.toList[j]? with
    | none =>
      have h1 := List.getElem?_eq_none_iff.mp hj
      rw [List.getElem?_eq_none (by omega)]
      all_goals rfl
    | some v =>
      obtain ⟨en, hen, hv⟩ := it.2 j v (by rw [← Array.getElem?_toList]; exact hj)
      have qe := entry_at he j
      rw [hen] at qe
      cases hb : ks[j]? with
      | none =>
        rw [hb] at qe
        exact nomatch (show some en = none from qe)
      | some b =>
        rw [hb] at qe
        have e2 : en = entryOfKey (tupleKind (mixKind X.prog X.w)) b := Option.some.inj qe
        rw [hv, e2]
        all_goals rfl
  have I1 : Inv X pins σ H { s with heap := h', toks := tk } := I.kept hk
  have hz : acc.toList.length ≤ sizeLine := by rw [ea, List.length_map]; omega
  refine wpAny_bind (wpAny_newList ?_ hz)
  have hoL : (h'.push (seqObj "list" acc.toList.toArray 0)).get? h'.objs.size = some (seqObj "list" acc.toList.toArray 0) := Heap.get?_push_size _ rfl
  show wpAny _ _ _ _ _ { s with heap := h'.push (seqObj "list" acc.toList.toArray 0), toks := tk }
  have I2 : Inv X pins σ H { s with heap := h'.push (seqObj "list" acc.toList.toArray 0), toks := tk } := I1.kept (t' := tk) fun b ob e => Heap.get?_push_of_some _ e
  have kinfo : ∀ x ∈ ks, ∃ i j : Int, H x.2.1 = some (.tup [.int i, .int j]) := by
    intro x hx'
    obtain ⟨n, hn1, hn2⟩ := List.getElem_of_mem hx'
    have hlt : n < kvs.length := by omega
    obtain ⟨kv, hkv⟩ : ∃ kv, kvs[n]? = some kv := ⟨kvs[n], List.getElem?_eq_getElem hlt⟩
    have pr' : Paired (fun p q => p.1 = q.1 ∧ H q.2.1 = some (.tup (p.1.map kV)) ∧ RelV p.2 q.2.2) kvs ks := pr
    obtain ⟨y, h1, h2⟩ := paired_get (j := n) (x := x) pr' (by rw [List.getElem?_eq_getElem hn1, hn2])
    rw [hkv] at h1
    cases h1
    obtain ⟨i, j, ek⟩ := hks kv (List.mem_of_getElem? hkv)
    refine ⟨i, j, ?_⟩
    rw [h2.2.1, ek]
    rfl
  have hp : ∀ v ∈ acc.toList, Srt.IsPair (h'.push (seqObj "list" acc.toList.toArray 0)) v (kOf H (backV v)).1 (kOf H (backV v)).2 := fun v hv => by
    rw [ea] at hv
    obtain ⟨x, hx', rfl⟩ := List.mem_map.mp hv
    obtain ⟨i, j, e⟩ := kinfo x hx'
    have ek : kOf H (backV (Value.ref x.2.1)) = (i, j) := by
      show (match H x.2.1 with | some (HO.tup [V.int i, V.int j]) => (i, j) | _ => (0, 0)) = (i, j)
      rw [e]
    rw [ek]
    obtain ⟨_, its2, r2, o', ho', hc', n', hd'⟩ := I2.hok _ _ e
    obtain ⟨u1, u2, rfl, ri, rj⟩ := vals2 r2
    obtain ⟨t1, rfl⟩ := ri
    obtain ⟨t2, rfl⟩ := rj
    exact ⟨x.2.1, o', t1, t2, n', rfl, ho', hc', hd'⟩
  refine wpAny_bind (wpAny_holding (wpAny_call_entry PyProof.Rows.slot_list_sort ⟨_, hoL, rfl⟩ PyProof.Rows.entry_list_sort
    (SrtO.list_sort_ord (s := { s with heap := h'.push (seqObj "list" acc.toList.toArray 0), toks := tk }) (SrtO.swo_lex fun u => kOf H (backV u)) hoL hz (fun h2 => SrtO.pairs_sortableO (by omega) hp fun o' e => ?_) fun out h1 h2 => ⟨_, rfl, ?_⟩) (PyProof.Rows.args_list_sort _)))
  · have e' : some o' = some (seqObj "list" acc.toList.toArray 0) := e.symm.trans hoL
    cases e'
    intro c
    exact absurd (Value.type.inj c) (by decide)
  · have eb : (ks.map fun x => x.2.1).map V.ref = acc.toList.map backV := by
      rw [ea, List.map_map, List.map_map]
      rfl
    have h3 : ∀ u ∈ out, ∃ a, u = Value.ref a := fun u hu => by
      have := h2.perm.mem_iff.mp hu
      rw [ea] at this
      obtain ⟨x, _, rfl⟩ := List.mem_map.mp this
      exact ⟨_, rfl⟩
    obtain ⟨e', he'⟩ := PyProof.Rows.sortedHeap_at (vs := acc.toList) (out := out.toArray) hoL
    have hb : SrtO.Stb (ltP (kOf H)) (out.map backV) ((ks.map fun x => x.2.1).map V.ref) := by
      rw [eb]
      exact SrtO.Stb.map (ltP_swo (kOf H)) backV h2
    have hlen : (out.map backV).length ≤ sizeLine := by
      rw [hb.len, List.length_map, List.length_map]
      omega
    refine wpAny_pure ⟨_, rfl, .ref h'.objs.size, upd H h'.objs.size (.lst (out.map backV)), I1.laid (t' := tk) (fun b u e => ?_) (Nat.le_refl _)
      (show ObjOk X.prog X.w _ _ _ (.lst (out.map backV)) from ⟨hlen, out, e', vals_back h3, he'⟩), rfl, q _ _ _ (isKeys_of pr) (SrtO.srtd_map h1) hb (I1.hok.fresh (Nat.le_refl _))⟩
    have hbs : b < h'.objs.size := Heap.lt_size e
    rw [PyProof.Rows.sortedHeap_old (Nat.ne_of_lt hbs) (by rw [size_push']; exact Nat.lt_succ_of_lt hbs)]
    exact Heap.get?_push_of_some _ e
end
/-! ### by data -/
def pairKey : List Key → Option (Int × Int)
  | [Sum.inl i, Sum.inl j] => some (i, j)
  | _ => none
def keysP : List (List Key × D) → Option (List (Int × Int))
  | [] => some []
  | kv :: r => (pairKey kv.1).bind fun p => (keysP r).map (p :: ·)
def keyP (p : Int × Int) : List Key := [Sum.inl p.1, Sum.inl p.2]
theorem pairKey_eq {k : List Key} {p : Int × Int} (h : pairKey k = some p) : k = keyP p := by
  unfold pairKey at h
  split at h
  · cases h
    rfl
  · cases h
theorem keysP_eq : ∀ {kvs : List (List Key × D)} {ps : List (Int × Int)}, keysP kvs = some ps → kvs.map (·.1) = ps.map keyP
  | [], ps, h => by
    cases h
    rfl
  | kv :: r, ps, h => by
    unfold keysP at h
    cases e : pairKey kv.1 with
    | none =>
      rw [e] at h
      cases h
    | some p =>
      rw [e, Option.bind_some] at h
      cases e2 : keysP r with
      | none =>
        rw [e2] at h
        cases h
      | some q =>
        rw [e2] at h
        cases h
        rw [List.map_cons, List.map_cons, ← pairKey_eq e, keysP_eq e2]
def dSort : List D → Option D
  | [.dic kvs] => (keysP kvs).map fun ps => .lst ((sortP ps).map tupP)
  | [.tup ts] => (pairsOf ts).map fun ps => .lst ((sortP ps).map tupP)
  | ds => dSorted ds
theorem keys_kOf {H : Hp} : ∀ {kvs : List (List Key × V)} {bs : List Addr} {ps : List (Int × Int)}, IsKeys H kvs bs → kvs.map (·.1) = ps.map keyP → (bs.map V.ref).map (kOf H) = ps ∧ ∀ b ∈ bs, H b = some (.tup [.int (kOf H (.ref b)).1, .int (kOf H (.ref b)).2])
  | [], _, [], .nil, _ => ⟨rfl, fun b hb => by cases hb⟩
  | kv :: kvs, _, p :: ps, .cons (b := b) (l₂ := bs) h r, e => by
    rw [List.map_cons, List.map_cons] at e
    obtain ⟨e1, e2⟩ := List.cons.inj e
    obtain ⟨h1, h2⟩ := keys_kOf (kvs := kvs) (ps := ps) r e2
    have hb : H b = some (.tup [.int p.1, .int p.2]) := by
      have h' : H b = some (.tup (kv.1.map kV)) := h
      rw [h', e1]
      rfl
    have ek : kOf H (.ref b) = p := by
      show (match H b with | some (HO.tup [V.int i, V.int j]) => (i, j) | _ => (0, 0)) = p
      rw [hb]
    refine ⟨?_, fun c hc => ?_⟩
    · rw [List.map_cons, List.map_cons, ek, h1]
    · rcases List.mem_cons.mp hc with rfl | hc
      · rw [ek]
        exact hb
      · exact h2 c hc
  | [], _, _ :: _, .nil, e => by cases e
  | _ :: _, _, [], _, e => by cases e
section
variable {X : Cx} {F : Fm} {pos : Pos}
theorem call_sortP (hc : X.calm = true) : CallR X (.builtin "sorted") (rDC X.K dSort) := by
  intro pins s σ H xs us Q I rv h
  obtain ⟨S, ds, d, sd, rs, e, q⟩ := h
  unfold dSort at e
  split at e
  · next kds =>
    obtain ⟨v, rfl, r⟩ := Paired.one_inv rs
    obtain ⟨a, vx, rfl, ha, ra⟩ := r.dic_inv
    cases ek : keysP kds with
    | none =>
      rw [ek] at e
      cases e
    | some ps =>
      rw [ek] at e
      cases e
      have hk := keysP_eq ek
      rw [← ra.keys] at hk
      refine sorted_dT hc pins s σ H _ us Q I rv ⟨a, vx, rfl, ha, fun kv hkv => ?_, fun bs ys p ik h1 h2 np => ?_⟩
      · have : kv.1 ∈ ps.map keyP := by
          rw [← hk]
          exact List.mem_map.mpr ⟨kv, hkv, rfl⟩
        obtain ⟨p, _, e⟩ := List.mem_map.mp this
        exact ⟨p.1, p.2, e.symm⟩
      · obtain ⟨k1, k2⟩ := keys_kOf ik hk
        have hm : ∀ y ∈ ys, Rp X.K (hide H S) y (tupP (kOf H y)) := fun y hy => by
          obtain ⟨b, hb, rfl⟩ := List.mem_map.mp (h2.perm.mem_iff.mp hy)
          have eb := k2 b hb
          have nb : b ∉ S := fun z => by
            obtain ⟨o, eo, m⟩ := sd b z
            rw [eb] at eo
            cases eo
            cases m
          exact .tup (by rw [hide_of nb]; exact eb) (.cons (.int _) (.cons (.int _) .nil))
        have e1 : ys.map (kOf H) = sortP ps := by
          refine sort_of leP_tot leP_tr leP_anti ?_ ?_
          · rw [← k1]
            exact h2.perm.map _
          · refine List.pairwise_map.mpr (List.Pairwise.imp ?_ h1)
            intro x y h
            have := SrtO.lexB_no.mp h
            rw [leP_iff]
            omega
        have e2 := rpl_map (H := H) hm
        rw [show (ys.map fun y => tupP (kOf H y)) = (ys.map (kOf H)).map tupP by rw [List.map_map]; rfl, e1] at e2
        exact q _ _ (same_new np) (new_lst sd np e2)
  · next ts =>
    obtain ⟨v, rfl, r⟩ := Paired.one_inv rs
    obtain ⟨a, vx, rfl, ha, ra⟩ := r.tup_inv
    cases ep : pairsOf ts with
    | none =>
      rw [ep] at e
      cases e
    | some ps =>
      rw [ep] at e
      cases e
      have := pairsOf_eq ep
      subst this
      refine sorted_tP pins s σ H _ us Q I rv ⟨a, vx, rfl, ha, fun x hx => ?_, fun ys p hs ht np => ?_⟩
      · exact (kOf_of hide_ex (rpl_of_mem hide_ex ra x hx)).1
      · have hm : ∀ y ∈ ys, Rp X.K (hide H S) y (tupP (kOf H y)) := fun y hy => rpl_of_mem hide_ex ra y (ht.perm.mem_iff.mp hy)
        have e1 : ys.map (kOf H) = sortP ps := by
          refine sort_of leP_tot leP_tr leP_anti ?_ ?_
          · rw [← kOf_map hide_ex ra]
            exact ht.perm.map _
          · refine List.pairwise_map.mpr (List.Pairwise.imp ?_ hs)
            intro x y h
            have := SrtO.lexB_no.mp h
            rw [leP_iff]
            omega
        have e2 := rpl_map (H := H) hm
        rw [show (ys.map fun y => tupP (kOf H y)) = (ys.map (kOf H)).map tupP by rw [List.map_map]; rfl, e1] at e2
        exact q _ _ (same_new np) (new_lst sd np e2)
  · exact call_sortedP pins s σ H _ us Q I rv ⟨S, _, d, sd, rs, e, q⟩
/-! ### {k: v} -/
theorem dict_display {prog : Program} {w : World} {κ : Type} [DecidableEq κ] {knd : HeapKind prog w κ} {A : Around} {E : Value → Shared → Prop} {s : Shared} {env : Env} {keys : List (Option Expr)} {values : List Expr} {pos : Pos} {pairs : List (Sem Value × Sem Value)} {Q : Value → Shared → Prop} (hu : knd.room A)
    (hshape : (evalEachOpt keys env).zip ((evalEach values env).map fun v => do let x ← v; standAt pos; pure x) = pairs.map fun p => (some p.1, p.2)) (h0 : pairs ≠ []) (hlen : pairs.length ≤ 15)
    (h : wpAny (model prog w) A (evalPairs pairs) (fun vs s₁ => ∃ ps, CarriesH knd s₁.heap vs ps ∧ s₁.heap.DictOfH knd s.heap.objs.size [] ∧
      ∀ h' tk, h'.DictOfH knd s.heap.objs.size (storedAllH [] ps) → Heap.SameBut s.heap.objs.size s₁.heap h' → Q (.ref s.heap.objs.size) { s₁ with heap := h', toks := tk }) E
      { s with heap := s.heap.push { cls := .type "dict", data := .dict #[] } }) :
    wpAny (model prog w) A (eval (.Dict keys values pos) env) Q E s := by
  rw [arm_eval_Dict, hshape, dictDisplay_pairs pairs h0 (by omega)]
  exact wpAny_bind (wpAny_standAt (wpAny_bind (wpAny_subDictH (knd := knd) (Q := fun d s' => wpAny (model prog w) A (pure (Value.ref d)) Q E s') hu hlen
    (wpAny_mono h (fun vs s₁ h₁ => by obtain ⟨ps, hc, hm, hq⟩ := h₁; exact ⟨ps, hc, hm, fun h' tk a b => wpAny_pure (hq h' tk a b)⟩) fun _ _ e => e))))
def eD1 (sk sv : Rho → Res D) : Rho → Res D := fun ρ => (sk ρ).bind fun k => (Res.of (keyD k)).bind fun key => (sv ρ).bind fun v => .ok (.dic [(key, v)])
theorem df_d1 {k v : Expr} {sk sv : Rho → Res D} (hu : X.A.units + 100 < cLine) (hk : DP X F k sk) (hv : DP X F v sv) : DF X F (.Dict [some k] [v] pos) (eD1 sk sv) := by
  refine ⟨fun pins s σ H Q I h => ?_⟩
  obtain ⟨S, ρ, ok, q⟩ := h
  have np := I.hok.fresh (Nat.le_refl s.heap.objs.size)
  have I1 := I.laid (a := s.heap.objs.size) (o := .dT []) (h' := s.heap.push { cls := .type "dict", data := .dict #[] }) (t' := s.toks) (fun _ _ q => Heap.get?_push_of_some _ q) (Nat.le_refl _) (dt_empty s.heap I.big)
  have s1 : Same H (upd H s.heap.objs.size (.dT [])) := same_new np
  have ok1 := ok.hid (F.gr.same s1) (Nt.of np) upd_same (.dT [])
  have pp : PPs X pos [some k] [v] [(_, _)] := pps_cons hk hv pps_nil
  refine dict_display (knd := tupleKind (mixKind X.prog X.w)) (pairs := pairTrees [some k] [v] X.env pos) (show X.A.units < cLine by omega) (zip_pairTrees _ _ _ _ rfl rfl) (by intro z; cases z) (show 1 ≤ 15 by decide)
    (thn (pp.run pins _ σ _ (fun vs H2 => ∃ (kk : List Key) (b : Addr) (y : V) (dd : D), vs = [(.ref b, y)] ∧ H2 b = some (.tup (kk.map kV)) ∧ F.G (upd H s.heap.objs.size (.dT [])) H2 ∧ Rp X.K (hide H2 (s.heap.objs.size :: S)) y dd ∧ PostK X.K (kdF X.K F) S H Q (.ok (.dic [(kk, dd)])))
      I1 ⟨_, ρ, ok1, ?_⟩) fun ws s2 ⟨ps, H2, I2, rel, kk, b, y, dd, ev, hb, g2, ry, q2⟩ => ?_)
  · unfold eD1 at q
    cases e1 : sk ρ with
    | err c =>
      rw [e1] at q
      exact q
    | stuck =>
      rw [e1] at q
      exact q
    | ok kd =>
      rw [e1] at q
      intro x H1 g1 rx
      cases kd with
      | tup ks =>
        cases ek : keyOf ks with
        | none =>
          change PostK _ _ _ _ _ ((Res.of (keyOf ks)).bind _) at q
          rw [ek] at q
          exact q.elim
        | some key =>
          change PostK _ _ _ _ _ ((Res.of (keyOf ks)).bind _) at q
          rw [ek] at q
          change PostK _ _ _ _ _ ((sv ρ).bind _) at q
          refine ⟨_, ρ, ok1.up g1, ?_⟩
          cases e2 : sv ρ with
          | err c =>
            rw [e2] at q
            exact q
          | stuck =>
            rw [e2] at q
            exact q
          | ok dd =>
            rw [e2] at q
            intro y H2 g2 ry
            cases rx with
            | @tup b xs _ h1 h2 =>
              have e3 := h2.keys ek
              subst e3
              exact ⟨key, b, y, dd, rfl, F.gr.ex g2 _ _ (hide_in h1).2 (fun ps z => by cases z), F.gr.trans g1 g2, ry, q⟩
      | _ => exact q.elim
  · subst ev
    have hp2 : H2 s.heap.objs.size = some (.dT []) := F.gr.ex g2 _ _ upd_same fun ps z => by cases z
    cases rel with
    | @cons _ w' _ _ rel rr =>
      cases rr
      obtain ⟨w1, w2⟩ := w'
      obtain ⟨r1, r2⟩ := rel
      cases (show w1 = Value.ref b from r1)
      obtain ⟨z, hd, xs, rl, dd'⟩ := dt_of I2.hok hp2
      cases rl
      refine ⟨[(kk, b, w2)], ⟨rfl, rfl, key_of I2.hok hb, trivial⟩, dd', fun h' tk hdk hs => ?_⟩
      have hdk' : h'.DictOfH (tupleKind (mixKind X.prog X.w)) s.heap.objs.size [(kk, b, w2)] := hdk
      obtain ⟨q', es, ep, hq, h2, h3, h4, _, h5⟩ := hdk'
      have nb : b ≠ s.heap.objs.size := fun z => by
        subst z
        rw [hp2] at hb
        cases hb
      have ne : ∀ c ys, H2 c = some (.tup ys) → upd H2 s.heap.objs.size (.dT [(kk, y)]) c = some (.tup ys) := fun c ys ec => by
        rw [upd_ne (fun z => by
          subst z
          rw [hp2] at ec
          cases ec)]
        exact ec
      have kt : KT (upd H2 s.heap.objs.size (.dT [(kk, y)])) [(kk, y)] [(kk, b, w2)] := .cons ⟨rfl, ne _ _ hb, r2⟩ .nil
      refine ⟨.ref s.heap.objs.size, upd H2 s.heap.objs.size (.dT [(kk, y)]), d_write (t' := tk) I2 (by rw [hp2]; exact True.intro) hs ⟨q', hq⟩ ⟨by show 1 ≤ sizeLine; decide, hd, _, kt, q', es, ep, hq, h2, h3, h4, h5⟩, rfl, ?_⟩
      refine q2 _ _ (F.gr.mu (F.gr.trans (F.gr.same s1) g2) (Nt.of np) hp2 (.dT _)) (Nt.of np) (.dic (List.mem_cons_self ..) upd_same (.cons ?_ .nil))
      rw [hide_upd (List.mem_cons_self ..)]
      exact ry
end
end DL

set_option Elab.async false
set_option linter.all false
set_option maxRecDepth 100000
set_option maxHeartbeats 1000000
/-! DL14: dict(pairs). -/
namespace DL
open PySem PySem.Spec PyProof.Rows L2
abbrev KB := List Key × Addr × V
def mergeB (acc : List (List Key × V)) (kbs : List KB) : List (List Key × V) := kbs.foldl (fun acc x => putK acc x.1 x.2.2) acc
theorem mergeB_len : ∀ (kbs : List KB) (acc : List (List Key × V)), (mergeB acc kbs).length ≤ acc.length + kbs.length
  | [], acc => by show acc.length ≤ acc.length + 0; omega
  | x :: r, acc => by
    have h1 := mergeB_len r (putK acc x.1 x.2.2)
    have h2 := length_putK acc x.1 x.2.2
    show (mergeB (putK acc x.1 x.2.2) r).length ≤ _
    rw [List.length_cons]
    omega
theorem KT_merge {H : Hp} : ∀ {kbs : List KB} {ws : List (List Key × Addr × Value)} {acc : List (List Key × V)} {ax : List (List Key × Addr × Value)}, Paired (fun x y => x.1 = y.1 ∧ x.2.1 = y.2.1 ∧ H x.2.1 = some (.tup (x.1.map kV)) ∧ RelV x.2.2 y.2.2) kbs ws → KT H acc ax → KT H (mergeB acc kbs) (storedAllH ax ws)
  | [], _, _, _, .nil, r => r
  | x :: kbs, _, acc, ax, .cons (b := y) (l₂ := ws) h t, r => by
    obtain ⟨e1, e2, e3, e4⟩ := h
    have := KT_merge (kbs := kbs) t (r.put x.1 e3 e4)
    rw [e1, e2] at this
    show KT H (mergeB (putK acc x.1 x.2.2) kbs) (storedAllH (storedH ax y.1 y.2.1 y.2.2) ws)
    rw [e1]
    exact this
theorem paired_get2 {α β : Type} {R : α → β → Prop} : ∀ {l₁ : List α} {l₂ : List β} {j : Nat} {x : α}, Paired R l₁ l₂ → l₁[j]? = some x → ∃ y, l₂[j]? = some y ∧ R x y
  | _, _, 0, _, .cons h _, e => by
    simp at e
    subst e
    exact ⟨_, rfl, h⟩
  | _, _, j + 1, _, .cons _ r, e => by
    obtain ⟨y, h1, h2⟩ := paired_get2 (j := j) r (by simpa using e)
    exact ⟨y, by simpa using h1, h2⟩
  | _, _, _, _, .nil, e => by simp at e
section
variable {X : Cx}
def PairsAt (H : Hp) (ts : List Addr) (kbs : List KB) : Prop := Paired (fun t x => H t = some (.tup [.ref x.2.1, x.2.2]) ∧ H x.2.1 = some (.tup (x.1.map kV))) ts kbs
theorem pairs_heap {pins : List (Addr × Obj)} {s : Shared} {σ : L2.St} {H : Hp} (I : Inv X pins σ H s) : ∀ {ts : List Addr} {kbs : List KB}, PairsAt H ts kbs →
    ∃ ws : List (List Key × Addr × Value), Paired (fun x y => x.1 = y.1 ∧ x.2.1 = y.2.1 ∧ H x.2.1 = some (.tup (x.1.map kV)) ∧ RelV x.2.2 y.2.2) kbs ws ∧ Paired (fun t y => PairAt s.heap t (.ref y.2.1) y.2.2) ts ws
  | [], _, .nil => ⟨[], .nil, .nil⟩
  | t :: ts, _, .cons (b := x) (l₂ := kbs) h r => by
    obtain ⟨ws, h1, h2⟩ := pairs_heap I r
    obtain ⟨_, its2, r2, o, ho, hc, n, hd⟩ := I.hok _ _ h.1
    obtain ⟨u1, u2, rfl, ri, rj⟩ := vals2 r2
    cases (show u1 = Value.ref x.2.1 from ri)
    exact ⟨(x.1, x.2.1, u2) :: ws, .cons ⟨rfl, rfl, h.2, rj⟩ h1, .cons (.inl ⟨o, ho, hc, n, hd⟩) h2⟩
theorem dict_list (hcalm : X.calm = true) (hu : X.A.units + 100 < cLine) : CallR X (.type "dict") (fun xs H Q => ∃ (a : Addr) (ts : List Addr) (kbs : List KB), xs = [.ref a] ∧ H a = some (.lst (ts.map V.ref)) ∧ PairsAt H ts kbs ∧
    ∀ p, H p = none → Q (.ref p) (upd H p (.dT (mergeB [] kbs)))) := by
  intro pins s σ H xs us Q I r q
  obtain ⟨a, ts, kbs, rfl, ha, pr, q⟩ := q
  obtain ⟨u, rfl, rx⟩ := r.one
  cases rx
  obtain ⟨hz, its, n, rv, hob⟩ := I.hok a _ ha
  obtain ⟨ws, pw, pa⟩ := pairs_heap I pr
  have l1 : ts.length = ws.length := Paired.length pa
  have l2 : kbs.length = ws.length := Paired.length pw
  have l3 : its.length = ts.length := by
    have := rv.length
    rw [List.length_map] at this
    exact this.symm
  have hzt : ts.length ≤ sizeLine := by
    rw [List.length_map] at hz
    exact hz
  have hits : ∀ j t, ts[j]? = some t → its[j]? = some (Value.ref t) := fun j t e => by
    obtain ⟨w', h1, h2⟩ := rv.get (i := j) (x := V.ref t) (by rw [List.getElem?_map, e]; rfl)
    cases (show w' = Value.ref t from h2)
    exact h1
  have hP := PairArg.list (prog := X.prog) (w := X.w) a its.toArray (fun j => ts.getD j 0) (ws.map fun x => (Value.ref x.2.1, x.2.2))
  have hsys : (s.heap.objs.size == sysModules) = false := beq_eq_false_iff_ne.mpr (Nat.ne_of_gt I.big)
  have hwl : (ws.map fun x => ((Value.ref x.2.1 : Value), x.2.2)).length = ws.length := List.length_map ..
  refine call_dict_pairsH (knd := tupleKind (mixKind X.prog X.w)) (ps := ws) hP (I.ok.hd hcalm) (show X.A.units + 1 + 1 < cLine by omega) ⟨⟨_, n, hob, rfl, rfl, rfl⟩, ⟨by simp; omega, fun j k v e => ?_⟩⟩ ⟨hwl.symm, fun i key v e => ?_⟩ (fun h' hk x hx => ?_) (by rw [hwl]; omega) fun h' tk hd hk => ?_
  · rw [List.getElem?_map] at e
    cases ew : ws[j]? with
    | none =>
      rw [ew] at e
      cases e
    | some y =>
      rw [ew] at e
      cases e
      obtain ⟨t, h1, h2⟩ := paired_get pa ew
      have e2 : ts.getD j 0 = t := by rw [List.getD_eq_getElem?_getD, h1]; rfl
      show its.toArray[j]? = some (Value.ref (ts.getD j 0)) ∧ PairAt s.heap (ts.getD j 0) (Value.ref y.2.1) y.2.2
      rw [e2]
      exact ⟨by simpa using hits j t h1, h2⟩
  · have e' : (ws.map fun x => ((Value.ref x.2.1 : Value), x.2.2))[i]? = some (key, v) := e
    rw [List.getElem?_map] at e'
    cases ew : ws[i]? with
    | none =>
      rw [ew] at e'
      cases e'
    | some y =>
      rw [ew] at e'
      cases e'
      exact ⟨y.1, y.2.1, rfl, rfl⟩
  · obtain ⟨j, hj, e⟩ := List.getElem_of_mem hx
    obtain ⟨y, h1, h2⟩ := paired_get pw (x := x) (j := j) (by rw [List.getElem?_eq_getElem hj, e])
    obtain ⟨e1, e2, e3, e4⟩ := h2
    rw [← e1, ← e2]
    obtain ⟨o, its', n', k1, k2, k3, k4⟩ := key_of I.hok e3
    exact ⟨o, its', n', hk _ _ (Nat.ne_of_lt (Heap.lt_size k1)) (by simp) k1, k2, k3, k4⟩
  · have hlen : (mergeB [] kbs).length ≤ sizeLine := by
      have := mergeB_len kbs []
      rw [List.length_nil] at this
      omega
    have np := I.hok.fresh (Nat.le_refl s.heap.objs.size)
    have kt : KT H (mergeB [] kbs) (storedAllH [] ws) := KT_merge pw .nil
    obtain ⟨q', es, ep, hq, h2, h3, h4, _, h5⟩ := hd
    refine ⟨.ref s.heap.objs.size, upd H s.heap.objs.size (.dT (mergeB [] kbs)), I.laid (t' := tk) (fun b o e => hk b o (by simp) e) (Nat.le_refl _) ⟨hlen, hsys, _, kt.keeps fun b ys e => ?_, q', es, ep, hq, h2, h3, h4, h5⟩, rfl, q _ np⟩
    rw [upd_ne (ne_of_none e np)]
    exact e
end
/-! ### by data -/
def mergeD (acc : List (List Key × D)) (kvs : List (List Key × D)) : List (List Key × D) := kvs.foldl (fun acc x => putD acc x.1 x.2) acc
def pairKV : D → Option (List Key × D)
  | .tup [.tup ks, v] => (keyOf ks).map fun k => (k, v)
  | _ => none
def pairsKV : List D → Option (List (List Key × D))
  | [] => some []
  | d :: r => (pairKV d).bind fun p => (pairsKV r).map (p :: ·)
def dDict : List D → Option D
  | [.lst ds] => (pairsKV ds).map fun kvs => .dic (mergeD [] kvs)
  | _ => none
theorem RpL.pairsKV {K : PySem.W.Frag} {H H' : Hp} (x : Ex H' H) : ∀ {ds : List D} {vs : List V} {kvs : List (List Key × D)}, RpL K H' vs ds → DL.pairsKV ds = some kvs →
    ∃ ts kbs, vs = ts.map V.ref ∧ PairsAt H ts kbs ∧ Paired (fun (y : KB) (z : List Key × D) => y.1 = z.1 ∧ Rp K H' y.2.2 z.2) kbs kvs
  | [], _, _, .nil, e => by
    cases e
    exact ⟨[], [], rfl, .nil, .nil⟩
  | d :: ds, _, kvs, .cons (v := v) (vs := vs) h r, e => by
    unfold DL.pairsKV at e
    cases e1 : pairKV d with
    | none =>
      rw [e1] at e
      cases e
    | some p =>
      rw [e1, Option.bind_some] at e
      cases e2 : DL.pairsKV ds with
      | none =>
        rw [e2] at e
        cases e
      | some q =>
        rw [e2] at e
        cases e
        obtain ⟨ts, kbs, h1, h2, h3⟩ := RpL.pairsKV x r e2
        unfold pairKV at e1
        split at e1
        · next ks w =>
          cases e3 : keyOf ks with
          | none =>
            rw [e3] at e1
            cases e1
          | some k =>
            rw [e3] at e1
            cases e1
            cases h with
            | @tup t xs _ g1 g2 =>
              cases g2 with
              | @cons v1 _ _ _ g3 g4 =>
                cases g4 with
                | @cons v2 _ _ _ g5 g6 =>
                  cases g6
                  cases g3 with
                  | @tup b ys _ g7 g8 =>
                    have e4 := g8.keys e3
                    subst e4
                    refine ⟨t :: ts, (k, b, v2) :: kbs, by rw [h1]; rfl, .cons ⟨x _ _ g1 (fun ps z => by cases z), x _ _ g7 (fun ps z => by cases z)⟩ h2, .cons ⟨rfl, g5⟩ h3⟩
        · cases e1
theorem rpk_merge {K : PySem.W.Frag} {H : Hp} : ∀ {kbs : List KB} {kvs : List (List Key × D)} {acc : List (List Key × V)} {ad : List (List Key × D)}, Paired (fun (y : KB) (z : List Key × D) => y.1 = z.1 ∧ Rp K H y.2.2 z.2) kbs kvs → RpK K H acc ad → RpK K H (mergeB acc kbs) (mergeD ad kvs)
  | [], _, _, _, .nil, r => r
  | y :: kbs, _, acc, ad, .cons (b := z) (l₂ := kvs) h t, r => by
    obtain ⟨e1, e2⟩ := h
    have := rpk_merge t (r.put z.1 e2)
    show RpK K H (mergeB (putK acc y.1 y.2.2) kbs) (mergeD (putD ad z.1 z.2) kvs)
    rw [e1]
    exact this
theorem new_dic {K : PySem.W.Frag} {S : List Addr} {H : Hp} {p : Addr} {xs : List (List Key × V)} {ds : List (List Key × D)} (sd : Sd S H) (np : H p = none) (r : RpK K (hide H S) xs ds) : Rp K (hide (upd H p (.dT xs)) S) (.ref p) (.dic ds) := by
  have hs : p ∉ S := fun c => by
    obtain ⟨o, e, _⟩ := sd p c
    rw [np] at e
    cases e
  exact .dic (by rw [hide_of hs]; exact upd_same) (r.ex (hide_mono (Ex.of (same_new np)) S))
theorem call_dictP {X : Cx} (hc : X.calm = true) (hu : X.A.units + 100 < cLine) : CallR X (.type "dict") (rDC X.K dDict) := by
  intro pins s σ H xs us Q I rv h
  obtain ⟨S, ds, d, sd, rs, e, q⟩ := h
  unfold dDict at e
  split at e
  · next es =>
    cases ek : pairsKV es with
    | none =>
      rw [ek] at e
      cases e
    | some kvs =>
      rw [ek] at e
      cases e
      obtain ⟨v, rfl, r⟩ := Paired.one_inv rs
      obtain ⟨a, vx, rfl, ha, ra⟩ := r.lst_inv
      obtain ⟨ts, kbs, rfl, h2, h3⟩ := ra.pairsKV hide_ex ek
      exact dict_list hc hu pins s σ H _ us Q I rv ⟨a, ts, kbs, rfl, ha, h2, fun p np => q _ _ (same_new np) (new_dic sd np (rpk_merge h3 .nil))⟩
  · cases e
end DL

set_option Elab.async false
set_option linter.all false
set_option maxRecDepth 100000
set_option maxHeartbeats 1000000
/-! DL15: a def that calls what it got and tells. -/
namespace DL
open PySem PySem.Spec PyProof.Rows L2 LamX
/-! ### list.count, list.index of plain data -/
section
variable {X : Cx}
def rCountD (K : PySem.W.Frag) : V → List V → Hp → VK → Prop := fun x xs H Q => ∃ (a : Addr) (y : V) (d : PyData) (ds : List PyData), x = V.ref a ∧ xs = [y] ∧ Dp K H (V.ref a) (.list ds) ∧ Dp K H y d ∧
  SeqAt.shaped (.list ds) = true ∧ SeqAt.shaped d = true ∧ Q (.int (ds.countP fun z => PyData.eqv z d : Nat)) H
theorem mt_countD (hu : X.A.units + 65 < cLine) : MtR X "list.count" (rCountD X.K) := by
  intro pins s σ H x xs v us Q I rx rxs h
  obtain ⟨a, y, d, ds, rfl, rfl, hl, hy, sl, sd, q⟩ := h
  cases rx
  cases rxs with
  | cons ry rt =>
    rename_i uy ut
    cases rt
    obtain ⟨bs, r1⟩ := Dp.reads I d y uy hy ry
    have hxs : PyData.canLayAll0 ds = true := SeqAt.canLay_of_shaped sl
    have hroom : X.A.units + 1 + min (PyData.depthAll ds) d.depth < cLine := room_in_shaped sd hu
    cases hl with
    | lst hs ha =>
      obtain ⟨its, rv, ⟨⟨cls, dd, data, sls⟩, n, ho, hc, hdn, hdt⟩, hlen⟩ := I.list hs
      simp only at hc hdt
      subst hc hdt
      obtain ⟨as, h4⟩ := Dp.readsAll I ds _ its ha rv
      have hmap : its.map (SeqAt.readOf s.heap) = ds := SeqAt.readsAll_map ds its as hxs h4
      refine call_meets PySem.F.slot_list_count ⟨_, ho, rfl⟩ PySem.F.entry_list_count (PySem.F.args_list_count_2 _ _)
        (SeqAt.list_countAt a its.toArray n dd sls uy (fun u => PyData.eqv (SeqAt.readOf s.heap u) d)) ⟨ho, SeqAt.items_eqAt (vs := its.toArray) (show ReadsAll s.heap its.toArray.toList ds as from h4) r1 hxs (SeqAt.canLay_of_shaped sd) hroom, ?_⟩
      have ec : its.toArray.toList.countP (fun u => PyData.eqv (SeqAt.readOf s.heap u) d) = ds.countP fun z => PyData.eqv z d := by
        rw [← hmap, List.countP_map]
        rfl
      refine ⟨.int (ds.countP fun z => PyData.eqv z d : Nat), H, I.tok _, ⟨s.toks, ?_⟩, q⟩
      show Value.int ((its.toArray.toList.countP (fun u => PyData.eqv (SeqAt.readOf s.heap u) d) : Nat) : Int) s.toks = _
      rw [ec]
end
/-! ### isinstance of a caught error -/
def eIsE (i : Nat) (a : Addr) (b : Bool) : Rho → Res D := fun ρ => match ρ[i]? with
  | some (.fz (.opq a')) => if a' = a then .ok (.bl b) else .stuck
  | _ => .stuck
section
variable {X : Cx} {F : Fm} {pos : Pos}
theorem dp_isE {a D Dc : Addr} {oe : Obj} {pn : List (Addr × Obj)} {i : Nat} {x cn : Str} {p p1 p2 : Pos} {b : Bool} (C : ExcC X.K D) (hz : Zc (.ref D) none oe) (hf : ∃ vs, oe.data = .fields vs) (hi : X.mg "isinstance" = none) (hm : X.mg cn = some (.ref Dc)) (hk : PySem.W.kitOne X.K (.ref D) (.ref Dc) = some b)
    (hN : X.N[i]? = some x := by rfl) (hv : Vis X.env.scope x := by first | exact Or.inl rfl | exact Or.inr (Or.inl rfl) | exact Or.inr (Or.inr rfl)) (hg : Gl X "isinstance" := by rfl) (hg2 : Gl X cn := by rfl)
    (hd : (x == ("__debug__" : Str)) = false := by decide) (hcd : (x == ("__classdict__" : Str)) = false := by decide) (hdc : (cn == ("__debug__" : Str)) = false := by decide)
    (hb : bootBuiltins "isinstance" = some (.builtin "isinstance") := by decide +kernel) (hn1 : ("isinstance" : Str) ≠ "__name__" := by decide) (hd1 : (("isinstance" : Str) == ("__debug__" : Str)) = false := by decide)
    (hs2 : starEach [.Name cn p2] X.env = (false, eval (.Name cn p2) X.env) :: starEach [] X.env := by rfl)
    (hs : starEach [.Name x p1, .Name cn p2] X.env = (false, eval (.Name x p1) X.env) :: starEach [.Name cn p2] X.env := by rfl) (hpl : (backTo pos (starEach [.Name cn p2] X.env)).any (·.1) = false := by rfl) :
    DP (X.suite a ((a, oe) :: pn)) F (.Call (.Name "isinstance" p) [.Name x p1, .Name cn p2] [] pos) (eIsE i a b) :=
  PE.imp (pe_callB (X := X.suite a ((a, oe) :: pn)) (call_isE C hz hf) hg hi hb (pa_cons (pe_var hN hv hd hcd) (pa_cons (pe_glob (v := .ref Dc) hg2 hm rfl hdc) pa_nil hs2) hs) hn1 hd1 hs hpl) fun σ H Q ⟨S, ρ, ok, q⟩ => by
    unfold eIsE at q
    split at q
    · next a' e =>
      split at q
      · next ea =>
        subst ea
        obtain ⟨o, h1, v, rfl, r⟩ := ok.slots i _ e
        cases r
        exact ⟨_, h1, .ref Dc, .ref Dc, b, rfl, fun u hu => hu, hk, q _ H (F.gr.refl H) (.bl b)⟩
      · exact q.elim
    · exact q.elim
theorem dp_isET {a D : Addr} {oe : Obj} {pn : List (Addr × Obj)} {i : Nat} {x cn : Str} {T : String} {p p1 p2 : Pos} {b : Bool} (C : ExcC X.K D) (hz : Zc (.ref D) none oe) (hf : ∃ vs, oe.data = .fields vs) (hi : X.mg "isinstance" = none) (hm : X.mg cn = none) (hk : PySem.W.kitOne X.K (.ref D) (.type T) = some b)
    (hT : bootBuiltins cn = some (.type T) := by decide +kernel) (hN : X.N[i]? = some x := by rfl) (hv : Vis X.env.scope x := by first | exact Or.inl rfl | exact Or.inr (Or.inl rfl) | exact Or.inr (Or.inr rfl)) (hg : Gl X "isinstance" := by rfl) (hg2 : Gl X cn := by rfl)
    (hd : (x == ("__debug__" : Str)) = false := by decide) (hcd : (x == ("__classdict__" : Str)) = false := by decide) (hdc : (cn == ("__debug__" : Str)) = false := by decide) (hnc : cn ≠ "__name__" := by decide)
    (hb : bootBuiltins "isinstance" = some (.builtin "isinstance") := by decide +kernel) (hn1 : ("isinstance" : Str) ≠ "__name__" := by decide) (hd1 : (("isinstance" : Str) == ("__debug__" : Str)) = false := by decide)
    (hs2 : starEach [.Name cn p2] X.env = (false, eval (.Name cn p2) X.env) :: starEach [] X.env := by rfl)
    (hs : starEach [.Name x p1, .Name cn p2] X.env = (false, eval (.Name x p1) X.env) :: starEach [.Name cn p2] X.env := by rfl) (hpl : (backTo pos (starEach [.Name cn p2] X.env)).any (·.1) = false := by rfl) :
    DP (X.suite a ((a, oe) :: pn)) F (.Call (.Name "isinstance" p) [.Name x p1, .Name cn p2] [] pos) (eIsE i a b) :=
  PE.imp (pe_callB (X := X.suite a ((a, oe) :: pn)) (call_isE C hz hf) hg hi hb (pa_cons (pe_var hN hv hd hcd) (pa_cons (pe_bltn (v := .ty T) hg2 hm hT rfl hnc hdc) pa_nil hs2) hs) hn1 hd1 hs hpl) fun σ H Q ⟨S, ρ, ok, q⟩ => by
    unfold eIsE at q
    split at q
    · next a' e =>
      split at q
      · next ea =>
        subst ea
        obtain ⟨o, h1, v, rfl, r⟩ := ok.slots i _ e
        cases r
        exact ⟨_, h1, .ty T, .type T, b, rfl, fun u hu => hu, hk, q _ H (F.gr.refl H) (.bl b)⟩
      · exact q.elim
    · exact q.elim
end
/-! ### methods of lists that only look -/
def lstD : D → Option (List D)
  | .lst ds => some ds
  | _ => none
def eL1 (g : List D → D → Option D) (a b : Rho → Res D) : Rho → Res D := fun ρ => (a ρ).bind fun x => (Res.of (lstD x)).bind fun ds => (b ρ).bind fun y => Res.of (g ds y)
def rL1 (K : PySem.W.Frag) (g : List D → D → Option D) : V → List V → Hp → VK → Prop := fun x xs H Q => ∃ S a vs ds dy d y, x = .ref a ∧ xs = [y] ∧ Sd S H ∧ H a = some (.lst vs) ∧ RpL K (hide H S) vs ds ∧ RpB K S H y dy ∧ g ds dy = some d ∧ ∀ v H', Same H H' → Rp K (hide H' S) v d → Q v H'
def cntT (ds : List D) (y : D) : Option D := match y with
  | .bl true => (blsOf ds).bind fun bs => if bs.length ≤ 60 then some (.int (bs.countP id : Nat)) else none
  | _ => none
def idxT (ds : List D) (y : D) : Option D := match y with
  | .bl true => (blsOf ds).bind fun bs => if bs.length ≤ 60 then (bs.findIdx? id).map fun j => .int (j : Nat) else none
  | _ => none
theorem dpAll_bls {K : PySem.W.Frag} {H : Hp} : ∀ bs : List Bool, DpAll K H (bs.map V.bl) (bs.map PyData.bool)
  | [] => .nil
  | b :: bs => .cons (.bl b) (dpAll_bls bs)
theorem canLay_bls : ∀ bs : List Bool, PyData.canLayAll0 (bs.map PyData.bool) = true
  | [] => rfl
  | b :: bs => by
    show ((PyData.bool b).canLay0 && PyData.canLayAll0 (bs.map PyData.bool)) = true
    rw [canLay_bls bs]
    rfl
theorem depth_bls : ∀ bs : List Bool, PyData.depthAll (bs.map PyData.bool) = 0
  | [] => rfl
  | b :: bs => by
    show max (PyData.bool b).depth (PyData.depthAll (bs.map PyData.bool)) = 0
    rw [depth_bls bs]
    rfl
theorem shaped_bls (bs : List Bool) : SeqAt.shaped (.list (bs.map PyData.bool)) = true := by
  unfold SeqAt.shaped
  rw [Bool.and_eq_true]
  refine ⟨canLay_bls bs, decide_eq_true ?_⟩
  show PyData.depthAll (bs.map PyData.bool) + 1 ≤ 64
  rw [depth_bls]
  decide
theorem eqv_bls (b : Bool) : PyData.eqv (.bool b) (.bool true) = b := by cases b <;> rfl
section
variable {X : Cx} {F : Fm} {pos : Pos}
theorem mt_cntT (hu : X.A.units + 100 < cLine) : MtR X "list.count" (rL1 X.K cntT) := by
  intro pins s σ H x xs v us Q I rx rxs h
  obtain ⟨S, a, vs, ds, dy, d, y, rfl, rfl, sd, ha, r, ry, e, q⟩ := h
  unfold cntT at e
  split at e
  · cases eb : blsOf ds with
    | none =>
      rw [eb] at e
      cases e
    | some bs =>
      rw [eb, Option.bind_some] at e
      split at e
      · cases e
        have := r.bls eb
        subst this
        have := ry.bl_inv
        subst this
        refine mt_countD (by omega) pins s σ H _ _ v us Q I rx rxs ⟨a, _, .bool true, bs.map PyData.bool, rfl, rfl, .lst (SqL.of ha) (dpAll_bls bs), .bl true, shaped_bls bs, rfl, ?_⟩
        have e2 : (bs.map PyData.bool).countP (fun z => PyData.eqv z (.bool true)) = bs.countP id := by
          rw [List.countP_map]
          congr 1
          funext b
          exact eqv_bls b
        rw [e2]
        exact q _ H (Same.refl H) (.int _)
      · cases e
  · cases e
theorem mt_idxT (hu : X.A.units + 100 < cLine) : MtR X "list.index" (rL1 X.K idxT) := by
  intro pins s σ H x xs v us Q I rx rxs h
  obtain ⟨S, a, vs, ds, dy, d, y, rfl, rfl, sd, ha, r, ry, e, q⟩ := h
  unfold idxT at e
  split at e
  · cases eb : blsOf ds with
    | none =>
      rw [eb] at e
      cases e
    | some bs =>
      rw [eb, Option.bind_some] at e
      split at e
      · cases ef : bs.findIdx? id with
        | none =>
          rw [ef] at e
          cases e
        | some j =>
          rw [ef] at e
          cases e
          have := r.bls eb
          subst this
          have := ry.bl_inv
          subst this
          obtain ⟨hj, h1, h2⟩ := List.findIdx?_eq_some_iff_getElem.mp ef
          refine mt_indexD (by omega) pins s σ H _ _ v us Q I rx rxs ⟨a, _, .bool true, bs.map PyData.bool, j, .bool bs[j], rfl, rfl, .lst (SqL.of ha) (dpAll_bls bs), .bl true, shaped_bls bs, rfl, ?_, ?_, fun m z hm hz => ?_, q _ H (Same.refl H) (.int _)⟩
          · rw [List.getElem?_map, List.getElem?_eq_getElem hj]
            rfl
          · rw [eqv_bls]
            exact h1
          · rw [List.getElem?_map, List.getElem?_eq_getElem (by omega)] at hz
            cases hz
            rw [eqv_bls]
            have := h2 m hm
            simpa using this
      · cases e
  · cases e
theorem dp_l1 {id : String} {name : Str} {o e : Expr} {so se : Rho → Res D} {apos cpos : Pos} {g : List D → D → Option D} (slot : PySem.Slot "list" name id) (ty : typeOf (.builtin id) = pure (.type "method_descriptor")) (rule : MtR X id (rL1 X.K g)) (ho : DB X F o so) (he : DB X F e se)
    (hbase : attributeBase o name X.env (eval o X.env) = eval o X.env := by rfl)
    (hfew : ((backTo cpos (starEach [e] X.env)).all (fun x => !x.1) && (backToKw cpos (keywordEach [] X.env)).all (fun x => x.1.isSome) && decide (([e] : List Expr).length + ([] : List Keyword).length + (if ([] : List Keyword).isEmpty then 0 else 1) < 30)) = true := by rfl)
    (hline : (apos.endLine == cpos.line) = true := by rfl) (hs : starEach [e] X.env = (false, eval e X.env) :: starEach [] X.env := by rfl) (hplain : (backTo cpos (starEach [] X.env)).any (·.1) = false := by rfl) :
    DP X F (.Call (.Attribute o name apos) [e] [] cpos) (eL1 g so se) :=
  PE.imp (pe_bm PySem.F.plainAttrs_list slot ty rule ho (pa_cons he pa_nil hs) hbase hfew hline hs hplain) fun σ H Q ⟨S, ρ, ok, q⟩ => ⟨S, ρ, ok, post_bind q fun dx ex h1 => fun x H1 g1 rx => by
    cases dx with
    | lst ds =>
      obtain ⟨a, vs, rfl, ha, ra⟩ := rx.lst_inv
      refine ⟨.inl ⟨rfl, _, SqL.of ha⟩, S, ρ, ok.up g1, post_bind (PostK.mono (r := (se ρ).bind fun y => Res.of (g ds y)) h1 g1) fun dy ey h2 => fun y H2 g2 ry => ?_⟩
      cases e' : g ds dy with
      | none =>
        rw [e'] at h2
        exact h2.elim
      | some d =>
        rw [e'] at h2
        exact ⟨S, a, vs, ds, dy, d, y, rfl, rfl, ((ok.up g1).up g2).sd, F.gr.ex g2 _ _ ha (fun ps z => by cases z), ra.ex (hide_mono (F.gr.ex g2) S), ry, e', fun v H' s r => h2 v H' (F.gr.trans g2 (F.gr.same s)) r⟩
    | _ => exact h1.elim⟩
end
/-! ### told -/
def exIx (c : Str) : Option Int := if c = "NoCell" then some 0 else if c = "TooMany" then some 1 else if c = "NoWay" then some 2 else if c = "NoDeed" then some 3 else if c = "NoText" then some 4 else none
/-- what the text says of the classes -/
structure ToldC (K : PySem.W.Frag) (mg : Str → Option Value) : Prop where
  exc : ∀ c k, exIx c = some k → ExcC K (He.ga K c)
  look : ∀ c k, exIx c = some k → PySem.W.exmOne K (.ref (He.ga K c)) (.ref (He.ga K "LookError")) = some true
  val : ∀ c k, exIx c = some k → PySem.W.kitOne K (.ref (He.ga K c)) (.type "ValueError") = some true
  kit : ∀ c k c' k', exIx c = some k → exIx c' = some k' → PySem.W.kitOne K (.ref (He.ga K c)) (.ref (He.ga K c')) = some (decide (k = k'))
  mgc : ∀ c k, exIx c = some k → mg c = some (.ref (He.ga K c))
  mgl : mg "LookError" = some (.ref (He.ga K "LookError"))
  isi : mg "isinstance" = none
  ve : mg "ValueError" = none
def refD (k : Int) : D := .tup [.str "refused", .int k]
def toldD (d : D) : D := .tup [.str "told", d]
/-- what told makes of the lambda's reading -/
def TTd (K : PySem.W.Frag) : (XK → Hp → VK → Prop) → Hp → VK → Prop := fun tl H Q => ∀ (Q1 : VK) (E1 : XK), (∀ v H', (∀ p, H' p = none → Q (.ref p) (upd H' p (.tup [.str "told", v]))) → Q1 v H') →
  (∀ cls d H', (∃ c k S, cls = .ref (He.ga K c) ∧ d = none ∧ exIx c = some k ∧ Sd S H' ∧ ∀ v H'', Same H' H'' → Rp K (hide H'' S) v (refD k) → Q v H'') → E1 cls d H') → tl E1 H Q1
theorem pss_pick {X : Cx} {b : List Stmt} {t : TS} {ι : Type} {p : ι → Prop} {u : ι → TS} (h : ∀ i, p i → PSs X b (u i)) (sel : ∀ D σ H, σ.length = X.N.length → t D σ H → ∃ i, p i ∧ u i D σ H) : PSs X b t :=
  ⟨fun pins s σ H D I h' => by
    obtain ⟨i, hi, q⟩ := sel D σ H I.len h'
    exact (h i hi).run pins s σ H D I q⟩
/-- the suite's mirror -/
def ixE (a : Addr) (k j : Int) : Rho → Res D := eIsE 2 a (decide (k = j))
def suiteB (a : Addr) (k : Int) : Rho → SR := sSeq (sNew 3 (eLst (aCons (ixE a k 0) (aCons (ixE a k 1) (aCons (ixE a k 2) (aCons (ixE a k 3) aNil)))))) (sSeq (sApp 3 (ixE a k 4)) (sSeq (sSet 1 (eTup (aCons (eC (.str "refused")) (aCons (e1 dNeg (eC (.int 1))) aNil))))
  (sIf (tand (eT (eIsE 2 a true)) (eT (e2 dEq (eL1 cntT (eOwn 3) (eC (.bl true))) (eC (.int 1))))) (sSet 1 (eTup (aCons (eC (.str "refused")) (aCons (eL1 idxT (eOwn 3) (eC (.bl true))) aNil)))) sNil)))
section
variable {X : Cx} {F : Fm} {pos : Pos}
theorem exIx_all {c : Str} {k : Int} (h : exIx c = some k) : (c = "NoCell" ∧ k = 0) ∨ (c = "TooMany" ∧ k = 1) ∨ (c = "NoWay" ∧ k = 2) ∨ (c = "NoDeed" ∧ k = 3) ∨ (c = "NoText" ∧ k = 4) := by
  unfold exIx at h
  split at h
  · next e => exact .inl ⟨e, (Option.some.inj h).symm⟩
  · split at h
    · next e => exact .inr (.inl ⟨e, (Option.some.inj h).symm⟩)
    · split at h
      · next e => exact .inr (.inr (.inl ⟨e, (Option.some.inj h).symm⟩))
      · split at h
        · next e => exact .inr (.inr (.inr (.inl ⟨e, (Option.some.inj h).symm⟩)))
        · split at h
          · next e => exact .inr (.inr (.inr (.inr ⟨e, (Option.some.inj h).symm⟩)))
          · cases h
theorem suiteB_eq {c : Str} {k : Int} (a : Addr) (ek : exIx c = some k) : ∃ ks, suiteB a k [.no, .no, .fz (.opq a), .no] = .nx [.no, .fz (refD k), .fz (.opq a), .ow (.lst ks)] := by
  rcases exIx_all ek with ⟨_, rfl⟩ | ⟨_, rfl⟩ | ⟨_, rfl⟩ | ⟨_, rfl⟩ | ⟨_, rfl⟩
  · exact ⟨[.bl true, .bl false, .bl false, .bl false, .bl false], by simp [suiteB, ixE, eIsE, sSeq, sNew, sApp, sSet, sIf, eLst, eTup, aCons, aNil, eC, e1, e2, eT, tand, eL1, eOwn, sBind, Res.bind, Res.of, lstD, cntT, idxT, blsOf, dEq, isB, dNeg, sNil, sizeLine, refD, eqN, lv, List.findIdx?_cons]⟩
  · exact ⟨[.bl false, .bl true, .bl false, .bl false, .bl false], by simp [suiteB, ixE, eIsE, sSeq, sNew, sApp, sSet, sIf, eLst, eTup, aCons, aNil, eC, e1, e2, eT, tand, eL1, eOwn, sBind, Res.bind, Res.of, lstD, cntT, idxT, blsOf, dEq, isB, dNeg, sNil, sizeLine, refD, eqN, lv, List.findIdx?_cons]⟩
  · exact ⟨[.bl false, .bl false, .bl true, .bl false, .bl false], by simp [suiteB, ixE, eIsE, sSeq, sNew, sApp, sSet, sIf, eLst, eTup, aCons, aNil, eC, e1, e2, eT, tand, eL1, eOwn, sBind, Res.bind, Res.of, lstD, cntT, idxT, blsOf, dEq, isB, dNeg, sNil, sizeLine, refD, eqN, lv, List.findIdx?_cons]⟩
  · exact ⟨[.bl false, .bl false, .bl false, .bl true, .bl false], by simp [suiteB, ixE, eIsE, sSeq, sNew, sApp, sSet, sIf, eLst, eTup, aCons, aNil, eC, e1, e2, eT, tand, eL1, eOwn, sBind, Res.bind, Res.of, lstD, cntT, idxT, blsOf, dEq, isB, dNeg, sNil, sizeLine, refD, eqN, lv, List.findIdx?_cons]⟩
  · exact ⟨[.bl false, .bl false, .bl false, .bl false, .bl true], by simp [suiteB, ixE, eIsE, sSeq, sNew, sApp, sSet, sIf, eLst, eTup, aCons, aNil, eC, e1, e2, eT, tand, eL1, eOwn, sBind, Res.bind, Res.of, lstD, cntT, idxT, blsOf, dEq, isB, dNeg, sNil, sizeLine, refD, eqN, lv, List.findIdx?_cons]⟩
/-- the suite does it -/
theorem suite_ok {K : PySem.W.Frag} {c : Str} {k : Int} {a : Addr} {S : List Addr} {H : Hp} {σ0 : L2.St} {D' : Ends} (ek : exIx c = some k) (sd : Sd S H) (hl0 : σ0.length = 4)
    (hq : ∀ σ' v H', Same H H' → Rp K (hide H' S) v (refD k) → σ'[1]? = some (some v) → D'.nx σ' H') : tS K (Fm.std Same grow_same S H fun _ _ _ => False) (suiteB a k) D' (List.set σ0 2 (some (.ref a))) H := by
  obtain ⟨x0, x1, x2, x3, rfl⟩ : ∃ x0 x1 x2 x3, σ0 = [x0, x1, x2, x3] := by
    match σ0, hl0 with
    | [x0, x1, x2, x3], _ => exact ⟨x0, x1, x2, x3, rfl⟩
  obtain ⟨ks, eks⟩ := suiteB_eq a ek
  refine ⟨S, [.no, .no, .fz (.opq a), .no], ⟨Same.refl _, fun _ h => h, fun _ h => .inl h, sd, rfl, fun i s e => ?_, fun i j di dj b h1 => ?_, fun i di b h1 => ?_, TrOk.none fun i t h1 => ?_⟩, ?_⟩
  · match i, e with
    | 0, e => cases e; exact ⟨_, rfl, trivial⟩
    | 1, e => cases e; exact ⟨_, rfl, trivial⟩
    | 2, e => cases e; exact ⟨_, rfl, _, rfl, .opq a⟩
    | 3, e => cases e; exact ⟨_, rfl, trivial⟩
    | n + 4, e => cases e
  · match i, h1 with
    | 0, e => cases e
    | 1, e => cases e
    | 2, e => cases e
    | 3, e => cases e
    | n + 4, e => cases e
  · match i, h1 with
    | 0, e => cases e
    | 1, e => cases e
    | 2, e => cases e
    | 3, e => cases e
    | n + 4, e => cases e
  · match i, h1 with
    | 0, e => cases e
    | 1, e => cases e
    | 2, e => cases e
    | 3, e => cases e
    | n + 4, e => cases e
  · rw [eks]
    intro S' σ' H' ok x
    obtain ⟨o, h1, v, rfl, r⟩ := ok.slots 1 _ rfl
    exact hq σ' v H' ok.grow (r.ex (hide_less ok.base)) h1
/-! the call -/
def calmS : Slot → Slot
  | .ow _ => .no
  | .tr _ => .no
  | s => s
def calmR (ρ : Rho) : Rho := ρ.map calmS
def eTold (s : Rho → Res D) : Rho → Res D := fun ρ => match s (calmR ρ) with
  | .ok d => .ok (toldD d)
  | .err c => Res.of ((exIx c).map refD)
  | .stuck => .stuck
theorem calm_at {ρ : Rho} {i : Nat} {s : Slot} (e : (calmR ρ)[i]? = some s) : ∃ s', ρ[i]? = some s' ∧ s = calmS s' := by
  unfold calmR at e
  rw [List.getElem?_map] at e
  cases q : ρ[i]? with
  | none =>
    rw [q] at e
    cases e
  | some s' =>
    rw [q] at e
    exact ⟨s', rfl, (Option.some.inj e).symm⟩
theorem EnvOk.calm {K : PySem.W.Frag} {F : Fm} {T : Tb} {S : List Addr} {σ : L2.St} {H : Hp} {ρ : Rho} (E : XK) (ok : EnvOk K F S σ H ρ) : EnvOk K (fm0 T S H E) S σ H (calmR ρ) where
  grow := (grow_tab T).refl H
  base := fun _ h => h
  new := fun _ h => .inl h
  sdom := ok.sdom
  len := by
    unfold calmR
    rw [List.length_map]
    exact ok.len
  slots := fun i s e => by
    obtain ⟨s', e1, rfl⟩ := calm_at e
    obtain ⟨o, h1, h2⟩ := ok.slots i s' e1
    refine ⟨o, h1, ?_⟩
    cases s' with
    | ow d => trivial
    | tr t => trivial
    | _ => exact h2
  dist := fun i j di dj a h1 => by
    obtain ⟨s', _, e⟩ := calm_at h1
    cases s' <;> cases e
  nown := fun i di a h1 => by
    obtain ⟨s', _, e⟩ := calm_at h1
    cases s' <;> cases e
  trs := TrOk.none fun i t h1 => by
    obtain ⟨s', _, e⟩ := calm_at h1
    cases s' <;> cases e
/-- the reading of the lambda's body -/
def tLm (K : PySem.W.Frag) (T : Tb) (sb : Rho → Res D) (E : XK) : TE := fun σ H Q => ∃ S ρ, Tabs T H ∧ EnvOk K (fm0 T S H E) S σ H ρ ∧ PostK K (kdV K (fm0 T S H E)) S H Q (sb ρ)
theorem tLm_of {T : Tb} {body : Expr} {sb : Rho → Res D} {E : XK} {Y : Cx} (h : ∀ S H, Tabs T H → DP Y (fm0 T S H E) body sb) : PE Y body (tLm Y.K T sb E) :=
  ⟨fun pins s σ H Q I ⟨S, ρ, hT, ok, q⟩ => (h S H hT).run pins s σ H Q I ⟨S, ρ, ok, q⟩⟩
theorem tLam_of {T : Tb} {K : PySem.W.Frag} {sb : Rho → Res D} {σ : L2.St} {H : Hp} {Q : VK} (hF : Fits T F) (h : tK K (kdV K F) (eTold sb) σ H Q) : tLam T (TTd K) (tLm K T sb) σ H Q := by
  obtain ⟨S, ρ, ok, q⟩ := h
  refine ⟨hF.t ok.grow, fun H1 x1 T1 Q1 E1 hQ hE => ?_⟩
  have g1 : GT T H H1 := ⟨x1, fun _ => T1⟩
  have ok1 := ok.up (hF.g g1)
  refine ⟨S, calmR ρ, T1, ok1.calm E1, ?_⟩
  unfold eTold at q
  cases e : sb (calmR ρ) with
  | stuck =>
    rw [e] at q
    exact q.elim
  | ok d =>
    rw [e] at q
    intro v H' g r
    have sd : Sd S H' := ((ok1.calm (T := T) E1).up g).sdom
    exact hQ v H' fun p np => q _ _ (F.gr.trans (F.gr.trans (hF.g g1) (hF.g g)) (F.gr.same (same_new np))) (new_tup sd np (.cons (.str _) (.cons r .nil)))
  | err c =>
    rw [e] at q
    intro H' g
    have sd : Sd S H' := ((ok1.calm (T := T) E1).up g).sdom
    dsimp only at q
    cases ek : exIx c with
    | none =>
      rw [ek] at q
      exact q.elim
    | some k =>
      rw [ek] at q
      exact hE _ _ H' ⟨c, k, S, rfl, rfl, ek, sd, fun v H'' s r => q v H'' (F.gr.trans (F.gr.trans (hF.g g1) (hF.g g)) (F.gr.same s)) r⟩
/-- _law_told(lambda: body) -/
theorem dp_told {T : Tb} {x a : Str} {st : Stmt} {Ng : List Str} {P : Addr} {k : Nat} {params : Arguments} {body : Expr} {scope : Scope} {sb : Rho → Res D} {p lpos : Pos} (hF : Fits T F) (Ft : FT X.K X.mg x st [a]) (Sg : FnScope Ng [a] (defScope st)) (hNg : Ng[0]? = some a) (hva : Vis (defScope st) a)
    (hG : ∀ (g : Addr) (cdg : Value) (q : Str), GivesTo X Ng x (defScope st) g cdg (defBody st) a q (TTd X.K)) {c : Addr} (TB : TabB X.base X.mg c P) (hcode : X.env.code = .ref c) (hmT : (P, X.env.qual ++ "<lambda>") ∈ T)
    (hu : ∀ p ∈ T, p.1 = P → p.2 = X.env.qual ++ "<lambda>") (hr : Room (k + 2) X.A) (hbody : ∀ (A : Around) (outer : List Env) (s : Shared) (H0 : Hp) (E : XK) (f c' : Addr) (S : List Addr) (H : Hp), Tabs T H → Room k (A.deeper (lamEnv X scope s.heap.objs.size f c')) → DP (lamCx X A outer s H0 E scope f c') (fm0 T S H E) body sb)
    (hdef : defaultsOf params X.env = ([], []) := by rfl) (hbind : ∀ (q : Str) (cl : List (Str × Addr)) (pm cv ctv : Value), bindArgs (PySem.W.kla_fn "<lambda>" q params body scope cl pm cv ctv) ⟨[], []⟩ = pure [] := by intro _ _ _ _ _; rfl)
    (L : LamS X.env.scope scope := by exact LamX.lamS_by (by kernel_rfl)) (hg : Gl X x := by rfl) (hdb : (x == ("__debug__" : Str)) = false := by decide) (hd : (a == ("__debug__" : Str)) = false := by decide) (hcd : (a == ("__classdict__" : Str)) = false := by decide) :
    DP X F (.Call (.Name x p) [.Lambda params body scope lpos] [] pos) (eTold sb) := by
  obtain ⟨fd, Fd, hb⟩ := Ft.ex
  obtain ⟨oc, od, dV, kV, doc, pm, an, cdv, ct, osl, rfl, lk, hcg, _, _⟩ := Fd.ex
  exact PE.imp (pe_lamcall hg Ft.g Fd.kp lk hcg hb Sg hNg hva (hG _ _ _) TB hcode hmT hu hr L hdef hbind (fun A outer s H0 E f c' hr' => tLm_of fun S H hT => hbody A outer s H0 E f c' S H hT hr') hdb hd hcd) fun σ H Q h => tLam_of hF h
end
/-! the classes, by one Bool -/
def clsN : List (Str × Int) := [("NoCell", 0), ("TooMany", 1), ("NoWay", 2), ("NoDeed", 3), ("NoText", 4)]
def excB (K : PySem.W.Frag) (D : Addr) : Bool := He.eqO (PySem.W.findIn K (.ref D) "__getattribute__") (some (some (.builtin "BaseException.__getattribute__"))) && (He.eqO (PySem.W.findIn K (.ref D) "__getattr__") (some none) && (decide (PySem.W.subIn K (.ref D) (.type "BaseException") = some true) &&
  (PySem.W.hasDictIn K D && (He.eqO (PySem.W.findIn K (.ref D) "__class__") (some (some (.builtin "object.__class__"))) && (He.eqO (PySem.W.specialIn K (.builtin "object.__class__") "__get__") (some (some (.builtin "getset_descriptor.__get__"))) &&
  (decide (PySem.W.takesIn K (.builtin "object.__class__") = some true) && decide (PySem.W.mroIn K D (.type "object") = some true)))))))
theorem excB_ok {K : PySem.W.Frag} {D : Addr} (h : excB K D = true) : ExcC K D := by
  obtain ⟨h1, h⟩ := He.ba h
  obtain ⟨h2, h⟩ := He.ba h
  obtain ⟨h3, h⟩ := He.ba h
  obtain ⟨h4, h⟩ := He.ba h
  obtain ⟨h5, h⟩ := He.ba h
  obtain ⟨h6, h⟩ := He.ba h
  obtain ⟨h7, h8⟩ := He.ba h
  exact ⟨He.eqO_ok h1, He.eqO_ok h2, of_decide_eq_true h3, h4, He.eqO_ok h5, He.eqO_ok h6, of_decide_eq_true h7, of_decide_eq_true h8⟩
def toldB (K : PySem.W.Frag) : Bool := clsN.all fun p => excB K (He.ga K p.1) && (decide (PySem.W.exmOne K (.ref (He.ga K p.1)) (.ref (He.ga K "LookError")) = some true) && (decide (PySem.W.kitOne K (.ref (He.ga K p.1)) (.type "ValueError") = some true) &&
  clsN.all fun q => decide (PySem.W.kitOne K (.ref (He.ga K p.1)) (.ref (He.ga K q.1)) = some (decide (p.2 = q.2)))))
theorem clsN_of {c : Str} {k : Int} (h : exIx c = some k) : (c, k) ∈ clsN := by
  rcases exIx_all h with ⟨rfl, rfl⟩ | ⟨rfl, rfl⟩ | ⟨rfl, rfl⟩ | ⟨rfl, rfl⟩ | ⟨rfl, rfl⟩
  · exact List.mem_cons_self
  · exact List.mem_cons_of_mem _ List.mem_cons_self
  · exact List.mem_cons_of_mem _ (List.mem_cons_of_mem _ List.mem_cons_self)
  · exact List.mem_cons_of_mem _ (List.mem_cons_of_mem _ (List.mem_cons_of_mem _ List.mem_cons_self))
  · exact List.mem_cons_of_mem _ (List.mem_cons_of_mem _ (List.mem_cons_of_mem _ (List.mem_cons_of_mem _ List.mem_cons_self)))
theorem told_of {K : PySem.W.Frag} {mg : Str → Option Value} (h : toldB K = true) (h0 : mg "NoCell" = some (.ref (He.ga K "NoCell"))) (h1 : mg "TooMany" = some (.ref (He.ga K "TooMany"))) (h2 : mg "NoWay" = some (.ref (He.ga K "NoWay")))
    (h3 : mg "NoDeed" = some (.ref (He.ga K "NoDeed"))) (h4 : mg "NoText" = some (.ref (He.ga K "NoText"))) (hl : mg "LookError" = some (.ref (He.ga K "LookError"))) (hi : mg "isinstance" = none) (hv : mg "ValueError" = none) : ToldC K mg := by
  have key := fun c k (e : exIx c = some k) => List.all_eq_true.mp h (c, k) (clsN_of e)
  refine ⟨fun c k e => excB_ok (He.ba (key c k e)).1, fun c k e => of_decide_eq_true (He.ba (He.ba (key c k e)).2).1, fun c k e => of_decide_eq_true (He.ba (He.ba (He.ba (key c k e)).2).2).1, fun c k c' k' e e' => ?_, fun c k e => ?_, hl, hi, hv⟩
  · exact of_decide_eq_true (List.all_eq_true.mp (He.ba (He.ba (He.ba (key c k e)).2).2).2 (c', k') (clsN_of e'))
  · rcases exIx_all e with ⟨rfl, rfl⟩ | ⟨rfl, rfl⟩ | ⟨rfl, rfl⟩ | ⟨rfl, rfl⟩ | ⟨rfl, rfl⟩
    · exact h0
    · exact h1
    · exact h2
    · exact h3
    · exact h4
theorem lam_passes {X Y : Cx} {A : Around} {outer : List Env} {s : Shared} {H : Hp} {E : XK} {scope : Scope} {f c' : Addr} (h : Y = lamCx X A outer s H E scope f c') : Passes (L2.CX Y.prog Y.w) Y E := by
  subst h
  exact passes_call (takes_of (X := lamCx X A outer s H E scope f c') (E := E) rfl rfl rfl rfl) fun _ _ _ _ h => h
/-! tables at the start -/
def tbs (K : PySem.W.Frag) (tf : List (He.Defn × Str)) : Tb := tf.map fun p => ((He.cT K p.1).2, p.2)
theorem tabs_of {K : PySem.W.Frag} {tf : List (He.Defn × Str)} {H : Hp} (h : ∀ p ∈ tf.map fun p => He.cT K p.1, H p.2 = some (.tbl #[])) : Tabs (tbs K tf) H := fun p hp => by
  unfold tbs at hp
  obtain ⟨q, hq, rfl⟩ := List.mem_map.mp hp
  exact TabS.nil (h _ (List.mem_map.mpr ⟨q, hq, rfl⟩))
end DL

set_option Elab.async false
set_option linter.all false
set_option maxRecDepth 100000
set_option maxHeartbeats 1000000
/-! DLd: further functions of data, whose rules stand in texts of their own. -/
namespace DL
open PySem PySem.Spec PyProof.Rows L2
/-! ### sets of pairs -/
def seqD : D → Option (List D)
  | .lst ds => some ds
  | .tup ds => some ds
  | _ => none
def inB64 (p : Int × Int) : Bool := (decide (0 ≤ p.1) && decide (p.1 < 64)) && (decide (0 ≤ p.2) && decide (p.2 < 64))
def ddP : List (Int × Int) → List (Int × Int)
  | [] => []
  | x :: r => if x ∈ ddP r then ddP r else x :: ddP r
theorem mem_ddP {p : Int × Int} : ∀ {l : List (Int × Int)}, p ∈ ddP l ↔ p ∈ l
  | [] => Iff.rfl
  | x :: r => by
    unfold ddP
    by_cases c : x ∈ ddP r
    · rw [if_pos c, mem_ddP (l := r), List.mem_cons]
      constructor
      · exact .inr
      · rintro (rfl | h)
        · exact mem_ddP.mp c
        · exact h
    · rw [if_neg c, List.mem_cons, List.mem_cons, mem_ddP (l := r)]
theorem ddP_nodup : ∀ l : List (Int × Int), (ddP l).Nodup
  | [] => List.nodup_nil
  | x :: r => by
    unfold ddP
    by_cases c : x ∈ ddP r
    · rw [if_pos c]
      exact ddP_nodup r
    · rw [if_neg c]
      exact List.nodup_cons.mpr ⟨c, ddP_nodup r⟩
def dSetOf (f : List (Int × Int) → D) : List D → Option D
  | [d] => (seqD d).bind fun ds => (pairsOf ds).bind fun ps => if (ps.all inB64 && decide ((ddP ps).length ≤ 62)) = true then some (f (ddP ps)) else none
  | _ => none
def dSortSet : List D → Option D := dSetOf fun ps => .lst ((sortP ps).map tupP)
def dLenSet : List D → Option D := dSetOf fun ps => .int ps.length
/-! ### a list of one's own that is popped -/
def popR (i : Nat) (ρ : Rho) : Option (D × Rho) := match ρ[i]? with
  | some (.ow (.lst ds)) => (match ds.getLast? with
    | some d => some (d, ρ.set i (.ow (.lst ds.dropLast)))
    | none => none)
  | _ => none
def sForPop (m : List D → Res D) (sa : Rho → Res D) (i : Nat) (t : Tg) (body : Rho → SR) : Rho → SR := fun ρ => sBind (sa ρ) fun da => match popR i ρ with
  | none => .stuck
  | some (d, ρ') => sBind (m [da, d]) fun r => match r with
    | .lst es => forL t body es ρ'
    | _ => .stuck
/-! ### tuple * int, the least of ranks -/
def dMulT : D → D → Option D
  | .tup (d :: ds), .int k => if k = 0 then some (.tup []) else if k = 1 then some (.tup (d :: ds)) else none
  | _, _ => none
abbrev Rk : Type := Int × (Int × Int)
def rankD (r : Rk) : D := .tup [.int r.1, tupP r.2]
def rankOf : D → Option Rk
  | .tup [.int a, .tup [.int b, .int c]] => some (a, (b, c))
  | _ => none
def ranksOf : List D → Option (List Rk)
  | [] => some []
  | d :: r => (rankOf d).bind fun p => (ranksOf r).map (p :: ·)
def ltR (x y : Rk) : Bool := decide (x.1 < y.1) || (decide (x.1 = y.1) && (decide (x.2.1 < y.2.1) || (decide (x.2.1 = y.2.1) && decide (x.2.2 < y.2.2))))
def minR (m y : Rk) : Rk := if ltR y m = true then y else m
def dMinR : List D → Option D
  | [.lst ds] => match ranksOf ds with
    | some (r :: rs) => some (rankD (rs.foldl minR r))
    | _ => none
  | _ => none
theorem rankOf_eq {d : D} {r : Rk} (h : rankOf d = some r) : d = rankD r := by
  unfold rankOf at h
  split at h
  · cases h
    rfl
  · cases h
theorem ranksOf_eq : ∀ {ds : List D} {rs : List Rk}, ranksOf ds = some rs → ds = rs.map rankD
  | [], rs, h => by
    cases h
    rfl
  | d :: r, rs, h => by
    unfold ranksOf at h
    cases e : rankOf d with
    | none =>
      rw [e] at h
      cases h
    | some p =>
      rw [e] at h
      cases e2 : ranksOf r with
      | none =>
        rw [Option.bind_some, e2] at h
        cases h
      | some q =>
        rw [Option.bind_some, e2] at h
        cases h
        rw [List.map_cons, ← rankOf_eq e, ← ranksOf_eq e2]
theorem ranksOf_map : ∀ (rs : List Rk), ranksOf (rs.map rankD) = some rs
  | [] => rfl
  | p :: ps => by
    show (rankOf (rankD p)).bind _ = _
    rw [show rankOf (rankD p) = some p from rfl, Option.bind_some, ranksOf_map ps]
    rfl
end DL

set_option Elab.async false
set_option linter.all false
set_option maxRecDepth 100000
set_option maxHeartbeats 1000000
/-! DL16k: what DL45-47 take from DL16 and DL17 (never with them). -/
namespace DL
open PySem PySem.Spec PyProof.Rows L2
abbrev Ks : Type := List (Addr × List Int)
/-- what was met so far -/
structure Met (ks : Ks) (i : Nat) (L : Ks) : Prop where
  sub : ∀ p ∈ L, p ∈ ks.take i
  all : ∀ p ∈ ks.take i, p.2 ∈ L.map (·.2)
theorem Met.one {ks L : Ks} {i : Nat} {x : Addr × List Int} (m : Met ks i L) (e : ks[i]? = some x) (hm : x.2 ∈ L.map (·.2)) : Met ks (i + 1) L := by
  have et : ks.take (i + 1) = ks.take i ++ [x] := take_next e
  refine ⟨fun p hp => by rw [et]; exact List.mem_append_left _ (m.sub p hp), fun p hp => ?_⟩
  rw [et] at hp
  rcases List.mem_append.mp hp with q | q
  · exact m.all p q
  · rwa [List.mem_singleton.mp q]
theorem Met.new {ks L N : Ks} {i : Nat} {x : Addr × List Int} (m : Met ks i L) (e : ks[i]? = some x) (pm : N.Perm (x :: L)) : Met ks (i + 1) N := by
  have et : ks.take (i + 1) = ks.take i ++ [x] := take_next e
  refine ⟨fun p hp => ?_, fun p hp => ?_⟩
  · rw [et]
    rcases List.mem_cons.mp (pm.mem_iff.mp hp) with q | q
    · exact List.mem_append_right _ (List.mem_singleton.mpr q)
    · exact List.mem_append_left _ (m.sub p q)
  · rw [(pm.map (·.2)).mem_iff, List.map_cons]
    rw [et] at hp
    rcases List.mem_append.mp hp with q | q
    · exact List.mem_cons_of_mem _ (m.all p q)
    · rw [List.mem_singleton.mp q]
      exact List.mem_cons_self
theorem nodup_le {α : Type} : ∀ {l m : List α}, l.Nodup → (∀ x ∈ l, x ∈ m) → l.length ≤ m.length
  | [], _, _, _ => Nat.zero_le _
  | x :: l, m, hn, hs => by
    obtain ⟨h1, h2⟩ := List.nodup_cons.mp hn
    obtain ⟨a, b, rfl⟩ := List.append_of_mem (hs x (List.mem_cons_self ..))
    have := nodup_le (l := l) (m := a ++ b) h2 fun y hy => by
      have hy' := hs y (List.mem_cons_of_mem _ hy)
      rcases List.mem_append.mp hy' with z | z
      · exact List.mem_append_left _ z
      · rcases List.mem_cons.mp z with z | z
        · subst z
          exact (h1 hy).elim
        · exact List.mem_append_right _ z
    simp only [List.length_append, List.length_cons] at this ⊢
    omega
/-- the object that set(..) makes first -/
abbrev newSet (w : World) : Obj := { cls := .type "set", dict := none, data := .set #[] 0 (.fresh 0 0 (!w.params.followText "set-order")) }
/-- the places of pairs -/
theorem rp_pairs {K : PySem.W.Frag} {H : Hp} : ∀ {xs : List V} {ps : List (Int × Int)}, RpL K H xs (ps.map tupP) → ∃ ks : Ks, xs = ks.map (fun q => V.ref q.1) ∧ ks.map (·.2) = ps.map (fun p => [p.1, p.2]) ∧ ∀ q ∈ ks, ∃ p ∈ ps, q.2 = [p.1, p.2] ∧ H q.1 = some (.tup [.int p.1, .int p.2])
  | _, [], .nil => ⟨[], rfl, rfl, fun q h => by cases h⟩
  | _, p :: ps, .cons h r => by
    obtain ⟨ks, e1, e2, e3⟩ := rp_pairs r
    cases h with
    | @tup a _ _ ha hr =>
      cases hr with
      | cons i1 hr =>
        cases hr with
        | cons i2 hr =>
          cases hr
          cases i1
          cases i2
          refine ⟨(a, [p.1, p.2]) :: ks, by rw [e1]; rfl, by rw [List.map_cons, List.map_cons, e2], fun q hq => ?_⟩
          rcases List.mem_cons.mp hq with rfl | hq
          · exact ⟨p, List.mem_cons_self .., rfl, ha⟩
          · obtain ⟨p', z1, z2⟩ := e3 q hq
            exact ⟨p', List.mem_cons_of_mem _ z1, z2⟩
def pr (l : List Int) : Int × Int := (l.getD 0 0, l.getD 1 0)
/-- what stands in the set -/
theorem set_perm {ps : List (Int × Int)} {L : Ks} (h1 : ∀ q ∈ L, ∃ p ∈ ps, q.2 = [p.1, p.2]) (h2 : ∀ p ∈ ps, [p.1, p.2] ∈ L.map (·.2)) (h3 : (L.map (·.2)).Nodup) : (L.map fun q => pr q.2).Perm (ddP ps) := by
  refine (List.perm_ext_iff_of_nodup ?_ ?_).mpr fun p => ?_
  · refine List.pairwise_map.mpr (List.Pairwise.imp_of_mem (fun {q r} hq hr hne => ?_) (List.pairwise_map.mp h3))
    obtain ⟨p, _, e1⟩ := h1 q hq
    obtain ⟨p', _, e2⟩ := h1 r hr
    rw [e1, e2] at hne ⊢
    intro z
    have z1 : p.1 = p'.1 := congrArg Prod.fst z
    have z2 : p.2 = p'.2 := congrArg Prod.snd z
    exact hne (by rw [z1, z2])
  · exact ddP_nodup _
  · rw [mem_ddP, List.mem_map]
    constructor
    · rintro ⟨q, hq, rfl⟩
      obtain ⟨p, hp, e⟩ := h1 q hq
      rw [e]
      exact hp
    · intro hp
      obtain ⟨q, hq, e⟩ := List.mem_map.mp (h2 p hp)
      exact ⟨q, hq, by rw [e]; rfl⟩
end DL

set_option Elab.async false
set_option linter.all false
set_option maxRecDepth 100000
set_option maxHeartbeats 1000000
/-! DL18: for .. in f(a, xs.pop()). -/
namespace DL
open PySem PySem.Spec PyProof.Rows L2 LamX
section
variable {X : Cx} {F : Fm} {pos : Pos}
/-- the turns of a loop, from where its items stand ready -/
theorem forL_run {D' : Ends} {J : It} {S : List Addr} {σ : L2.St} {H1 : Hp} {ρ : Rho} {ds : List D} {t : Tg} {body : Rho → SR} (ok : EnvOk X.K F S σ H1 ρ) (io : ItOk X.K S H1 J ds) (h1 : PostS X.K F S H1 D' (forL t body ds ρ)) :
    tFor (fun _ _ R => R J H1) (t.g X.K) (tS X.K F body) D' σ H1 := by
  refine ⟨fun i m σ' H' => ∃ S' ρ', EnvOk X.K F S' σ' H' ρ' ∧ Ex (hide H1 S) (hide H' S') ∧ i + m = ds.length ∧ PostS X.K F S' H' D' (forL t body (ds.drop i) ρ'),
    ⟨ds.length, S, ρ, ok, Ex.refl _, by omega, h1⟩, ?_⟩
  rintro i m σ' H' ⟨S', ρ', ok', x', em, hp'⟩
  by_cases c : i < ds.length
  · refine .inr ⟨io.go x' c, fun σ2 H2 => ∃ S2 ρ2, EnvOk X.K F S2 σ2 H2 ρ2 ∧ Ex (hide H1 S) (hide H2 S2) ∧ PostS X.K F S2 H2 D' (forL t body (ds.drop (i + 1)) ρ2), ?_, ?_⟩
    · rintro σ2 H2 ⟨S2, ρ2, ok2, x2, p2⟩
      exact ⟨m - 1, by omega, S2, ρ2, ok2, x2, by omega, p2⟩
    · intro v H2 hy
      obtain ⟨d, h3, s3, r3⟩ := io.yld ok'.sd x' hy c
      have ed' : ds.drop i = d :: ds.drop (i + 1) := by
        rw [List.drop_eq_getElem_cons c]
        have : ds[i] = d := by
          rw [List.getElem?_eq_getElem c] at h3
          exact Option.some.inj h3
        rw [this]
      rw [ed'] at hp'
      unfold forL at hp'
      cases ea : t.asg d ρ' with
      | none =>
        rw [ea] at hp'
        exact hp'.elim
      | some ρ1 =>
        rw [ea] at hp'
        have ok2 := ok'.up (F.gr.same s3)
        have x2 : Ex (hide H' S') (hide H2 S') := hide_mono (Ex.of s3) S'
        refine tg_of ok2 r3 ea t.vs (fun i hi => hi) fun σ3 ok3 _ => ⟨S', ρ1, ok3, ?_⟩
        dsimp only at hp'
        cases eb : body ρ1 with
        | nx ρ2 =>
          rw [eb] at hp'
          exact fun S4 σ4 H4 ok4 x4 => ⟨S4, ρ2, ok4, (x'.trans x2).trans x4, PostS.mono hp' (x2.trans x4)⟩
        | ct ρ2 =>
          rw [eb] at hp'
          exact fun S4 σ4 H4 ok4 x4 => ⟨S4, ρ2, ok4, (x'.trans x2).trans x4, PostS.mono hp' (x2.trans x4)⟩
        | bk ρ2 =>
          rw [eb] at hp'
          exact fun S4 σ4 H4 ok4 x4 => hp' S4 σ4 H4 ok4 (x2.trans x4)
        | rk d' ρ2 =>
          rw [eb] at hp'
          exact fun v4 S4 σ4 H4 ok4 x4 => hp' v4 S4 σ4 H4 ok4 (x2.trans x4)
        | rt d' =>
          rw [eb] at hp'
          exact hp'
        | er c' =>
          rw [eb] at hp'
          exact hp'
        | stuck =>
          rw [eb] at hp'
          exact hp'
  · have ei : i = ds.length := by omega
    refine .inl ⟨by rw [ei]; exact io.stop x', ?_⟩
    rw [List.drop_eq_nil_of_le (by omega)] at hp'
    exact hp' S' σ' H' ok' (Ex.refl _)
theorem ds_forPop {T : Tb} {f : Str} {k i : Nat} {m : List D → Res D} {ps : List Str} {x : Str} {p px apos cpos pc : Pos} {a tg : Expr} {sa : Rho → Res D} {t : Tg} {bd : List Stmt} {body : Rho → SR} (hF : Fits T F) (Fn : FD T X.prog X.w X.K X.mg X.base k f ps m) (hr : Room k X.A)
    (hx : Passes (L2.CX X.prog X.w) X F.E) (hp : PassesOwn (model X.prog X.w) X.A X.env X.xe) (hc : X.calm = true) (ha : DP X F a sa) (hg : DG X tg t) (hb : DSs X F bd body) (hN : X.N[i]? = some x := by rfl)
    (hv : Vis X.env.scope x := by first | exact Or.inl rfl | exact Or.inr (Or.inl rfl) | exact Or.inr (Or.inr rfl)) (hd : (x == ("__debug__" : Str)) = false := by decide) (hcd : (x == ("__classdict__" : Str)) = false := by decide)
    (hgf : Gl X f := by rfl) (hdb : (f == ("__debug__" : Str)) = false := by decide)
    (hbase : attributeBase (.Name x px) "pop" X.env (eval (.Name x px) X.env) = eval (.Name x px) X.env := by rfl) (hline : (apos.endLine == cpos.line) = true := by rfl)
    (hs1 : starEach [.Call (.Attribute (.Name x px) "pop" apos) [] [] cpos] X.env = (false, eval (.Call (.Attribute (.Name x px) "pop" apos) [] [] cpos) X.env) :: starEach [] X.env := by rfl)
    (he : starEach [a, .Call (.Attribute (.Name x px) "pop" apos) [] [] cpos] X.env = (false, eval a X.env) :: starEach [.Call (.Attribute (.Name x px) "pop" apos) [] [] cpos] X.env := by rfl)
    (hpl : (backTo pc (starEach [.Call (.Attribute (.Name x px) "pop" apos) [] [] cpos] X.env)).any (·.1) = false := by rfl)
    (hs : ∀ z, foldedSetIterable (.Call (.Name f p) [a, .Call (.Attribute (.Name x px) "pop" apos) [] [] cpos] [] pc) X.env z = pure z := by intro _; rfl) :
    DS X F (.For tg (.Call (.Name f p) [a, .Call (.Attribute (.Name x px) "pop" apos) [] [] cpos] [] pc) bd [] pos) (sForPop m sa i t body) := by
  obtain ⟨fd, h1, h2, h3, h4⟩ := Fn
  have pe := pe_call (pos := pc) (p := p) h1 hr hgf h3 h4 h2 .nil hx (pa_cons ha (pa_cons (pe_bm0 (cpos := cpos) PySem.F.plainAttrs_list PySem.F.slot_list_pop PySem.F.type_list_pop mt_pop (pe_var (pos := px) hN hv hd hcd) hbase hline) pa_nil hs1) he) hdb he hpl
  -- what is walked
  have pi : PI X tg (.Call (.Name f p) [a, .Call (.Attribute (.Name x px) "pop" apos) [] [] cpos] [] pc) (fun σ H R => ∃ S ρ, EnvOk X.K F S σ H ρ ∧ PostK X.K (⟨fun S H (Q : It → Hp → Prop) (da : D) => ∃ d ρ', popR i ρ = some (d, ρ') ∧ (match m [da, d] with
      | .ok r => ∃ es, r = .lst es ∧ ∀ J H', EnvOk X.K F S σ H' ρ' → Ex (hide H S) (hide H' S) → es.length ≤ sizeLine → ItOk X.K S H' J es → Q J H'
      | .err c => ∀ H', F.I H' → F.E (.ref (He.ga X.K c)) none H'
      | .stuck => False), fun {S H H1 Q d} g h => by
        obtain ⟨d', ρ', e1, h⟩ := h
        refine ⟨d', ρ', e1, ?_⟩
        cases e : m [d, d'] with
        | ok r =>
          rw [e] at h
          obtain ⟨es, e2, h⟩ := h
          exact ⟨es, e2, fun J H' ok' x' l io => h J H' ok' ((hide_mono (F.gr.ex g) S).trans x') l io⟩
        | err c =>
          rw [e] at h
          exact h
        | stuck =>
          rw [e] at h
          exact h⟩ : Kd F It D) S H R (sa ρ)) := by
    refine ⟨fun pins s0 σ H R I h => ?_⟩
    obtain ⟨S, ρ, ok, q⟩ := h
    refine thn (pe.run pins s0 σ H (fun v H1 => ∃ es ρ', EnvOk X.K F S σ H1 ρ' ∧ Ex (hide H S) (hide H1 S) ∧ Rp X.K (hide H1 S) v (.lst es) ∧ ∀ J H', EnvOk X.K F S σ H' ρ' → Ex (hide H S) (hide H' S) → es.length ≤ sizeLine → ItOk X.K S H' J es → R J H') I ⟨S, ρ, ok, ?_⟩) fun v s1 ⟨y, H1, I1, r1, es, ρ', ok1, x1, rp, q1⟩ => ?_
    · cases e : sa ρ with
      | err c =>
        rw [e] at q
        exact q
      | stuck =>
        rw [e] at q
        exact q
      | ok da =>
        rw [e] at q
        intro va H1 g1 ra
        obtain ⟨d, ρ', ep, q⟩ := q
        unfold popR at ep
        split at ep
        · next ds ei =>
          split at ep
          · next d' el =>
            cases ep
            have ok1 := ok.up g1
            obtain ⟨o, z1, w, rfl, z2⟩ := ok1.slots i _ ei
            obtain ⟨b, xs, rfl, b1, b2, b3⟩ := z2.ref
            have hlen := b3.len
            have hlast : ds[ds.length - 1]? = some d := by
              rw [← List.getLast?_eq_getElem?]
              exact el
            obtain ⟨yv, y1, y2⟩ := b3.get hlast
            refine ⟨_, z1, .inl ⟨rfl, _, SqL.of b2⟩, b, xs, yv, rfl, rfl, b2, by rw [hlen]; exact y1, ?_⟩
            have hid : hide (upd H1 b (.lst xs.dropLast)) S = hide H1 S := hide_upd b1
            have ok2 : EnvOk X.K F S σ (upd H1 b (.lst xs.dropLast)) (ρ.set i (.ow (.lst ds.dropLast))) := ok1.turn ei z1 (.lst b1 upd_same (by
              rw [hid, List.dropLast_eq_take, List.dropLast_eq_take, hlen]
              exact b3.take _))
            show spD X.K T m ([va, yv] ++ []) _ _ F.E
            refine ⟨hF.t ok2.grow, [da, d], S, ok2.sdom, ?_, ?_⟩
            · rw [hid]
              exact .cons ra (.cons y2 .nil)
            · cases em : m [da, d] with
              | stuck =>
                rw [em] at q
                exact q
              | err c =>
                rw [em] at q
                exact fun H' g => q H' (F.up ok2.grow (hF.g g))
              | ok r =>
                rw [em] at q
                obtain ⟨es, rfl, q⟩ := q
                intro v H2 g r2
                have ok3 := ok2.up (hF.g g)
                refine ⟨es, _, ok3, ?_, r2, q⟩
                have x2 := hide_mono (F.gr.ex (hF.g g)) S
                rw [hid] at x2
                exact (hide_mono (F.gr.ex g1) S).trans x2
          · cases ep
        · cases ep
    · cases rp with
      | @lst l xs _ l1 l2 =>
        cases r1
        obtain ⟨its, rv, pl, hz⟩ := I1.list (SqL.of (hide_in l1).2)
        refine wpAny_pyIter_list pl.isList ?_
        refine ⟨s1.heap.objs.size, [s1.heap.objs.size], _, _, H1, rfl, I1.kept (t' := s1.toks) fun b o e => Heap.get?_push_of_some _ e, turn_list l _, ⟨_, Heap.get?_push_size _ rfl, rfl, rfl⟩, fun b hb => ?_, q1 _ H1 ok1 x1 (by rw [← l2.len]; exact hz) (it_lst l1 l2)⟩
        have e : b = s1.heap.objs.size := by simpa using hb
        subst e
        exact I1.fpOk (Nat.le_refl _) (I1.hok.fresh (Nat.le_refl _))
  refine PS.imp (ps_for hp hc pi hg hb hs) fun D' σ H ⟨S, ρ, ok, h⟩ => ?_
  unfold sForPop at h
  refine ⟨S, ρ, ok, post_sbind h fun da ed h1 => ?_⟩
  show ∃ d ρ', popR i ρ = some (d, ρ') ∧ _
  cases ep : popR i ρ with
  | none =>
    rw [ep] at h1
    exact h1.elim
  | some z =>
    obtain ⟨d, ρ'⟩ := z
    rw [ep] at h1
    dsimp only at h1
    refine ⟨d, ρ', rfl, ?_⟩
    cases em : m [da, d] with
    | stuck =>
      rw [em] at h1
      exact h1
    | err c =>
      rw [em] at h1
      exact h1
    | ok r =>
      rw [em] at h1
      cases r with
      | lst es =>
        refine ⟨es, rfl, fun J H1 ok1 x1 _ io => ?_⟩
        have h2 : PostS X.K F S H1 D' (forL t body es ρ') := PostS.mono (r := forL t body es ρ') h1 x1
        exact forL_run ok1 io h2
      | _ => exact h1.elim
end
end DL

set_option Elab.async false
set_option linter.all false
set_option maxRecDepth 100000
set_option maxHeartbeats 1000000
/-! DL21: min of a list by a lambda's key. -/
namespace DL
open PySem PySem.Spec PyProof.Rows L2 LamX
/-! ### within a built-in -/
def inX (X : Cx) : Cx := { X with A := X.A.in1, xe := fun _ _ => False }
section
variable {X : Cx} {pins : List (Addr × Obj)} {σ : L2.St} {H : Hp} {s : Shared}
theorem inn (I : Inv X pins σ H s) : Inv (inX X) pins σ H s :=
  ⟨⟨I.ok.mod, I.ok.kind, I.ok.glob, I.ok.blt, I.ok.above, I.ok.inj, I.ok.has, I.ok.cab, I.ok.hd, I.ok.frames, I.ok.stk, I.ok.exf, I.ok.bs, I.ok.bsz, I.ok.noex, I.ok.exfs, I.ok.funs, I.ok.frf⟩, I.os, I.bare, I.base, I.loc, I.cell, I.free, I.freeC, I.pin, I.hok, I.len⟩
theorem outn (I : Inv (inX X) pins σ H s) : Inv X pins σ H s :=
  ⟨⟨I.ok.mod, I.ok.kind, I.ok.glob, I.ok.blt, I.ok.above, I.ok.inj, I.ok.has, I.ok.cab, I.ok.hd, I.ok.frames, I.ok.stk, I.ok.exf, I.ok.bs, I.ok.bsz, I.ok.noex, I.ok.exfs, I.ok.funs, I.ok.frf⟩, I.os, I.bare, I.base, I.loc, I.cell, I.free, I.freeC, I.pin, I.hok, I.len⟩
end
/-! ### a lambda with one parameter -/
structure LamS1 (sc scope : Scope) (p : Str) : Prop where
  kind : scope.kind = .function
  co : scope.isCoroutine = false
  gen : scope.isGenerator = false
  own : ∀ y ∈ scope.names, y.2 ≠ .cell ∧ (y.2 = .local → y.1 = p)
  par : scope.names.lookup p = some .local
  free : ∀ y ∈ scope.names, y.2 = .free → sc.names.lookup y.1 = some .cell ∨ sc.names.lookup y.1 = some .free
def lamSB1 (sc scope : Scope) (p : Str) : Bool :=
  decide (scope.kind = .function) && (!scope.isCoroutine && (!scope.isGenerator && (decide (scope.names.lookup p = some .local) && scope.names.all fun y => !decide (y.2 = .cell) && ((!decide (y.2 = .local) || decide (y.1 = p)) && (!decide (y.2 = .free) || (decide (sc.names.lookup y.1 = some .cell) || decide (sc.names.lookup y.1 = some .free)))))))
theorem lamS1_by {sc scope : Scope} {p : Str} (h : lamSB1 sc scope p = true) : LamS1 sc scope p := by
  unfold lamSB1 at h
  simp only [Bool.and_eq_true, Bool.or_eq_true, Bool.not_eq_true', decide_eq_true_eq, decide_eq_false_iff_not, List.all_eq_true] at h
  obtain ⟨h1, h2, h3, h4, h5⟩ := h
  refine ⟨h1, h2, h3, fun y hy => ⟨(h5 y hy).1, fun e => ?_⟩, h4, fun y hy e => ?_⟩
  · rcases (h5 y hy).2.1 with z | z
    · exact absurd e z
    · exact z
  · rcases (h5 y hy).2.2 with z | z
    · exact absurd e z
    · exact z
theorem LamS1.has {X : Cx} {scope : Scope} {p : Str} (L : LamS1 X.env.scope scope p) (ok : X.Ok) : ∀ y ∈ scope.names, y.2 = .free → ∃ c, X.env.cells.lookup y.1 = some c := fun y hy e => by
  rcases L.free y hy e with k | k
  · exact ok.has _ (.inl k)
  · exact ok.has _ (.inr k)
def lamCx1 (X : Cx) (A : Around) (outer : List Env) (s : Shared) (H : Hp) (E : XK) (scope : Scope) (f c' : Addr) (p : Str) : Cx := { lamCx X A outer s H E scope f c' with N := X.N ++ [p] }
section
variable {X : Cx} {pins : List (Addr × Obj)} {σ : L2.St} {H : Hp} {s : Shared}
theorem lam_start1 {A : Around} {outer : List Env} {E : XK} {scope : Scope} {f c' : Addr} {h₁ : Heap} {tk : Nat} {p : Str} {x : V} {u : Value} (I : Inv X pins σ H s) (L : LamS1 X.env.scope scope p) (hp : p ∉ X.N) (e0 : Env0 X.prog X.w X.K X.mg X.base A outer s H) (hd : A.handled = none)
    (ru : RelV x u) (hns : h₁.Ns s.heap.objs.size fun y => ([(p, u)] : List (Str × Value)).reverse.lookup y) (kp : ∀ b o, s.heap.get? b = some o → h₁.get? b = some o) :
    Inv (lamCx1 X A outer s H E scope f c' p) [] (σ ++ [some x]) H { s with heap := h₁, toks := tk } := by
  have hfree := L.has I.ok
  have cm : ∀ {y c}, (cloFrom X.env.cells scope.names []).lookup y = some c → X.env.cells.lookup y = some c := fun {y c} e => by
    rcases cloFrom_mem (PySem.mem_of_lookup e) with hm | ⟨h1, h2⟩
    · cases hm
    · obtain ⟨c1, hc⟩ := hfree _ h1 rfl
      have hc : X.env.cells.lookup y = some c1 := hc
      have e2 : c = c1 := by
        rw [h2, hc] <;> rfl
      rw [e2]
      exact hc
  have look : ∀ {y}, scope.names.lookup y = some .free → ∃ c, (cloFrom X.env.cells scope.names []).lookup y = some c := fun {y} hl => by
    have hy : (y, NameKind.free) ∈ scope.names := PySem.mem_of_lookup hl
    exact mem_lookup (cloFrom_has (cells := X.env.cells) (acc := []) hy)
  have cellK : ∀ {c : Addr} {v : Option Value}, s.heap.IsCell c v → h₁.IsCell c v := fun {c v} ⟨o, ho, hd⟩ => ⟨_, kp _ _ ho, hd⟩
  have noA : ∀ b : Addr, b ∉ (lamCx1 X A outer s H E scope f c' p).ex := fun b z => absurd (show b ∈ ([] : List Addr) from z) (by simp)
  refine ⟨⟨e0.mod, L.kind, rfl, rfl, Nat.le_refl _, fun y z c e1 e2 => I.ok.inj y z c (cm e1) (cm e2), fun y hy => ?_, fun y c z _ => ?_, fun _ => hd, Around.frames_deeper e0.frames, .inr ⟨rfl, rfl⟩, fun b z => absurd z (noA b), e0.bs, e0.bsz, fun b _ _ => noA b,
      fun b z => absurd z (noA b), e0.funs, e0.frf⟩,
    rfl, e0.bare, Un.kept kp, ⟨_, hns, fun i y v e1 e2 e3 => ?_⟩, fun y c e => ?_, e0.hok.fresh (Nat.le_refl _), fun y c e => I.freeC y c (cm e), fun q hq => absurd (show q ∈ ([] : List (Addr × Obj)) ++ [] from hq) (by simp), e0.hok.kept kp, ?_⟩
  · have hy : scope.names.lookup y = some .cell ∨ scope.names.lookup y = some .free := hy
    rcases hy with hy | hy
    · exact absurd rfl (L.own _ (PySem.mem_of_lookup hy)).1
    · exact look hy
  · have z : false = true := z
    cases z
  · have e1 : (X.N ++ [p])[i]? = some y := e1
    have e3 : Vis scope y := e3
    have hl := I.len
    by_cases hi : i < X.N.length
    · rw [List.getElem?_append_left hi] at e1
      rw [List.getElem?_append_left (by omega)] at e2
      have ny : y ≠ p := fun z => hp (by rw [← z]; exact List.mem_of_getElem? e1)
      rcases e3 with k | k | k
      · exact absurd ((L.own _ (PySem.mem_of_lookup k)).2 rfl) ny
      · exact absurd rfl (L.own _ (PySem.mem_of_lookup k)).1
      · obtain ⟨m, hn, hl⟩ := I.loc
        have hvis : Vis X.env.scope y := (L.free _ (PySem.mem_of_lookup k) rfl).elim (fun k => .inr (.inl k)) (fun k => .inr (.inr k))
        obtain ⟨w', r, q⟩ := hl i y v e1 e2 hvis
        obtain ⟨c2, h2⟩ := look k
        refine ⟨w', r, .inr ⟨.inr k, c2, h2, ?_⟩⟩
        have c1 := cm h2
        rcases q with ⟨k', _⟩ | ⟨_, c3, e', z⟩
        · have k' : X.env.scope.names.lookup y = some .local := k'
          rcases L.free _ (PySem.mem_of_lookup k) rfl with k2 | k2 <;> rw [show X.env.scope.names.lookup y = _ from k2] at k' <;> cases k'
        · rw [c1] at e'
          cases e'
          exact cellK z
    · have hi2 : i = X.N.length := by
        have := (List.getElem?_eq_some_iff.mp e1).1
        rw [List.length_append, List.length_singleton] at this
        omega
      rw [hi2, List.getElem?_append_right (Nat.le_refl _), Nat.sub_self] at e1
      rw [hi2, List.getElem?_append_right (by omega), hl, Nat.sub_self] at e2
      cases e1
      cases e2
      refine ⟨u, ru, .inl ⟨L.par, ?_⟩⟩
      show List.lookup p [(p, u)] = some u
      rw [List.lookup_cons, beq_self_eq_true]
  · obtain ⟨w', z⟩ := I.cell y c (cm e)
    exact ⟨w', cellK z⟩
  · show (σ ++ [some x]).length = (X.N ++ [p]).length
    rw [List.length_append, List.length_append, I.len]
    rfl
abbrev E0 : XK := fun _ _ _ => False
theorem lam_call1 {scope : Scope} {f c' : Addr} {pm ctv : Value} {params : Arguments} {body : Expr} {p : Str} {x : V} {u : Value} {Q : VK} {tb : TE} {k : Nat} (I : Inv X pins σ H s) (L : LamS1 X.env.scope scope p) (hp : p ∉ X.N)
    (hf : s.heap.get? f = some (PySem.W.kla_obj "<lambda>" (X.env.qual ++ "<lambda>") params body scope (cloFrom X.env.cells scope.names []) pm c' ctv)) (hc : H c' = some (CodeO c' (X.env.qual ++ "<lambda>")))
    (hbind : bindArgs (PySem.W.kla_fn "<lambda>" (X.env.qual ++ "<lambda>") params body scope (cloFrom X.env.cells scope.names []) pm (.ref c') ctv) ⟨[u], []⟩ = pure [(p, u)]) (hr : Room (k + 2) X.A) (ru : RelV x u)
    (hbody : ∀ (A : Around) (outer : List Env) (s : Shared) (H : Hp), Room k (A.deeper (lamEnv X scope s.heap.objs.size f c')) → PE (lamCx1 X A outer s H E0 scope f c' p) body tb) (ht : tb (σ ++ [some x]) H Q) :
    wpAny (model X.prog X.w) X.A.in1 (call (.ref f) [u]) (EP X pins σ Q) (fun _ _ => False) s := by
  obtain ⟨⟨oc, vs, t, hoc, hdc, hvc⟩, _, _⟩ := I.hok c' _ hc
  have hr1 : Room (k + 1) X.A.in1 := Room.in1 hr
  have rc : codeAny (model X.prog X.w) X.A.in1 (.call (.ref f) ⟨[u], []⟩) (CR (L2.CX X.prog X.w) X.stack X.prog X.w H s Q E0) s := by
    refine PySem.W.kla_callFunE hr1.depth hf rfl L.co L.gen rfl ⟨c', oc, vs, t, rfl, hoc, hdc, hvc⟩ ?_
    rw [hbind]
    refine wpAny_pure (wpAny_newFunctionEnv (fun y hy => (L.own y hy).1) (fun y hy => ?_) (fun h₁ hns hsb => ⟨I.nolimit.fresh _ hsb, ?_⟩) L.kind)
    · rw [List.mem_singleton.mp hy]
      exact L.par
    show codeAny _ _ (.expr body (lamEnv X scope s.heap.objs.size f c')) _ _
    have kp : ∀ b o, s.heap.get? b = some o → h₁.get? b = some o := fun b o e => hsb.extBut b o (Nat.ne_of_lt (Heap.lt_size e)) (Heap.get?_push_of_some _ e)
    have J : Inv (lamCx1 X X.A.in1 X.stack s H E0 scope f c' p) [] (σ ++ [some x]) H { s with heap := h₁, toks := s.toks + ([(p, u)] : List (Str × Value)).length } :=
      lam_start1 I L hp (Env0.in1 I.env0) hr1.hd ru hns kp
    refine PySem.W.kla_codeExpr (wpAny_mono ((hbody _ _ s H (hr1.deeper _)).run [] _ _ H Q J ht) (fun v s' hq => ?_) fun e s' hq => hq)
    obtain ⟨w', H', J', rv, q⟩ := hq
    exact ⟨w', H', J'.os, J'.bare, J'.base, J'.hok, rv, q⟩
  refine wpAny_call (codeAny_mono rc fun r s' hq => ?_)
  cases r with
  | error e =>
    obtain ⟨_, _, _, _, _, _, _, _, _, _, _, _, q⟩ := hq
    exact q.elim
  | ok fl =>
    cases fl with
    | ret u => exact I.after hq
    | next => exact False.elim hq
    | brk => exact False.elim hq
    | cont => exact False.elim hq
end
/-! ### the loop -/
def pickM : D → D → List (D × D) → Option D
  | bd, _, [] => some bd
  | bd, bk, (d, k) :: r => match dLt k bk with
    | some (.bl true) => pickM d k r
    | some (.bl false) => pickM bd bk r
    | _ => none
/-- what the loop leans on -/
structure MinH (X : Cx) (F : Fm) (S : List Addr) (σ : L2.St) (pins : List (Addr × Obj)) (f it : Addr) (fo : Obj) (tn : Nat → Heap → Prop) (H0 : Hp) (xs : List V) (ds ks : List D) : Prop where
  nxt : ∀ (i : Nat) (pn : List (Addr × Obj)) (s : Shared) (H : Hp) (x : V) (E : Value → Shared → Prop), Inv X pn σ H s → FpOk X pn H it → tn i s.heap → F.G H0 H → xs[i]? = some x →
    wpAny (model X.prog X.w) X.A.in1 (pyNext (.ref it)) (fun r s1 => ∃ u, r = some u ∧ RelV x u ∧ Inv X pn σ H s1 ∧ tn (i + 1) s1.heap ∧ ∀ b o, b ≠ it → s.heap.get? b = some o → s1.heap.get? b = some o) E s
  stop : ∀ (i : Nat) (pn : List (Addr × Obj)) (s : Shared) (H : Hp) (E : Value → Shared → Prop), Inv X pn σ H s → FpOk X pn H it → tn i s.heap → F.G H0 H → xs.length ≤ i →
    wpAny (model X.prog X.w) X.A.in1 (pyNext (.ref it)) (fun r s1 => r = none ∧ Inv X pn σ H s1 ∧ ∀ b o, b ≠ it → s.heap.get? b = some o → s1.heap.get? b = some o) E s
  obj : ∀ i h, tn i h → ∃ o, h.get? it = some o ∧ ∀ v, o.data ≠ .cell v
  keep : ∀ i h h' o, tn i h → h.get? it = some o → h'.get? it = some o → tn i h'
  key : ∀ (i : Nat) (pn : List (Addr × Obj)) (s : Shared) (H : Hp) (x : V) (u : Value) (k : D), s.heap.get? f = some fo → Inv X pn σ H s → F.G H0 H → xs[i]? = some x → RelV x u → ks[i]? = some k →
    wpAny (model X.prog X.w) X.A.in1 (call (.ref f) [u]) (EP X pn σ fun kv H' => F.G H H' ∧ Rp X.K (hide H' S) kv k) (fun _ _ => False) s
  sd : ∀ H, F.G H0 H → Sd S H
  rp : RpL X.K (hide H0 S) xs ds
section
variable {X : Cx} {F : Fm} {S : List Addr} {σ : L2.St} {pins : List (Addr × Obj)} {f it St : Addr} {fo : Obj} {tn : Nat → Heap → Prop} {H0 : Hp} {xs : List V} {ds ks : List D}
theorem Inv.upd_rec {pn : List (Addr × Obj)} {H : Hp} {s : Shared} {g : Obj → Obj} (I : Inv X pn σ H s) (hS : FpOk X pn H St) : Inv X pn σ H { s with heap := s.heap.update St g } := by
  obtain ⟨f0, f1, f2, f3, f4, f5⟩ := hS
  exact I.turned (t' := s.toks) (fun b o hb e => (Heap.get?_update_ne _ _ _ _ hb).trans e) f0 f1 f3 f4 f5
theorem rp_up {K : PySem.W.Frag} {H H' : Hp} {v : V} {d : D} (g : F.G H H') (r : Rp K (hide H S) v d) : Rp K (hide H' S) v d := r.ex (hide_mono (F.gr.ex g) S)
theorem min_loop (M : MinH X F S σ pins f it fo tn H0 xs ds ks) (hu : X.A.units + 102 < cLine) {R : Result → Shared → Prop} {d : D}
    (hR : ∀ v u s' H', Inv X pins σ H' s' → F.G H0 H' → RelV v u → Rp X.K (hide H' S) v d → R (.ok (.ret u)) s') (hks : ks.length = xs.length)
    (nfi : f ≠ it) (nfs : f ≠ St) (nsi : St ≠ it) (Fi : ∀ H, H it = none → FpOk X pins H it) (Fs : ∀ H, H St = none → FpOk X pins H St) (hfd : ∀ v, fo.data ≠ .cell v) :
    ∀ (n j : Nat), j + n = xs.length → ∀ (s : Shared) (H : Hp) (bx bkx : V) (vb kb : Value) (bd bk : D) (c : Nat) (oi : Obj), Inv X ((f, fo) :: (St, seqObj "list" #[vb, kb] c) :: (it, oi) :: pins) σ H s → tn j s.heap → F.G H0 H →
      RelV bx vb → RelV bkx kb → Rp X.K (hide H S) bx bd → Rp X.K (hide H S) bkx bk → pickM bd bk ((ds.zip ks).drop j) = some d →
      codeAny (model X.prog X.w) X.A (.builtin "min.loop" ⟨[.ref it, .ref f, .ref St], []⟩) R s := by
  have hname : (toString "min" ++ toString ".loop" : String) = "min.loop" := by decide
  have pinsOk : ∀ {pn : List (Addr × Obj)} {H : Hp} {s : Shared}, Inv X pn σ H s → (∀ p ∈ pins, p ∈ pn) → ∀ p ∈ pins, s.heap.get? p.1 = some p.2 ∧ H p.1 = none ∧ p.1 ≠ X.env.locals ∧ p.1 ∉ X.fs ∧ ∀ v, p.2.data ≠ .cell v := fun J hm p hp => J.pin p (List.mem_append_right _ (hm p hp))
  intro n
  induction n with
  | zero =>
    intro j hj s H bx bkx vb kb bd bk c oi I ht g rb rk pb pk e
    have hd0 : (ds.zip ks).drop j = [] := by
      rw [List.drop_eq_nil_iff, List.length_zip, ← M.rp.len, hks]
      omega
    rw [hd0] at e
    cases e
    obtain ⟨nS, hS0, hS1, hS2, hS3⟩ := I.pin (St, seqObj "list" #[vb, kb] c) (List.mem_append_right _ (by simp))
    obtain ⟨nI, hI0, hI1, hI2, hI3⟩ := I.pin (it, oi) (List.mem_append_right _ (by simp))
    have I0 : Inv X pins σ H s := I.pins_of (pinsOk I fun p hp => by simp [hp])
    refine codeAny_builtin PySem.F.entry_min_loop ?_
    rw [Around.under_plainId PySem.F.plain_min_loop _]
    show wpAny _ X.A.in1 (seqItems? (.ref St) >>= _) _ _ _
    refine wpAny_bind (wpAny_seqItems nS rfl ?_)
    show wpAny _ X.A.in1 (tryCatch (pyNext (.ref it)) _ >>= _) _ _ _
    refine wpAny_bind (wpAny_tryCatch (wpAny_mono (M.stop j pins s H _ I0 (Fi H hI0) ht g (by omega)) (fun r s1 hr => ?_) fun _ _ z => z))
    obtain ⟨rfl, I1, kp⟩ := hr
    have hS' := kp St _ nsi nS
    show wpAny _ X.A.in1 (updateSeq St (fun _ => #[]) >>= _) _ _ _
    refine wpAny_bind ?_
    refine wpAny_updateSeq hS' rfl (wpAny_bind (wpAny_letGo (wpAny_pure ?_)))
    exact hR bx vb _ H (Inv.upd_rec I1 (Fs H hS0)) g rb pb
  | succ n ih =>
    intro j hj s H bx bkx vb kb bd bk c oi I ht g rb rk pb pk e
    have hlt : j < xs.length := by omega
    obtain ⟨x, hx⟩ : ∃ x, xs[j]? = some x := ⟨_, List.getElem?_eq_getElem hlt⟩
    obtain ⟨dj, hdj, rdj⟩ := M.rp.get' hx
    obtain ⟨k, hk⟩ : ∃ k, ks[j]? = some k := ⟨_, List.getElem?_eq_getElem (by omega)⟩
    have hdz : (ds.zip ks).drop j = (dj, k) :: (ds.zip ks).drop (j + 1) := by
      have hl : j < (ds.zip ks).length := by
        rw [List.length_zip, ← M.rp.len, hks]
        omega
      rw [List.drop_eq_getElem_cons hl, List.getElem_zip]
      obtain ⟨_, e1⟩ := List.getElem?_eq_some_iff.mp hdj
      obtain ⟨_, e2⟩ := List.getElem?_eq_some_iff.mp hk
      rw [e1, e2]
    rw [hdz] at e
    obtain ⟨nF, hF0, hF1, hF2, hF3⟩ := I.pin (f, fo) (List.mem_append_right _ (by simp))
    obtain ⟨nS, hS0, hS1, hS2, hS3⟩ := I.pin (St, seqObj "list" #[vb, kb] c) (List.mem_append_right _ (by simp))
    obtain ⟨nI, hI0, hI1, hI2, hI3⟩ := I.pin (it, oi) (List.mem_append_right _ (by simp))
    have I0 : Inv X pins σ H s := I.pins_of (pinsOk I fun p hp => by simp [hp])
    refine codeAny_builtin PySem.F.entry_min_loop ?_
    rw [Around.under_plainId PySem.F.plain_min_loop _]
    show wpAny _ X.A.in1 (seqItems? (.ref St) >>= _) _ _ _
    refine wpAny_bind (wpAny_seqItems nS rfl ?_)
    show wpAny _ X.A.in1 (tryCatch (pyNext (.ref it)) _ >>= _) _ _ _
    refine wpAny_bind (wpAny_tryCatch (wpAny_mono (M.nxt j pins s H x _ I0 (Fi H hI0) ht g hx) (fun r s1 hr => ?_) fun _ _ z => z))
    obtain ⟨u, rfl, ru, I1, t1, kp⟩ := hr
    obtain ⟨oi1, ni1, di1⟩ := M.obj _ _ t1
    have I2 : Inv X ((f, fo) :: (St, seqObj "list" #[vb, kb] c) :: (it, oi1) :: pins) σ H s1 := I1.pins_of fun p hp => by
      rcases List.mem_cons.mp hp with rfl | hp
      · exact ⟨kp _ _ nfi nF, hF0, hF1, hF2, hF3⟩
      rcases List.mem_cons.mp hp with rfl | hp
      · exact ⟨kp _ _ nsi nS, hS0, hS1, hS2, hS3⟩
      rcases List.mem_cons.mp hp with rfl | hp
      · exact ⟨ni1, hI0, hI1, hI2, di1⟩
      · exact I1.pin p (List.mem_append_right _ hp)
    show wpAny _ X.A.in1 (tryCatch (holding [u] (call (.ref f) [u])) _ >>= _) _ _ _
    refine wpAny_bind (wpAny_tryCatch (wpAny_holding (wpAny_mono (M.key j _ s1 H x u k (kp _ _ nfi nF) I2 g hx ru hk) (fun kv s2 he => ?_) fun _ _ hF => hF.elim)))
    obtain ⟨kx, H2, I3, rkv, g2, rpk⟩ := he
    have g02 := F.gr.trans g g2
    have pk2 := rp_up g2 pk
    have pb2 := rp_up g2 pb
    cases el : dLt k bk with
    | none =>
      simp only [pickM, el] at e
      cases e
    | some z =>
      simp only [pickM, el] at e
      obtain ⟨b, rfl⟩ : ∃ b, z = .bl b := by
        cases z with
        | bl b => exact ⟨b, rfl⟩
        | _ => cases e
      have hc : wpAny (model X.prog X.w) X.A.in1 (richCompare .Lt kv kb) (EP (inX X) ((f, fo) :: (St, seqObj "list" #[vb, kb] c) :: (it, oi1) :: pins) σ fun v H' => v = .bl b ∧ Same H2 H') (fun _ _ => False) s2 :=
        (op_ltP (X := inX X) (by show X.A.units + 1 + 100 < cLine; omega)) _ s2 σ H2 kx bkx kv kb (fun v H' => v = .bl b ∧ Same H2 H') (inn I3) rkv rk ⟨S, k, bk, .bl b, M.sd H2 g02, .inl rpk, .inl pk2, el, fun v H' sm r => ⟨r.bl_inv, sm⟩⟩
      show wpAny _ X.A.in1 (tryCatch (holding [u, kv] (richCompare .Lt kv kb >>= _)) _ >>= _) _ _ _
      refine wpAny_bind (wpAny_tryCatch (wpAny_holding (wpAny_bind (wpAny_mono hc (fun ans s3 hq => ?_) fun _ _ z => z.elim))))
      obtain ⟨v', H3, I4', rans, rfl, sm⟩ := hq
      have I4 := outn I4'
      have ea : ans = .bool b := rans
      subst ea
      refine wpAny_bind (wpAny_holding (wpAny_truthy_bool ?_))
      refine wpAny_bind (wpAny_letGo (wpAny_pure ?_))
      have g23 := F.gr.same sm
      have g03 := F.gr.trans g02 g23
      obtain ⟨nF, hF0, hF1, hF2, hF3⟩ := I4.pin (f, fo) (List.mem_append_right _ (by simp))
      obtain ⟨nS, hS0, hS1, hS2, hS3⟩ := I4.pin (St, seqObj "list" #[vb, kb] c) (List.mem_append_right _ (by simp))
      obtain ⟨nI, hI0, hI1, hI2, hI3⟩ := I4.pin (it, oi1) (List.mem_append_right _ (by simp))
      have t3 := M.keep _ _ _ _ t1 ni1 nI
      cases b with
      | true =>
        simp only [if_true]
        refine wpAny_bind ?_
        refine wpAny_updateSeq nS rfl (wpAny_bind (wpAny_letGo ?_))
        rw [hname]
        obtain ⟨c2, hc2⟩ : ∃ c2, (s3.heap.update St (Obj.mapSeq fun _ => #[u, kv])).get? St = some (seqObj "list" #[u, kv] c2) := ⟨_, get?_update_seq nS fun _ => #[u, kv]⟩
        have I5 : Inv X pins σ H3 s3 := I4.pins_of (pinsOk I4 fun p hp => by simp [hp])
        have I6 := Inv.upd_rec (g := Obj.mapSeq fun _ => #[u, kv]) I5 (Fs H3 hS0)
        have nI6 : (s3.heap.update St (Obj.mapSeq fun _ => #[u, kv])).get? it = some oi1 := (Heap.get?_update_ne _ _ _ _ (Ne.symm nsi)).trans nI
        have I7 : Inv X ((f, fo) :: (St, seqObj "list" #[u, kv] c2) :: (it, oi1) :: pins) σ H3 { s3 with heap := s3.heap.update St (Obj.mapSeq fun _ => #[u, kv]) } := I6.pins_of fun p hp => by
          rcases List.mem_cons.mp hp with rfl | hp
          · exact ⟨(Heap.get?_update_ne _ _ _ _ nfs).trans nF, hF0, hF1, hF2, hF3⟩
          rcases List.mem_cons.mp hp with rfl | hp
          · exact ⟨hc2, hS0, hS1, hS2, fun v z => by cases z⟩
          rcases List.mem_cons.mp hp with rfl | hp
          · exact ⟨nI6, hI0, hI1, hI2, hI3⟩
          · exact I6.pin p (List.mem_append_right _ hp)
        refine wpAny_pure ⟨plainId_quiet PySem.F.plain_min_loop _, ih (j + 1) (by omega) _ H3 x kx u kv dj k c2 oi1 I7 (M.keep _ _ _ _ t3 nI nI6) g03 ru rkv ?_ (rp_up g23 rpk) e⟩
        exact rp_up g03 rdj
      | false =>
        simp only [Bool.false_eq_true, if_false]
        refine wpAny_bind (wpAny_letGo ?_)
        rw [hname]
        exact wpAny_pure ⟨plainId_quiet PySem.F.plain_min_loop _, ih (j + 1) (by omega) _ H3 bx bkx vb kb bd bk c oi1 I4 t3 g03 rb rk (rp_up g23 pb2) (rp_up g23 pk2) e⟩
/-- the first turn, and all -/
theorem min_first (M : MinH X F S σ pins f it fo tn H0 xs ds ks) (hu : X.A.units + 102 < cLine) {R : Result → Shared → Prop} {d d0 k0 : D}
    (hR : ∀ v u s' H', Inv X pins σ H' s' → F.G H0 H' → RelV v u → Rp X.K (hide H' S) v d → R (.ok (.ret u)) s') (hks : ks.length = xs.length)
    (nfi : f ≠ it) (nfs : f ≠ St) (nsi : St ≠ it) (Fi : ∀ H, H it = none → FpOk X pins H it) (Fs : ∀ H, H St = none → FpOk X pins H St) (hfd : ∀ v, fo.data ≠ .cell v)
    {s : Shared} {oi : Obj} (I : Inv X ((f, fo) :: (St, seqObj "list" #[] 0) :: (it, oi) :: pins) σ H0 s) (ht : tn 0 s.heap) (hd : ds[0]? = some d0) (hk : ks[0]? = some k0) (e : pickM d0 k0 ((ds.zip ks).drop 1) = some d) :
    codeAny (model X.prog X.w) X.A (.builtin "min.loop" ⟨[.ref it, .ref f, .ref St], []⟩) R s := by
  have hname : (toString "min" ++ toString ".loop" : String) = "min.loop" := by decide
  have g := F.gr.refl H0
  obtain ⟨x, hx, rdj⟩ := M.rp.get hd
  have hxl : 0 < xs.length := (List.getElem?_eq_some_iff.mp hx).1
  obtain ⟨nF, hF0, hF1, hF2, hF3⟩ := I.pin (f, fo) (List.mem_append_right _ (by simp))
  obtain ⟨nS, hS0, hS1, hS2, hS3⟩ := I.pin (St, seqObj "list" #[] 0) (List.mem_append_right _ (by simp))
  obtain ⟨nI, hI0, hI1, hI2, hI3⟩ := I.pin (it, oi) (List.mem_append_right _ (by simp))
  have I0 : Inv X pins σ H0 s := I.pins_of fun p hp => I.pin p (List.mem_append_right _ (by simp [hp]))
  refine codeAny_builtin PySem.F.entry_min_loop ?_
  rw [Around.under_plainId PySem.F.plain_min_loop _]
  show wpAny _ X.A.in1 (seqItems? (.ref St) >>= _) _ _ _
  refine wpAny_bind (wpAny_seqItems nS rfl ?_)
  show wpAny _ X.A.in1 (tryCatch (pyNext (.ref it)) _ >>= _) _ _ _
  refine wpAny_bind (wpAny_tryCatch (wpAny_mono (M.nxt 0 pins s H0 x _ I0 (Fi H0 hI0) ht g hx) (fun r s1 hr => ?_) fun _ _ z => z))
  obtain ⟨u, rfl, ru, I1, t1, kp⟩ := hr
  obtain ⟨oi1, ni1, di1⟩ := M.obj _ _ t1
  have I2 : Inv X ((f, fo) :: (St, seqObj "list" #[] 0) :: (it, oi1) :: pins) σ H0 s1 := I1.pins_of fun p hp => by
    rcases List.mem_cons.mp hp with rfl | hp
    · exact ⟨kp _ _ nfi nF, hF0, hF1, hF2, hF3⟩
    rcases List.mem_cons.mp hp with rfl | hp
    · exact ⟨kp _ _ nsi nS, hS0, hS1, hS2, hS3⟩
    rcases List.mem_cons.mp hp with rfl | hp
    · exact ⟨ni1, hI0, hI1, hI2, di1⟩
    · exact I1.pin p (List.mem_append_right _ hp)
  show wpAny _ X.A.in1 (tryCatch (holding [u] (call (.ref f) [u])) _ >>= _) _ _ _
  refine wpAny_bind (wpAny_tryCatch (wpAny_holding (wpAny_mono (M.key 0 _ s1 H0 x u k0 (kp _ _ nfi nF) I2 g hx ru hk) (fun kv s3 he => ?_) fun _ _ hF => hF.elim)))
  obtain ⟨kx, H3, I4, rkv, g03, rpk⟩ := he
  obtain ⟨nF, hF0, hF1, hF2, hF3⟩ := I4.pin (f, fo) (List.mem_append_right _ (by simp))
  obtain ⟨nS, hS0, hS1, hS2, hS3⟩ := I4.pin (St, seqObj "list" #[] 0) (List.mem_append_right _ (by simp))
  obtain ⟨nI, hI0, hI1, hI2, hI3⟩ := I4.pin (it, oi1) (List.mem_append_right _ (by simp))
  have t3 := M.keep _ _ _ _ t1 ni1 nI
  show wpAny _ X.A.in1 (updateSeq St (fun _ => #[u, kv]) >>= _) _ _ _
  refine wpAny_bind ?_
  refine wpAny_updateSeq nS rfl ?_
  rw [hname]
  obtain ⟨c2, hc2⟩ : ∃ c2, (s3.heap.update St (Obj.mapSeq fun _ => #[u, kv])).get? St = some (seqObj "list" #[u, kv] c2) := ⟨_, get?_update_seq nS fun _ => #[u, kv]⟩
  have I5 : Inv X pins σ H3 s3 := I4.pins_of fun p hp => I4.pin p (List.mem_append_right _ (by simp [hp]))
  have I6 := Inv.upd_rec (g := Obj.mapSeq fun _ => #[u, kv]) I5 (Fs H3 hS0)
  have nI6 : (s3.heap.update St (Obj.mapSeq fun _ => #[u, kv])).get? it = some oi1 := (Heap.get?_update_ne _ _ _ _ (Ne.symm nsi)).trans nI
  have I7 : Inv X ((f, fo) :: (St, seqObj "list" #[u, kv] c2) :: (it, oi1) :: pins) σ H3 { s3 with heap := s3.heap.update St (Obj.mapSeq fun _ => #[u, kv]) } := I6.pins_of fun p hp => by
    rcases List.mem_cons.mp hp with rfl | hp
    · exact ⟨(Heap.get?_update_ne _ _ _ _ nfs).trans nF, hF0, hF1, hF2, hF3⟩
    rcases List.mem_cons.mp hp with rfl | hp
    · exact ⟨hc2, hS0, hS1, hS2, fun v z => by cases z⟩
    rcases List.mem_cons.mp hp with rfl | hp
    · exact ⟨nI6, hI0, hI1, hI2, hI3⟩
    · exact I6.pin p (List.mem_append_right _ hp)
  refine wpAny_pure ⟨plainId_quiet PySem.F.plain_min_loop _, min_loop M hu hR hks nfi nfs nsi Fi Fs hfd (xs.length - 1) 1 (by omega) _ H3 x kx u kv d0 k0 c2 oi1 I7 (M.keep _ _ _ _ t3 nI nI6) g03 ru rkv (rp_up g03 rdj) rpk e⟩
end
/-! ### min(list, key=lambda p: body) -/
def itemsLT : D → Option (List D)
  | .lst ds => some ds
  | .tup ds => some ds
  | _ => none
def mapR (f : D → Res D) : List D → Res (List D)
  | [] => .ok []
  | d :: r => match f d with
    | .ok k => (mapR f r).bind fun ks => .ok (k :: ks)
    | _ => .stuck
def pickAll : List D → List D → Option D
  | d :: ds, k :: ks => pickM d k (ds.zip ks)
  | _, _ => none
def eMinKey (sl sk : Rho → Res D) : Rho → Res D := fun ρ => (sl ρ).bind fun l => (Res.of (itemsLT l)).bind fun ds => match mapR (fun d => sk (ρ ++ [.fz d])) ds with
  | .ok ks => Res.of (pickAll ds ks)
  | _ => .stuck
theorem mapR_at {f : D → Res D} : ∀ {ds ks : List D}, mapR f ds = .ok ks → ks.length = ds.length ∧ ∀ (i : Nat) (d k : D), ds[i]? = some d → ks[i]? = some k → f d = .ok k
  | [], ks, e => by
    cases e
    exact ⟨rfl, fun i d k h => by simp at h⟩
  | d0 :: r, ks, e => by
    unfold mapR at e
    cases ef : f d0 with
    | ok k0 =>
      rw [ef] at e
      dsimp only at e
      cases er : mapR f r with
      | ok kr =>
        rw [er] at e
        cases e
        obtain ⟨h1, h2⟩ := mapR_at er
        refine ⟨by rw [List.length_cons, List.length_cons, h1], fun i d k hd hk => ?_⟩
        cases i with
        | zero =>
          simp at hd hk
          rw [← hd, ← hk]
          exact ef
        | succ i => exact h2 i d k (by simpa using hd) (by simpa using hk)
      | err c =>
        rw [er] at e
        cases e
      | stuck =>
        rw [er] at e
        cases e
    | err c =>
      rw [ef] at e
      cases e
    | stuck =>
      rw [ef] at e
      cases e
theorem EnvOk.snoc {K : PySem.W.Frag} {F : Fm} {S : List Addr} {σ : L2.St} {H : Hp} {ρ : Rho} {x : V} {d : D} (ok : EnvOk K F S σ H ρ) (r : Rp K (hide H S) x d) : EnvOk K F.nox S (σ ++ [some x]) H (ρ ++ [.fz d]) where
  grow := ok.grow
  base := ok.base
  new := ok.new
  sdom := ok.sdom
  len := by rw [List.length_append, List.length_append, ok.len]; rfl
  slots := fun i s e => by
    by_cases c : i < ρ.length
    · rw [List.getElem?_append_left c] at e
      rw [List.getElem?_append_left (by rw [ok.len]; exact c)]
      exact ok.slots i s e
    · rw [List.getElem?_append_right (by omega)] at e
      rw [List.getElem?_append_right (by rw [ok.len]; omega), ok.len]
      have hl := (List.getElem?_eq_some_iff.mp e).1
      simp at hl
      have hi : i - ρ.length = 0 := by omega
      rw [hi] at e ⊢
      cases e
      exact ⟨_, rfl, x, rfl, r⟩
  dist := fun i j di dj a h1 h2 h3 h4 => by
    have low : ∀ {i : Nat} {di : D}, (ρ ++ [Slot.fz d])[i]? = some (.ow di) → i < ρ.length ∧ ρ[i]? = some (.ow di) := fun {i di} h => by
      by_cases c : i < ρ.length
      · rw [List.getElem?_append_left c] at h
        exact ⟨c, h⟩
      · rw [List.getElem?_append_right (by omega)] at h
        have hl := (List.getElem?_eq_some_iff.mp h).1
        simp at hl
        have hi : i - ρ.length = 0 := by omega
        rw [hi] at h
        cases h
    obtain ⟨l1, e1⟩ := low h1
    obtain ⟨l2, e2⟩ := low h2
    rw [List.getElem?_append_left (by rw [ok.len]; exact l1)] at h3
    rw [List.getElem?_append_left (by rw [ok.len]; exact l2)] at h4
    exact ok.dist i j di dj a e1 e2 h3 h4
  nown := fun i di a h1 h2 => by
    by_cases c : i < ρ.length
    · rw [List.getElem?_append_left c] at h1
      rw [List.getElem?_append_left (by rw [ok.len]; exact c)] at h2
      exact ok.nown i di a h1 h2
    · rw [List.getElem?_append_right (by omega)] at h1
      have hl := (List.getElem?_eq_some_iff.mp h1).1
      simp at hl
      have hi : i - ρ.length = 0 := by omega
      rw [hi] at h1
      cases h1
  trs := ok.trs.move (Ex.refl _) (fun b o hb ho _ _ _ => ⟨hb, ho⟩) (fun i t e => by
      by_cases c : i < ρ.length
      · rw [List.getElem?_append_left c] at e
        exact ⟨e, List.getElem?_append_left (by rw [ok.len]; exact c)⟩
      · rw [List.getElem?_append_right (by omega)] at e
        have hl := (List.getElem?_eq_some_iff.mp e).1
        simp at hl
        have hi : i - ρ.length = 0 := by omega
        rw [hi] at e
        cases e) (fun a _ h _ => h) fun i di a h1 h2 => by
    by_cases c : i < ρ.length
    · rw [List.getElem?_append_left c] at h1
      rw [List.getElem?_append_left (by rw [ok.len]; exact c)] at h2
      exact .inr ⟨i, di, h1, h2⟩
    · rw [List.getElem?_append_right (by omega)] at h1
      have hl := (List.getElem?_eq_some_iff.mp h1).1
      simp at hl
      have hi : i - ρ.length = 0 := by omega
      rw [hi] at h1
      cases h1
section
variable {X : Cx} {F : Fm}
theorem pickAll_inv {ds ks : List D} {d : D} (e : pickAll ds ks = some d) : ∃ d0 k0, ds[0]? = some d0 ∧ ks[0]? = some k0 ∧ pickM d0 k0 ((ds.zip ks).drop 1) = some d := by
  match ds, ks, e with
  | d0 :: ds, k0 :: ks, e => exact ⟨d0, k0, rfl, rfl, e⟩
  | [], _, e => cases e
  | _ :: _, [], e => cases e
/-- the built-in called, over a list or a tuple -/
theorem min_call {S : List Addr} {σ : L2.St} {ρ : Rho} {pins : List (Addr × Obj)} {H : Hp} {s : Shared} {f l : Addr} {fo : Obj} {xs : List V} {ds ks : List D} {d : D} {Q : VK} {E : Value → Shared → Prop} (hu : X.A.units + 102 < cLine) (hcalm : X.calm = true)
    (I : Inv X ((f, fo) :: pins) σ H s) (hfd : ∀ v, fo.data ≠ .cell v) (ok : EnvOk X.K F S σ H ρ) (hl : H l = some (.lst xs) ∨ H l = some (.tup xs)) (rp : RpL X.K (hide H S) xs ds) (hks : ks.length = ds.length) (e : pickAll ds ks = some d)
    (key : ∀ (i : Nat) (pn : List (Addr × Obj)) (s : Shared) (H1 : Hp) (x : V) (u : Value) (k : D), s.heap.get? f = some fo → Inv X pn σ H1 s → F.G H H1 → xs[i]? = some x → RelV x u → ks[i]? = some k →
      wpAny (model X.prog X.w) X.A.in1 (call (.ref f) [u]) (EP X pn σ fun kv H' => F.G H1 H' ∧ Rp X.K (hide H' S) kv k) (fun _ _ => False) s)
    (q : ∀ v H', F.G H H' → Rp X.K (hide H' S) v d → Q v H') : wpAny (model X.prog X.w) X.A (call (.builtin "min") [.ref l] [(Str.ofString "key", .ref f)]) (EP X pins σ Q) E s := by
  have hname : (toString "min" ++ toString ".loop" : String) = "min.loop" := by decide
  obtain ⟨d0, k0, hd0, hk0, e⟩ := pickAll_inv e
  have I0 : Inv X pins σ H s := I.pins_of fun p hp => I.pin p (List.mem_append_right _ (by simp [hp]))
  have hkx : ks.length = xs.length := by rw [hks, rp.len]
  refine PyProof.Rows.kmk_tree PySem.F.kind_min PySem.F.plain_min PySem.F.entry_min (PyProof.Rows.kmk_min_key _ _) ?_
  show wpAny _ X.A.in1 (Builtin.Builtins.bindParams "min" ["key", "default"] 0 ⟨[], [(Str.ofString "key", .ref f)]⟩ >>= _) _ _ s
  refine wpAny_bind (wpAny_of_eq (show Builtin.Builtins.bindParams "min" ["key", "default"] 0 ⟨[], [(Str.ofString "key", .ref f)]⟩ = pure [some (.ref f), none] from rfl) ?_)
  refine wpAny_bind (wpAny_pure ?_)
  obtain ⟨nF, hF0, hF1, hF2, hF3⟩ := I.pin (f, fo) (List.mem_append_right _ (by simp))
  have fl : f < s.heap.objs.size := Heap.lt_size nF
  -- the common end
  have go : ∀ (oi : Obj) (tn : Nat → Heap → Prop), oi.isFreed = false → (∀ v, oi.data ≠ .cell v) → (∀ h : Heap, h.get? s.heap.objs.size = some oi → tn 0 h) →
      (∀ (i : Nat) (pn : List (Addr × Obj)) (s' : Shared) (H1 : Hp) (x : V) (E : Value → Shared → Prop), Inv X pn σ H1 s' → FpOk X pn H1 s.heap.objs.size → tn i s'.heap → F.G H H1 → xs[i]? = some x →
        wpAny (model X.prog X.w) X.A.in1 (pyNext (.ref s.heap.objs.size)) (fun r s1 => ∃ u, r = some u ∧ RelV x u ∧ Inv X pn σ H1 s1 ∧ tn (i + 1) s1.heap ∧ ∀ b o, b ≠ s.heap.objs.size → s'.heap.get? b = some o → s1.heap.get? b = some o) E s') →
      (∀ (i : Nat) (pn : List (Addr × Obj)) (s' : Shared) (H1 : Hp) (E : Value → Shared → Prop), Inv X pn σ H1 s' → FpOk X pn H1 s.heap.objs.size → tn i s'.heap → F.G H H1 → xs.length ≤ i →
        wpAny (model X.prog X.w) X.A.in1 (pyNext (.ref s.heap.objs.size)) (fun r s1 => r = none ∧ Inv X pn σ H1 s1 ∧ ∀ b o, b ≠ s.heap.objs.size → s'.heap.get? b = some o → s1.heap.get? b = some o) E s') →
      (∀ i h, tn i h → ∃ o, h.get? s.heap.objs.size = some o ∧ ∀ v, o.data ≠ .cell v) → (∀ i (h h' : Heap) o, tn i h → h.get? s.heap.objs.size = some o → h'.get? s.heap.objs.size = some o → tn i h') →
      codeAny (model X.prog X.w) X.A (.builtin "min.loop" ⟨[.ref s.heap.objs.size, .ref f, .ref (s.heap.push oi).objs.size], []⟩) (fun r s' => match r with | .ok (.ret v) => EP X pins σ Q v s' | .ok _ => False | .error e => E e s')
        { s with heap := (s.heap.push oi).push (seqObj "list" #[] 0) } := by
    intro oi tn hnf hoi ht0 nxt stop obj keep
    have hS : (s.heap.push oi).objs.size = s.heap.objs.size + 1 := size_push' ..
    have kp : ∀ b o, s.heap.get? b = some o → ((s.heap.push oi).push (seqObj "list" #[] 0)).get? b = some o := fun b o z => Heap.get?_push_of_some _ (Heap.get?_push_of_some _ z)
    have J : Inv X pins σ H { s with heap := (s.heap.push oi).push (seqObj "list" #[] 0) } := I0.kept (t' := s.toks) kp
    have gI : ((s.heap.push oi).push (seqObj "list" #[] 0)).get? s.heap.objs.size = some oi := Heap.get?_push_of_some _ (Heap.get?_push_size _ hnf)
    have gS : ((s.heap.push oi).push (seqObj "list" #[] 0)).get? (s.heap.push oi).objs.size = some (seqObj "list" #[] 0) := Heap.get?_push_size _ rfl
    have Fi : ∀ H, H s.heap.objs.size = none → FpOk X pins H s.heap.objs.size := fun H' z => I0.fpOk (Nat.le_refl _) z
    have Fs : ∀ H, H (s.heap.push oi).objs.size = none → FpOk X pins H (s.heap.push oi).objs.size := fun H' z => I0.fpOk (by rw [hS]; exact Nat.le_succ _) z
    have nI := I0.hok.fresh (Nat.le_refl s.heap.objs.size)
    have nS : H (s.heap.push oi).objs.size = none := I0.hok.fresh (by rw [hS]; exact Nat.le_succ _)
    refine min_first (F := F) (S := S) (tn := tn) (ds := ds) (ks := ks) ⟨nxt, stop, obj, keep, key, fun H' g => (ok.up g).sdom, rp⟩ hu (fun v u s' H' J' g r p => ⟨v, H', J', r, q v H' g p⟩) hkx (Nat.ne_of_lt fl) (by rw [hS]; exact Nat.ne_of_lt (Nat.lt_succ_of_lt fl)) (by rw [hS]; exact Nat.succ_ne_self _) Fi Fs hfd (oi := oi) ?_ (ht0 _ gI) hd0 hk0 e
    refine J.pins_of fun p hp => ?_
    rcases List.mem_cons.mp hp with rfl | hp
    · exact ⟨kp _ _ nF, hF0, hF1, hF2, hF3⟩
    rcases List.mem_cons.mp hp with rfl | hp
    · obtain ⟨_, a1, a2, _⟩ := Fs H nS
      exact ⟨gS, nS, a1, a2, fun v z => by cases z⟩
    rcases List.mem_cons.mp hp with rfl | hp
    · obtain ⟨_, a1, a2, _⟩ := Fi H nI
      exact ⟨gI, nI, a1, a2, hoi⟩
    · exact J.pin p (List.mem_append_right _ hp)
  rcases hl with hl | hl
  · obtain ⟨its, rv, pl, hz⟩ := I0.list (SqL.of (K := X.K) hl)
    refine wpAny_bind (wpAny_pyIter_list pl.isList ?_)
    refine wpAny_bind (wpAny_newList ?_ (Nat.zero_le _))
    rw [hname]
    refine wpAny_pure ⟨plainId_quiet PySem.F.plain_min_loop _, ?_⟩
    have hlH : ∀ {H1}, F.G H H1 → H1 l = some (.lst xs) := fun g => F.gr.ex g _ _ hl fun ps z => by cases z
    refine go _ (fun i h => h.IsListIter s.heap.objs.size l i) rfl (fun v z => by cases z) (fun h e => ⟨_, e, rfl, rfl⟩) ?_ ?_ ?_ ?_
    · intro i pn s' H1 x E' J hf st g hx
      obtain ⟨its, rv, p, hz⟩ := J.list (SqL.of (K := X.K) (hlH g))
      obtain ⟨u, hu, ru⟩ := rv.get hx
      obtain ⟨f0, f1, f2, f3, f4, f5⟩ := hf
      exact wpAny_pyNext_list_item st p.isList (x := u) (by simpa using hu) fun h' st' sb => ⟨u, rfl, ru, J.turned (t' := s'.toks) (fun b o hb e => (sb.2 b hb).trans e) f0 f1 f3 f4 f5, st', fun b o hb e => (sb.2 b hb).trans e⟩
    · intro i pn s' H1 E' J hf st g hx
      obtain ⟨its, rv, p, hz⟩ := J.list (SqL.of (K := X.K) (hlH g))
      obtain ⟨f0, f1, f2, f3, f4, f5⟩ := hf
      have hl' := rv.length
      exact wpAny_pyNext_list_end (J.ok.hd hcalm) st p.isList (by simp; omega) fun h' eb => ⟨rfl, J.turned (t' := s'.toks) (fun b o hb e => eb b o hb e) f0 f1 f3 f4 f5, fun b o hb e => eb b o hb e⟩
    · rintro i h ⟨o, e, c, dd⟩
      exact ⟨o, e, fun v z => by rw [dd] at z; cases z⟩
    · rintro i h h' o ⟨o2, e, c, dd⟩ e1 e2
      rw [e1] at e
      cases e
      exact ⟨o, e2, c, dd⟩
  · obtain ⟨its, rv, pl, hz⟩ := I0.tuple (SqT.of (K := X.K) hl)
    refine wpAny_bind (wpAny_pyIter_tuple (show s.heap.IsTuple l its.toArray from pl) ?_)
    refine wpAny_bind (wpAny_newList ?_ (Nat.zero_le _))
    rw [hname]
    refine wpAny_pure ⟨plainId_quiet PySem.F.plain_min_loop _, ?_⟩
    have hlH : ∀ {H1}, F.G H H1 → H1 l = some (.tup xs) := fun g => F.gr.ex g _ _ hl fun ps z => by cases z
    refine go _ (fun i h => h.IsTupleIter s.heap.objs.size l i) rfl (fun v z => by cases z) (fun h e => ⟨_, e, rfl, rfl⟩) ?_ ?_ ?_ ?_
    · intro i pn s' H1 x E' J hf st g hx
      obtain ⟨its, rv, p, hz⟩ := J.tuple (SqT.of (K := X.K) (hlH g))
      obtain ⟨u, hu, ru⟩ := rv.get hx
      obtain ⟨f0, f1, f2, f3, f4, f5⟩ := hf
      exact wpAny_pyNext_tuple_item st (show s'.heap.IsTuple l its.toArray from p) (x := u) (by simpa using hu) fun h' st' sb => ⟨u, rfl, ru, J.turned (t' := s'.toks) (fun b o hb e => (sb.2 b hb).trans e) f0 f1 f3 f4 f5, st', fun b o hb e => (sb.2 b hb).trans e⟩
    · intro i pn s' H1 E' J hf st g hx
      obtain ⟨its, rv, p, hz⟩ := J.tuple (SqT.of (K := X.K) (hlH g))
      obtain ⟨f0, f1, f2, f3, f4, f5⟩ := hf
      have hl' := rv.length
      exact wpAny_pyNext_tuple_end (J.ok.hd hcalm) st (show s'.heap.IsTuple l its.toArray from p) (by simp; omega) fun h' eb => ⟨rfl, J.turned (t' := s'.toks) (fun b o hb e => eb b o hb e) f0 f1 f3 f4 f5, fun b o hb e => eb b o hb e⟩
    · rintro i h ⟨o, e, c, dd⟩
      exact ⟨o, e, fun v z => by rw [dd] at z; cases z⟩
    · rintro i h h' o ⟨o2, e, c, dd⟩ e1 e2
      rw [e1] at e
      cases e
      exact ⟨o, e2, c, dd⟩
theorem dp_minKey {T : Tb} {p : Str} {P c : Addr} {k : Nat} {params : Arguments} {body : Expr} {scope : Scope} {a : Expr} {sl sk : Rho → Res D} {p0 lpos kpos pos : Pos} (hF : Fits T F) (hcalm : X.calm = true) (hm : X.mg "min" = none) (ha : DB X F a sl)
    (TB : TabB X.base X.mg c P) (hcode : X.env.code = .ref c) (hmT : (P, X.env.qual ++ "<lambda>") ∈ T) (hu : ∀ p ∈ T, p.1 = P → p.2 = X.env.qual ++ "<lambda>") (hr : Room (k + 2) X.A)
    (hbody : ∀ (A : Around) (outer : List Env) (s : Shared) (H0 : Hp) (f c' : Addr), Room k (A.deeper (lamEnv X scope s.heap.objs.size f c')) → DP (lamCx1 X A outer s H0 E0 scope f c' p) F.nox body sk)
    (hp : p ∉ X.N := by decide) (hdef : defaultsOf params X.env = ([], []) := by rfl) (hbind : ∀ (q : Str) (cl : List (Str × Addr)) (pm cv ctv u : Value), bindArgs (PySem.W.kla_fn "<lambda>" q params body scope cl pm cv ctv) ⟨[u], []⟩ = pure [(p, u)] := by intro _ _ _ _ _ _; rfl)
    (L : LamS1 X.env.scope scope p := by exact lamS1_by (by kernel_rfl)) (hg : Gl X "min" := by rfl) (hs : starEach [a] X.env = (false, eval a X.env) :: starEach [] X.env := by rfl)
    (he : backTo pos (starEach [a] X.env) = (false, eval a X.env) :: backTo pos (starEach [] X.env) := by rfl) (hpl : (backTo pos (starEach [a] X.env)).any (·.1) = false := by rfl) :
    DP X F (.Call (.Name "min" p0) [a] [⟨some "key", .Lambda params body scope lpos, kpos⟩] pos) (eMinKey sl sk) := by
  refine ⟨fun pins s σ H Q I h => ?_⟩
  obtain ⟨S, ρ, ok, q⟩ := h
  refine wpAny_Call_Name_kw (ld_blt (u := .builtin "min") I hg hm (by decide +kernel) ?_ (by decide) (by decide))
  refine PyProof.Rows.callWith_kw (thn ((dab_cons ha dab_nil hs).run pos pins s σ H (fun vs H1 => ∃ dx, sl ρ = .ok dx ∧ F.G H H1 ∧ Paired (RpB X.K S H1) vs [dx]) I ⟨S, ρ, ok, ?_⟩) fun us s1 ⟨vs, H1, I1, r1, q1⟩ => ?_) he hpl
  · show PostK X.K (kdLB X.K F) S H _ ((sl ρ).bind fun x => (aNil ρ).bind fun xs => .ok (x :: xs))
    unfold eMinKey at q
    cases es : sl ρ with
    | ok dx => exact fun v H' g r => ⟨dx, rfl, g, r⟩
    | err c =>
      rw [es] at q
      exact q
    | stuck =>
      rw [es] at q
      exact q
  obtain ⟨dx, es, g1, r2⟩ := q1
  obtain ⟨v, rfl, rx⟩ := Paired.one_inv r2
  have q : PostK X.K (kdV X.K F) S H Q ((sl ρ).bind fun l => (Res.of (itemsLT l)).bind fun ds => match mapR (fun d => sk (ρ ++ [.fz d])) ds with
    | .ok ks => Res.of (pickAll ds ks)
    | _ => .stuck) := q
  rw [es] at q
  have ok1 := ok.up g1
  obtain ⟨l, xs, ds, rfl, hl, rp, ei⟩ : ∃ l xs ds, v = .ref l ∧ (H1 l = some (.lst xs) ∨ H1 l = some (.tup xs)) ∧ RpL X.K (hide H1 S) xs ds ∧ itemsLT dx = some ds := by
    cases dx with
    | lst ds =>
      obtain ⟨a, vx, rfl, ha, ra⟩ := rx.lst_inv
      exact ⟨a, vx, ds, rfl, .inl ha, ra, rfl⟩
    | tup ds =>
      obtain ⟨a, vx, rfl, ha, ra⟩ := rx.tup_inv
      exact ⟨a, vx, ds, rfl, .inr ha, ra, rfl⟩
    | _ => exact q.elim
  cases r1 with
  | cons ru1 rt1 =>
    cases rt1
    cases ru1
    have q : PostK X.K (kdV X.K F) S H Q ((Res.of (itemsLT dx)).bind fun ds => match mapR (fun d => sk (ρ ++ [.fz d])) ds with
      | .ok ks => Res.of (pickAll ds ks)
      | _ => .stuck) := q
    rw [ei] at q
    have q : PostK X.K (kdV X.K F) S H Q (match mapR (fun d => sk (ρ ++ [.fz d])) ds with
      | .ok ks => Res.of (pickAll ds ks)
      | _ => .stuck) := q
    cases em : mapR (fun d => sk (ρ ++ [.fz d])) ds with
    | err c =>
      rw [em] at q
      exact q.elim
    | stuck =>
      rw [em] at q
      exact q.elim
    | ok ks =>
      rw [em] at q
      dsimp only at q
      cases ep : pickAll ds ks with
      | none =>
        rw [ep] at q
        exact q.elim
      | some d =>
        rw [ep] at q
        obtain ⟨hkl, hkey⟩ := mapR_at em
        show wpAny _ _ (evalAll ((do let v ← eval (.Lambda params body scope lpos) X.env; standAt pos; pure v) :: [])) _ _ s1
        refine wpAny_evalAll_cons (wpAny_bind (lam_make2 I1 TB hcode hmT hu (hF.t ok1.grow) hdef (L.has I1.ok) fun f c' pm ctv H2 s2 I2 eN T2 hf hfn hfr hco => wpAny_bind (wpAny_standAt (wpAny_pure (wpAny_evalAll_nil ?_)))))
        have g12 : F.G H1 H2 := hF.g ⟨eN, fun _ => T2⟩
        have ok2 := ok1.up g12
        have nfs : f ∉ X.fs := fun z => hfr (by
          rcases I2.ok.stk with e | ⟨e, _⟩
          · rw [e]
            exact z
          · rw [e]
            have z : f ∈ frs X.outer := z
            unfold frs at z ⊢
            rw [List.filterMap_cons]
            split
            · exact z
            · exact List.mem_cons_of_mem _ z)
        have nfl : f ≠ X.env.locals := fun z => by
          obtain ⟨m, ⟨o', es', ep', ho', hd', _⟩, _⟩ := I2.loc
          rw [← z, hf] at ho'
          cases ho'
          cases hd'
        have I3 : Inv X ((f, PySem.W.kla_obj "<lambda>" (X.env.qual ++ "<lambda>") params body scope (cloFrom X.env.cells scope.names []) pm c' ctv) :: pins) σ H2 s2 := I2.pins_of fun p' hp' => by
          rcases List.mem_cons.mp hp' with rfl | hp'
          · exact ⟨hf, hfn, nfl, nfs, fun v z => by cases z⟩
          · exact I2.pin p' (List.mem_append_right _ hp')
        have hun := hr.un
        refine min_call (F := F) (S := S) (ρ := ρ) (xs := xs) (ds := ds) (ks := ks) (d := d) (by omega) hcalm I3 (fun v z => by cases z) ok2 ?_ (rp.ex (hide_mono (F.gr.ex g12) S)) hkl ep ?_ (fun v H' g r => q v H' (F.gr.trans (F.gr.trans g1 g12) g) r)
        · rcases hl with hl | hl
          · exact .inl (F.gr.ex g12 _ _ hl fun ps z => by cases z)
          · exact .inr (F.gr.ex g12 _ _ hl fun ps z => by cases z)
        · intro i pn s' H3 x u kd hf' J g3 hx ru hk
          obtain ⟨di, hdi, rdi⟩ := rp.get' hx
          have es := hkey i di kd hdi hk
          refine lam_call1 (tb := tK X.K (kdV X.K F.nox) sk) J L hp hf' (F.gr.ex g3 _ _ hco codeO_ne) (hbind _ _ _ _ _ _) hr ru (fun A outer s H hr2 => hbody A outer s H f c' hr2) ?_
          refine ⟨S, ρ ++ [.fz di], EnvOk.snoc (ok2.up g3) (rdi.ex (hide_mono (F.gr.ex (F.gr.trans g12 g3)) S)), ?_⟩
          rw [es]
          exact fun kv H' g r => ⟨g, r⟩
end
end DL

set_option Elab.async false
set_option linter.all false
set_option maxRecDepth 100000
set_option maxHeartbeats 1000000
/-! DL22: own.remove(x). -/
namespace DL
open PySem PySem.Spec PyProof.Rows L2
section
variable {X : Cx} {F : Fm} {pos : Pos}
theorem idx_toPy {n : Nat} {x : D} (hx : lv n x = true) : ∀ ds : List D, ds.all (lv n) = true → ((ds.map (toPy n)).findIdx? fun y => PyData.eqv y (toPy n x)) = ds.findIdx? fun y => eqN n y x
  | [], _ => rfl
  | d :: ds, h => by
    rw [List.all_cons, Bool.and_eq_true] at h
    rw [List.map_cons, List.findIdx?_cons, List.findIdx?_cons, eqv_toPy n d x h.1 hx, idx_toPy hx ds h.2]
def remI (ds : List D) (d : D) : Option Nat := if (lv 64 d && ds.all (lv 64)) = true then ds.findIdx? fun y => eqN 64 y d else none
def rRem (K : PySem.W.Frag) : V → List V → Hp → VK → Prop := fun x vs H Q => ∃ S l xs y ds d j, x = .ref l ∧ vs = [y] ∧ l ∈ S ∧ H l = some (.lst xs) ∧ RpL K (hide H S) xs ds ∧ Rp K (hide H S) y d ∧ remI ds d = some j ∧ Q .non (upd H l (.lst (xs.eraseIdx j)))
theorem mt_rem (hu : X.A.units + 100 < cLine) : MtM X "list.remove" (rRem X.K) := by
  intro pins s σ H x vs v us Q I rx rv h
  obtain ⟨S, l, xs, y, ds, d, j, rfl, rfl, hm, hH, rs, rd, e, q⟩ := h
  cases rx
  obtain ⟨u, rfl, ru⟩ := rv.one
  obtain ⟨z, its, n, r, hl, e0⟩ := I.lstM hH
  unfold remI at e
  split at e
  · next c =>
    rw [Bool.and_eq_true] at c
    obtain ⟨as, r1⟩ := Dp.reads I _ y u (dp_of 64 y d (rd.ex hide_ex) c.1) ru
    obtain ⟨bs, r2⟩ := Dp.readsAll I _ _ its (dpAll_of (dp_of 64) (rs.ex hide_ex) c.2) r
    obtain ⟨p1, l1⟩ := toPy_plain 64 d c.1
    obtain ⟨p2, l2⟩ := toPy_plainAll (toPy_plain 64) ds c.2
    have hb : X.A.units + 1 + min (PyData.depthAll (ds.map (toPy 64))) (toPy 64 d).depth < cLine := by omega
    have hsz : its.toArray.size ≤ sizeLine := by rw [List.size_toArray, ← hl]; exact z
    refine SeqAt.remove_list_data (j := j) ⟨_, e0, rfl, n, rfl⟩ (vs := its.toArray) (show ReadsAll s.heap its.toArray.toList (ds.map (toPy 64)) bs from r2) r1 p2 p1 hb (by rw [← e, ← idx_toPy c.1 ds c.2]; rfl) hsz ?_
    refine ⟨.non, _, I.lset (its' := its.eraseIdx j) hH e0 ?_ (r.eraseIdx j) ?_, rfl, q⟩
    · show its.toArray.eraseIdxIfInBounds j = (its.eraseIdx j).toArray
      rw [List.eraseIdxIfInBounds_toArray]
    · exact Nat.le_trans (List.length_eraseIdx_le _ _) z
  · cases e
theorem RpL.eraseIdx {K : PySem.W.Frag} {H : Hp} : ∀ {v : List V} {d : List D} (j : Nat), RpL K H v d → RpL K H (v.eraseIdx j) (d.eraseIdx j)
  | _, _, _, .nil => .nil
  | _, _, 0, .cons h r => r
  | _, _, j + 1, .cons h r => .cons h (RpL.eraseIdx j r)
def sRem (i : Nat) (s : Rho → Res D) : Rho → SR := fun ρ => match ρ[i]? with
  | some (.ow (.lst ds)) => sBind (s ρ) fun d => match remI ds d with
    | some j => .nx (ρ.set i (.ow (.lst (ds.eraseIdx j))))
    | none => .stuck
  | _ => .stuck
theorem ds_remove {i : Nat} {x : Str} {p apos cpos : Pos} {e : Expr} {se : Rho → Res D} (hu : X.A.units + 100 < cLine) (he : DP X F e se) (hN : X.N[i]? = some x := by rfl) (hv : Vis X.env.scope x := by first | exact Or.inl rfl | exact Or.inr (Or.inl rfl) | exact Or.inr (Or.inr rfl))
    (hd : (x == ("__debug__" : Str)) = false := by decide) (hcd : (x == ("__classdict__" : Str)) = false := by decide)
    (hbase : attributeBase (.Name x p) "remove" X.env (eval (.Name x p) X.env) = eval (.Name x p) X.env := by rfl)
    (hfew : ((backTo cpos (starEach [e] X.env)).all (fun x => !x.1) && (backToKw cpos (keywordEach [] X.env)).all (fun x => x.1.isSome) && decide (([e] : List Expr).length + ([] : List Keyword).length + (if ([] : List Keyword).isEmpty then 0 else 1) < 30)) = true := by rfl)
    (hline : (apos.endLine == cpos.line) = true := by rfl) (hs : starEach [e] X.env = (false, eval e X.env) :: starEach [] X.env := by rfl) (hplain : (backTo cpos (starEach [] X.env)).any (·.1) = false := by rfl)
    (hsw : swapsWith (.Call (.Attribute (.Name x p) "remove" apos) [e] [] cpos) none pos.line X.env = pure false := by rfl) :
    DS X F (.Expr (.Call (.Attribute (.Name x p) "remove" apos) [e] [] cpos) pos) (sRem i se) :=
  PS.imp (ps_expr (pe_bm PySem.F.plainAttrs_list PySem.F.slot_list_remove PySem.F.type_list_remove (mt_rem hu) (pe_var hN hv hd hcd) (pa_cons he pa_nil hs) hbase hfew hline hs hplain) hsw) fun D σ H ⟨S, ρ, ok, h⟩ => by
    unfold sRem at h
    split at h
    · next ds ei =>
      obtain ⟨o, h1, v, rfl, h2⟩ := ok.slots i _ ei
      obtain ⟨a, xs, rfl, q1, q2, q3⟩ := h2.ref
      refine ⟨_, h1, .inl ⟨rfl, _, SqL.of q2⟩, S, ρ, ok, post_sbind h fun d ed h3 => fun y H1 g r => ?_⟩
      cases er : remI ds d with
      | none =>
        rw [er] at h3
        exact h3.elim
      | some j =>
        rw [er] at h3
        have ok1 := ok.up g
        have q2' : H1 a = some (.lst xs) := F.gr.ex g _ _ q2 fun ps z => by cases z
        have q3' := q3.ex (hide_mono (F.gr.ex g) S)
        refine ⟨S, a, xs, y, ds, d, j, rfl, rfl, q1, q2', q3', r, er, h3 S σ _ (ok1.turn ei h1 (.lst q1 upd_same ?_)) ?_⟩
        · rw [hide_upd q1]
          exact q3'.eraseIdx j
        · rw [hide_upd q1]
          exact hide_mono (F.gr.ex g) S
    · exact h.elim
end
/-! ### several defs that make lambdas: their tables are apart -/
def tabsB (K : PySem.W.Frag) : List (He.Defn × Str) → Bool
  | [] => true
  | p :: r => (r.all fun q => !decide ((He.cT K p.1).2 = (He.cT K q.1).2)) && tabsB K r
theorem tabs_uniq {K : PySem.W.Frag} : ∀ {tf : List (He.Defn × Str)}, tabsB K tf = true → ∀ (i : Nat) (d : He.Defn) (x : Str), tf[i]? = some (d, x) → ∀ q ∈ tbs K tf, q.1 = (He.cT K d).2 → q.2 = x
  | [], _, i, d, x, e, _, _, _ => by simp at e
  | p :: r, h, i, d, x, e, q, hq, hx => by
    unfold tabsB at h
    obtain ⟨h1, h2⟩ := Bool.and_eq_true_iff.mp h
    have h1 := List.all_eq_true.mp h1
    have hq : q = ((He.cT K p.1).2, p.2) ∨ q ∈ tbs K r := by
      unfold tbs at hq ⊢
      rw [List.map_cons] at hq
      exact List.mem_cons.mp hq
    have at_ : ∀ {q}, q ∈ tbs K r → ∃ q' ∈ r, q = ((He.cT K q'.1).2, q'.2) := fun {q} hm => by
      unfold tbs at hm
      obtain ⟨q', a, b⟩ := List.mem_map.mp hm
      exact ⟨q', a, b.symm⟩
    cases i with
    | zero =>
      simp at e
      subst e
      rcases hq with rfl | hq
      · rfl
      · obtain ⟨q', hm, rfl⟩ := at_ hq
        have := h1 q' hm
        simp at this
        exact absurd hx.symm this
    | succ i =>
      have e : r[i]? = some (d, x) := by simpa using e
      rcases hq with rfl | hq
      · have := h1 (d, x) (List.mem_of_getElem? e)
        simp at this
        exact absurd hx this
      · exact tabs_uniq h2 i d x e q hq hx
theorem tabs_mem {K : PySem.W.Frag} {tf : List (He.Defn × Str)} (i : Nat) {d : He.Defn} {x : Str} (e : tf[i]? = some (d, x)) : ((He.cT K d).2, x) ∈ tbs K tf := by
  unfold tbs
  exact List.mem_map.mpr ⟨(d, x), List.mem_of_getElem? e, rfl⟩
theorem tabs_in {K : PySem.W.Frag} {tf : List (He.Defn × Str)} (i : Nat) {d : He.Defn} {x : Str} (e : tf[i]? = some (d, x)) : He.cT K d ∈ tf.map fun p => He.cT K p.1 := List.mem_map.mpr ⟨(d, x), List.mem_of_getElem? e, rfl⟩
end DL

set_option Elab.async false
set_option linter.all false
set_option maxRecDepth 100000
set_option maxHeartbeats 1000000
/-! DL45: sets of at most 64 different tuples of ints. -/
namespace DL
open PySem PySem.Spec PyProof.Rows L2
/-- a set of tuples of ints, at most 64 of them -/
structure Set64 (P : Program) (w : World) (h : Heap) (a : Addr) (L : Ks) (es : Array (Int × Value)) (ep : Nat) (t : SetTable) : Prop where
  obj : ∃ o, h.get? a = some o ∧ o.ExactSet ∧ o.data = .set es ep t
  rws : es.toList = rowsOf P w L
  tbl : TabOk t (L.map fun p => thash P w p.2)
  one : (L.map (·.2)).Nodup
  tps : ∀ p ∈ L, IsT P w h p.2 p.1
  pln : t.plain = true
  lds : w.params.followText "set-order" = true ∨ t.led = true
  rm : L.length * 5 < t.mask * 3
  le : L.length ≤ 64
section
variable {P : Program} {w : World} {A : Around} {E : Value → Shared → Prop} {s : Shared} {a : Addr} {L : Ks} {es : Array (Int × Value)} {ep : Nat} {t : SetTable}
theorem Set64.of {h : Heap} (R : SetTR P w h a L es ep t) : Set64 P w h a L es ep t := ⟨R.ob, R.rows, R.tab, R.nd, R.tup, R.plain, R.led, R.room, Nat.le_of_lt R.few⟩
theorem Set64.to {h : Heap} (R : Set64 P w h a L es ep t) (lt : L.length < 64) : SetTR P w h a L es ep t := ⟨R.obj, R.rws, R.tbl, R.one, R.tps, R.pln, R.lds, R.rm, lt⟩
theorem Set64.sz {h : Heap} (R : Set64 P w h a L es ep t) : es.size = L.length := by
  rw [← Array.length_toList, R.rws]
  exact List.length_map _
theorem Set64.fit {h : Heap} (R : Set64 P w h a L es ep t) : t.fits es.size = true := by
  have e1 : t.place.size = L.length := R.tbl.sz.trans (List.length_map _)
  have e2 := R.sz
  have e3 := R.rm
  unfold SetTable.fits SetTable.fill
  rw [R.tbl.dm]
  refine Bool.and_eq_true_iff.mpr ⟨beq_iff_eq.mpr (e1.trans e2.symm), decide_eq_true ?_⟩
  show t.place.size + 0 ≤ t.mask
  omega
theorem Set64.at {h : Heap} (R : Set64 P w h a L es ep t) {i : Nat} {p : Addr × List Int} (e : L[i]? = some p) : es[i]? = some (thash P w p.2, Value.ref p.1) := by
  rw [← Array.getElem?_toList, R.rws, rowsOf, List.getElem?_map, e]
  rfl
theorem Set64.keep {h h' : Heap} (R : Set64 P w h a L es ep t) (ha : ∀ o, h.get? a = some o → h'.get? a = some o) (ht : ∀ p ∈ L, IsT P w h' p.2 p.1) : Set64 P w h' a L es ep t := by
  obtain ⟨o, e, r⟩ := R.obj
  exact ⟨⟨o, ha o e, r⟩, R.rws, R.tbl, R.one, ht, R.pln, R.lds, R.rm, R.le⟩
/-- the k-th place of the search -/
abbrev stepP (t : SetTable) (hv : Int) (c : Nat) : SetTable.Probe := nth t.mask (runAt t.mask (SetTable.bits hv % (t.mask + 1)) (SetTable.bits hv)) c
theorem no_dummy (m : Nat) : ∀ (n : Nat) (p : SetTable.Probe), p.dummy = none → (nth m p n).dummy = none
  | 0, _, e => e
  | n + 1, p, e => no_dummy m n (adv m p) (by unfold adv; split <;> exact e)
/-- a tuple that is in the set is found -/
theorem find64 (R : Set64 P w s.heap a L es ep t) {x : Addr} {k : List Int} (hx : IsT P w s.heap k x) (hu : A.units < cLine) {Q : SetFound → Shared → Prop} (hQ : Q (.there none) s) {K i0 c0 : Nat} {p0 : Addr × List Int}
    (k1 : K < 10 * SetTable.turns t.mask) (k2 : way t.mask (thash P w k) K ∉ t.place.toList) (k3 : ∀ c, c < K → way t.mask (thash P w k) c ∈ t.place.toList)
    (z1 : L[i0]? = some p0) (z2 : p0.2 = k) (z3 : c0 < K) (z4 : t.place.toList[i0]? = some (way t.mask (thash P w k) c0)) :
    ∀ (f c : Nat) (st : Option SetTable.Probe), st.getD (t.probeStart (thash P w k)) = stepP t (thash P w k) c → c ≤ c0 → c0 - c < f → wpAny (model P w) A (setSearchFrom a (.ref x) (thash P w k) true f st) Q E s := by
  intro f
  induction f with
  | zero => exact fun c st _ _ l => (Nat.not_lt_zero _ l).elim
  | succ f ih =>
    intro c st est lc lf
    obtain ⟨o, ho, hex, hd⟩ := R.obj
    have gw : ¬ t.gaveWay = true := by
      unfold SetTable.gaveWay
      rw [mask_odd R.tbl.mok]
      decide
    rw [setSearchFrom_succ]
    refine wpAny_bind (wpAny_setState_of ho hd R.fit ?_)
    dsimp only
    refine wp_if_neg gw ?_
    try refine wpAny_bind (wpAny_pure ?_)
    have mv : ∀ q, nth t.mask (stepP t (thash P w k) c) q = stepP t (thash P w k) (c + q) := fun q => (nth_add t.mask c _ q).symm
    have mj : ∀ q, (nth t.mask (stepP t (thash P w k) c) q).j = way t.mask (thash P w k) (c + q) := fun q => by rw [mv q]
    have ha : ∀ (i : Nat) p, L[i]? = some p → (es[i]?.map (·.1)).getD 0 = thash P w p.2 := fun i p e => by rw [R.at e]; rfl
    have go := go_spec t R.tbl.ris R.tbl.dm (fun i => (es[i]?.map (·.1)).getD 0) (thash P w k) (10 * SetTable.turns t.mask) (K - c) (stepP t (thash P w k) c) (no_dummy _ _ _ rfl) (by omega)
      (fun q hq => by rw [mj]; exact k3 _ (by omega)) (by rw [mj, Nat.add_sub_cancel' (by omega)]; exact k2)
    have h0 : (fun i => (es[i]?.map (·.1)).getD 0) i0 = thash P w k := (ha i0 p0 z1).trans (by rw [z2])
    rcases go with ⟨q, i, lq, ei, eh, before, pr⟩ | ⟨nowhere, _⟩
    · have pr2 : t.probe (fun i => (es[i]?.map (·.1)).getD 0) (thash P w k) (st.getD (t.probeStart (thash P w k))) = some (.candidate (way t.mask (thash P w k) (c + q)) i (stepP t (thash P w k) (c + (q + 1)))) := by
        rw [est, ← mj, ← mv]
        exact pr
      rw [pr2]
      dsimp only
      rw [mj] at ei
      obtain ⟨p, ep⟩ : ∃ p, L[i]? = some p := by
        have l1 := (List.getElem?_eq_some_iff.mp ei).1
        have l2 : t.place.size = L.length := R.tbl.sz.trans (List.length_map _)
        rw [Array.length_toList] at l1
        exact ⟨_, List.getElem?_eq_getElem (by omega)⟩
      have pm : p ∈ L := List.mem_of_getElem? ep
      have sl := slot_live R.tbl.ris ei
      have later : c + q ≤ c0 := by
        rcases Nat.lt_or_ge c0 (c + q) with l | l
        · exact (before (c0 - c) i0 (by omega) (by rw [mj, Nat.add_sub_cancel' lc]; exact z4) h0).elim
        · exact l
      have cmp : wpAny (model P w) A (searchRest a (.ref x) (thash P w k) true f es t (way t.mask (thash P w k) (c + q)) i (stepP t (thash P w k) (c + (q + 1)))) Q E s := by
        unfold searchRest
        rw [R.at ep]
        dsimp only
        refine wpAny_bind (wpAny_holding (wpAny_eqBool_tuple hu (R.tps p pm) hx ?_))
        refine wpAny_bind (wpAny_setState_of ho hd R.fit ?_)
        dsimp only
        by_cases same : p.2 = k
        · exact wp_if_pos (by simp [same]) (wpAny_pure hQ)
        · refine wp_if_neg (by simp [same]) ?_
          try refine wpAny_bind (wpAny_pure ?_)
          rw [sameMem]
          dsimp only
          simp only [if_true, sl, R.at ep]
          refine wpAny_bind (wpAny_isSame_ref_self (wpAny_bind (wpAny_pure ?_)))
          simp only [if_true]
          refine wp_if_neg (by simp [same]) ?_
          have ne : c + q ≠ c0 := fun e => by
            rw [← e] at z4
            have s0 := slot_live R.tbl.ris z4
            rw [sl] at s0
            injection s0 with s0
            rw [← s0, ep] at z1
            exact same (by rw [Option.some.inj z1, z2])
          exact ih (c + (q + 1)) _ rfl (by omega) (by omega)
      by_cases hl : t.led = true
      · refine wp_if_neg (by simp [hl]) ?_
        try refine wpAny_bind (wpAny_pure ?_)
        exact cmp
      · refine wp_if_pos (by simp [hl]) ?_
        refine wpAny_bind (seen_tup hx (fun y hy => ?_) ?_)
        · obtain ⟨e, me, rfl⟩ := List.mem_map.mp hy
          have m2 : e ∈ es.toList := by
            have : e ∈ es ∧ e.1 = thash P w k := by simpa using me
            simpa using this.1
          rw [R.rws] at m2
          obtain ⟨p2, hp2, rfl⟩ := List.mem_map.mp m2
          exact ⟨p2.2, p2.1, rfl, R.tps p2 hp2⟩
        · refine wp_if_neg (by decide) ?_
          try refine wpAny_bind (wpAny_pure ?_)
          exact cmp
    · exact (nowhere (c0 - c) i0 (by omega) (by rw [mj, Nat.add_sub_cancel' lc]; exact z4) h0).elim
/-- the search for one that is in the set -/
theorem there64 (R : Set64 P w s.heap a L es ep t) {x : Addr} {k : List Int} (hx : IsT P w s.heap k x) (hu : A.units < cLine) (hk : k ∈ L.map (·.2)) {Q : SetFound → Shared → Prop} (hQ : Q (.there none) s) : wpAny (model P w) A (setSearch a (.ref x) (thash P w k) true) Q E s := by
  have rm := R.rm
  obtain ⟨K, k1, k2, k3⟩ := R.tbl.first (by rw [List.length_map]; omega) (thash P w k)
  have big : 10 * SetTable.turns t.mask ≤ 1420 := by
    unfold SetTable.turns
    rcases R.tbl.mok with e | e | e <;> omega
  obtain ⟨p0, m0, e0⟩ := List.mem_map.mp hk
  obtain ⟨i0, l0, q0⟩ := List.getElem_of_mem m0
  have z1 : L[i0]? = some p0 := by rw [List.getElem?_eq_getElem l0, q0]
  have l1 : i0 < t.place.toList.length := by
    rw [Array.length_toList, R.tbl.sz, List.length_map]
    exact l0
  have hj := List.getElem?_eq_getElem l1
  obtain ⟨c0, lt, ec⟩ := R.tbl.before (h := thash P w k) k2 (by rw [List.getElem?_map, z1, ← e0]; rfl) hj
  unfold setSearch
  exact find64 R hx hu hQ k1 k2 k3 z1 e0 lt (by rw [ec]; exact hj) 100000 0 none rfl (Nat.zero_le _) (by omega)
/-- one that is in the set is put in again: nothing changes -/
theorem again64 (R : Set64 P w s.heap a L es ep t) {x : Addr} {k : List Int} (hx : IsT P w s.heap k x) (hu : A.units < cLine) (hk : k ∈ L.map (·.2)) {Q : Bool → Shared → Prop} (hQ : Q false s) : wpAny (model P w) A (setAddHashed a (.ref x) (thash P w k)) Q E s := by
  obtain ⟨o, ho, hex, hd⟩ := R.obj
  unfold setAddHashed
  refine wpAny_holding ?_
  rw [show (100000 : Nat) = 99999 + 1 from rfl, setAddHashedIn_succ]
  refine wpAny_bind (wpAny_setState_of ho hd R.fit ?_)
  dsimp only
  refine wp_if_neg (by simp [byScan, Value.scannable]) ?_
  try refine wpAny_bind (wpAny_pure ?_)
  refine wpAny_bind (there64 R hx hu hk ?_)
  dsimp only
  exact wpAny_pure hQ
/-- the sixty-fourth -/
theorem last64 (R : SetTR P w s.heap a L es ep t) (l63 : L.length = 63) {x : Addr} {k : List Int} (hx : IsT P w s.heap k x) (hu : A.units < cLine) (hk : k ∉ L.map (·.2)) {Q : Bool → Shared → Prop}
    (hQ : ∀ b h' N es' ep' t', Heap.SameBut a s.heap h' → Set64 P w h' a N es' ep' t' → N.Perm ((x, k) :: L) → Q b { s with heap := h' }) : wpAny (model P w) A (setAddHashed a (.ref x) (thash P w k)) Q E s := by
  obtain ⟨o, ho, hex, hd⟩ := R.ob
  have mk : t.mask = 127 := by
    have := R.room
    rcases R.tab.mok with e | e | e
    · omega
    · omega
    · exact e
  unfold setAddHashed
  refine wpAny_holding ?_
  rw [show (100000 : Nat) = 99999 + 1 from rfl, setAddHashedIn_succ]
  refine wpAny_bind (wpAny_setState_of ho hd R.fits ?_)
  dsimp only
  refine wp_if_neg (by simp [byScan, Value.scannable]) ?_
  try refine wpAny_bind (wpAny_pure ?_)
  refine wpAny_bind (search_at R hx hu (fun m => (hk m).elim) fun K _ hK hb => ?_)
  dsimp only
  refine wpAny_bind (wpAny_setState_of ho hd R.fits ?_)
  dsimp only
  have pt := R.tab.put hK hb
  generalize ew : way t.mask (thash P w k) K = j at pt ⊢
  generalize et : t.put j = tp at pt ⊢
  obtain ⟨t1, p⟩ := tp
  dsimp only at pt ⊢
  obtain ⟨q1, q2, q3, q4, q5, q6, q7, q8, q9⟩ := pt
  rw [← q1] at q2 q3
  have pl1 : t1.plain = true := q6.trans R.plain
  first
    | (refine wpAny_bind ?_; refine wp_if_pos pl1 ?_; refine hashBy_tup hx ?_)
    | refine wp_if_pos pl1 (wpAny_bind (hashBy_tup hx ?_))
  simp only [if_true]
  obtain ⟨N, eN⟩ : ∃ N, N = L.take p ++ (x, k) :: L.drop p := ⟨_, rfl⟩
  have pm : N.Perm ((x, k) :: L) := eN ▸ put_perm L p (x, k)
  have lN : N.length = 64 := by rw [pm.length_eq, List.length_cons, l63]
  have eR : (SetTable.insertAt es p (thash P w k, Value.ref x)).toList = rowsOf P w N := by rw [SetTable.toList_insertAt, eN, rows_put, R.rows]
  have tN : TabOk t1 (N.map fun q => thash P w q.2) := by
    have : N.map (fun q => thash P w q.2) = (L.map fun q => thash P w q.2).take p ++ thash P w k :: (L.map fun q => thash P w q.2).drop p := by
      rw [eN, List.map_append, List.map_cons, List.map_take, List.map_drop]
    rw [this]
    exact q3
  generalize SetTable.insertAt es p (thash P w k, Value.ref x) = es1 at eR ⊢
  have sz1 : es1.size = 64 := by
    rw [← Array.length_toList, eR, rowsOf, List.length_map, lN]
  refine wpAny_bind (wpAny_storeSet_of ho hd ?_ (by rw [sz1, sizeLine_eq]; omega))
  have sb : Heap.SameBut a s.heap (s.heap.update a (Obj.putSet es1 t1)) := Heap.SameBut.update ..
  have oN := store_at (es' := es1) (t' := t1) ho hd
  generalize s.heap.update a (Obj.putSet es1 t1) = h1 at sb oN ⊢
  have nf : ¬ t1.tooFull = true := by
    unfold SetTable.tooFull
    rw [decide_eq_true_eq, q9, q4, mk, List.length_map, l63]
    decide
  first
    | refine wp_if_neg (by simp [nf]) ?_
    | (refine wpAny_bind ?_; refine wp_if_neg (by simp [nf]) ?_; refine wpAny_pure ?_)
  refine wpAny_pure (hQ true h1 N es1 (ep + 1) t1 sb ⟨⟨_, oN, ⟨hex.1, hex.2.1, hex.2.2⟩, rfl⟩, eR, tN, ?_, fun q hq => ?_, pl1, by rw [q5]; exact R.led, by rw [lN, q4, mk]; decide, by omega⟩ pm)
  · rw [(pm.map (·.2)).nodup_iff, List.map_cons]
    exact List.nodup_cons.mpr ⟨hk, R.nd⟩
  · rcases List.mem_cons.mp (pm.mem_iff.mp hq) with e | e
    · rw [e]
      exact isT_same hx ho hd sb
    · exact isT_same (R.tup q e) ho hd sb
/-- putting one in, where at most 64 are in the end -/
theorem add64 (R : Set64 P w s.heap a L es ep t) {x : Addr} {k : List Int} (hx : IsT P w s.heap k x) (hu : A.units < cLine) (hl : k ∉ L.map (·.2) → L.length < 64) {Q : Bool → Shared → Prop}
    (hQ : ∀ b h' N es' ep' t', Heap.SameBut a s.heap h' → Set64 P w h' a N es' ep' t' → (k ∈ L.map (·.2) → N = L) → (k ∉ L.map (·.2) → N.Perm ((x, k) :: L)) → Q b { s with heap := h' }) :
    wpAny (model P w) A (setAddHashed a (.ref x) (thash P w k)) Q E s := by
  rcases Classical.em (k ∈ L.map (·.2)) with c | c
  · exact again64 R hx hu c (hQ false s.heap L es ep t (Heap.SameBut.refl a s.heap) R (fun _ => rfl) fun z => (z c).elim)
  · have l := hl c
    rcases Nat.lt_or_ge (L.length + 1) 64 with l2 | l2
    · exact add_at (R.to l) hx hu l2 fun b h' N es' ep' t' sb r c1 c2 => hQ b h' N es' ep' t' sb (.of r) c1 c2
    · exact last64 (R.to l) (by omega) hx hu c fun b h' N es' ep' t' sb r pm => hQ b h' N es' ep' t' sb r (fun z => (c z).elim) fun _ => pm
end
end DL

set_option Elab.async false
set_option linter.all false
set_option maxRecDepth 100000
set_option maxHeartbeats 1000000
/-! DL46: set(xs) of at most 64 different tuples of ints, its length, sorted. -/
namespace DL
open PySem PySem.Spec PyProof.Rows L2
section
variable {P : Program} {w : World} {A : Around} {E : Value → Shared → Prop} {s : Shared}
/-- the loop that fills the set: few different ones, however many in all -/
theorem fill64 {J : Addr} {fp wr : List Addr} {G : Array GenState → Array GenState → Prop} {n : Nat} {Pv : Nat → Value → Prop} {St : Nat → Shared → Prop} {R : Result → Shared → Prop}
    (W : WalksS P w A.in1 J fp wr G n Pv St) (S : Addr) (nS : S ∉ fp) (ks : Ks) (hn : n = ks.length) (D0 : List (List Int)) (hD : D0.length ≤ 64) (hin : ∀ p ∈ ks, p.2 ∈ D0) (hv : ∀ i v, Pv i v → ∃ p, ks[i]? = some p ∧ v = .ref p.1)
    (g0 : Heap) (hk : ∀ p ∈ ks, IsT P w g0 p.2 p.1) (gS : g0.get? S = none) (gw : ∀ b ∈ wr, g0.get? b = none) (hu : A.in1.units < cLine) :
    ∀ (k i : Nat) (s : Shared), n - i = k → i ≤ n → St i s → (∀ b o, g0.get? b = some o → s.heap.get? b = some o) → (∃ L es ep t, Set64 P w s.heap S L es ep t ∧ Met ks i L) →
      (∀ z L es ep t, Moved (S :: wr) G s z → Set64 P w z.heap S L es ep t → Met ks n L → (∀ b o, g0.get? b = some o → z.heap.get? b = some o) → R (.ok (.ret .none)) z) →
      codeAny (model P w) A (.builtin "set.update.loop" ⟨[.ref S, .ref J], []⟩) R s := by
  have few : ∀ {h : Heap} {L : Ks} {es : Array (Int × Value)} {ep : Nat} {t : SetTable} {i : Nat} {k : List Int}, Set64 P w h S L es ep t → Met ks i L → k ∈ D0 → k ∉ L.map (·.2) → L.length < 64 := fun {h L es ep t i k} r m hk hn => by
    have := nodup_le (l := k :: L.map (·.2)) (m := D0) (List.nodup_cons.mpr ⟨hn, r.one⟩) fun x hx => by
      rcases List.mem_cons.mp hx with rfl | hx
      · exact hk
      · obtain ⟨p, hp, rfl⟩ := List.mem_map.mp hx
        exact hin p (List.mem_of_mem_take (m.sub p hp))
    rw [List.length_cons, List.length_map] at this
    omega
  have nw : S ∉ wr := fun q => nS (W.sub _ q)
  have up : ∀ b ∈ wr, b ∈ S :: wr := fun b q => List.mem_cons_of_mem _ q
  have on : ∀ {s z : Shared}, Moved wr G s z → (∀ b o, g0.get? b = some o → s.heap.get? b = some o) → ∀ b o, g0.get? b = some o → z.heap.get? b = some o := fun mv kp b o e =>
    mv.heap b o (fun q => by rw [gw b q] at e; cases e) (kp b o e)
  intro k
  induction k with
  | zero =>
    intro i s ek li st kp ⟨L, es, ep, t, r, m⟩ hR
    obtain rfl : i = n := by omega
    refine codeAny_builtin F.entry_set_update_loop ?_
    rw [Around.under_plainId F.plain_set_update_loop _]
    show wpAny _ A.in1 (pyNext (.ref J) >>= _) _ _ s
    refine wpAny_bind (W.done s _ _ st fun z mv => ?_)
    show wpAny _ A.in1 (ret Value.none) _ _ z
    have kz := on mv kp
    have sub : ∀ p ∈ L, p ∈ ks := fun p hp => List.mem_of_mem_take (m.sub p hp)
    exact wpAny_pure (hR z L es ep t (mv.mono up) (r.keep (fun o e => mv.heap S o nw e) fun p hp => isT_keep (hk p (sub p hp)) kz) m kz)
  | succ k ih =>
    intro i s ek li st kp ⟨L, es, ep, t, r, m⟩ hR
    have lt : i < n := by omega
    refine codeAny_builtin F.entry_set_update_loop ?_
    rw [Around.under_plainId F.plain_set_update_loop _]
    show wpAny _ A.in1 (pyNext (.ref J) >>= _) _ _ s
    refine wpAny_bind (W.item i s _ _ lt st fun v z hP st' mv => ?_)
    obtain ⟨p, hp, rfl⟩ := hv i v hP
    have kz := on mv kp
    have sub : ∀ p ∈ L, p ∈ ks := fun p hp => List.mem_of_mem_take (m.sub p hp)
    have r' : Set64 P w z.heap S L es ep t := r.keep (fun o e => mv.heap S o nw e) fun q hq => isT_keep (hk q (sub q hq)) kz
    have hx : IsT P w z.heap p.2 p.1 := isT_keep (hk p (List.mem_of_getElem? hp)) kz
    show wpAny _ A.in1 (holding [Value.ref p.1] (setAdd S (.ref p.1)) >>= _) _ _ z
    refine wpAny_bind (wpAny_holding ?_)
    unfold setAdd
    refine wpAny_holding (wpAny_bind (wpAny_pyHash_tuple hu hx ?_))
    refine add64 (s := { z with toks := z.toks + (p.2.length + 1) }) r' hx hu (few r' m (hin p (List.mem_of_getElem? hp))) fun b hh N es' ep' t' sb r2 c1 c2 => ?_
    have m' : Met ks (i + 1) N := by
      rcases Classical.em (p.2 ∈ L.map (·.2)) with c | c
      · rw [c1 c]
        exact m.one hp c
      · exact m.new hp (c2 c)
    have k2 : ∀ b o, g0.get? b = some o → hh.get? b = some o := fun b o e => (sb.2 b (fun q => by rw [q, gS] at e; cases e)).trans (kz b o e)
    refine wpAny_pure ⟨plainId_quiet F.plain_set_update_loop _, ih (i + 1) _ (by omega) lt (W.frame _ z _ _ st' (Nat.le_add_right _ _) fun b hb o e => ?_) k2 ⟨N, es', ep', t', r2, m'⟩ fun y L2 es2 ep2 t2 mv2 r3 m3 k3 => ?_⟩
    · rw [sb.2 b (fun q : b = S => nS (by rw [← q]; exact hb))]
      exact e
    · refine hR y L2 es2 ep2 t2 (Moved.trans W.gtrans ((mv.mono up).then_heap (Nat.le_add_right _ _) fun b o hb e => ?_) mv2) r3 m3 k3
      rw [sb.2 b (fun q : b = S => hb (by rw [q]; exact List.mem_cons_self))]
      exact e
set_option maxHeartbeats 3200000 in
theorem call_set64 {l : Addr} {items : Array Value} (ks : Ks) {Q : Value → Shared → Prop} (hh : A.handled = none) (hl : s.heap.IsList l items ∨ s.heap.IsTuple l items) (hit : items.toList = ks.map fun p => Value.ref p.1)
    (hk : ∀ p ∈ ks, IsT P w s.heap p.2 p.1) (D0 : List (List Int)) (hD : D0.length ≤ 64) (hin : ∀ p ∈ ks, p.2 ∈ D0) (hu : A.units + 3 < cLine)
    (h : ∀ (g : Heap) (tk : Nat) L es ep t, Set64 P w g s.heap.objs.size L es ep t → Met ks ks.length L → (∀ b o, s.heap.get? b = some o → g.get? b = some o) → Q (.ref s.heap.objs.size) { s with heap := g, toks := tk }) :
    wpAny (model P w) A (call (.type "set") [.ref l]) Q E s := by
  have isz : items.size = ks.length := by
    have q := congrArg List.length hit
    rw [Array.length_toList, List.length_map] at q
    exact q
  obtain ⟨c, tl, hmro⟩ := F.called_set.mro
  have hmade := F.called_set.made
  have hsub := F.called_set.sub
  refine wpAny_call (codeAny_of_tree ?_)
  show wpAny _ _ (callAny (.type "set") _) _ _ _
  refine wpAny_pure ⟨Code.quiet_builtin _ (by decide +kernel), codeAny_builtin F.entry_type_call ?_⟩
  rw [Around.under_plain (weight_type_call_type "set" [.ref l] []) rfl]
  have h1 := F.called_set.notType
  have h2 := F.called_set.canCreate
  have hct := F.typeCall_set_1 (.ref l)
  repeat (any_goals (first | assumption | wp_step))
  refine codeAny_mono (code_set_led1 (.ref l) (E := E) (Q₁ := fun o1 z => o1 = .ref s.heap.objs.size ∧ z = { s with heap := s.heap.push (newSet w) }) ⟨rfl, rfl⟩) fun r z hr => ?_
  cases r with
  | error e => exact hr
  | ok fl =>
    cases fl with
    | ret o1 =>
      obtain ⟨rfl, rfl⟩ := hr
      have aS : (s.heap.push (newSet w)).get? s.heap.objs.size = some (newSet w) := Heap.get?_push_size _ rfl
      have hT : Shared.TypeIs { s with heap := s.heap.push (newSet w) } (.ref s.heap.objs.size) "set" := ⟨_, aS, rfl⟩
      have hli := F.called_set.init.lookup
      have hbi := F.called_set.init.bind (.ref s.heap.objs.size)
      repeat (any_goals (first | assumption | wp_step))
      have none_of : ∀ b, s.heap.objs.size ≤ b → s.heap.get? b = none := fun b hb => by
        cases q : s.heap.get? b with
        | none => rfl
        | some o => exact absurd (Nat.lt_of_lt_of_le (Heap.lt_size q) hb) (Nat.lt_irrefl _)
      have hval : ∀ (i : Nat) (v : Value), items[i]? = some v → ∃ p, ks[i]? = some p ∧ v = .ref p.1 := fun i v hv => by
        have q : items.toList[i]? = some v := by rw [Array.getElem?_toList]; exact hv
        rw [hit, List.getElem?_map] at q
        cases hq : ks[i]? with
        | none => rw [hq] at q; cases q
        | some p =>
          rw [hq] at q
          exact ⟨p, rfl, (Option.some.inj q).symm⟩
      refine codeAny_mono (codeAny_call_builtin (R := wants (fun r y => r = .none ∧ ∃ g tk L es ep t, y = { s with heap := g, toks := tk } ∧ Set64 P w g s.heap.objs.size L es ep t ∧ Met ks ks.length L ∧
          (∀ b o, s.heap.get? b = some o → g.get? b = some o)) E) F.called_set.init.plain F.entry_set_init (check_set_init_1 hT ?_)) fun r₂ s₂ hr₂ => ?_
      · rcases hl with hl | hl
        · obtain ⟨ol, hol, hcl, nl, hdl⟩ := hl
          obtain ⟨ocls, odict, odata, oslots⟩ := ol
          simp only at hcl hdl
          subst hcl hdl
          have hol' : (s.heap.push (newSet w)).get? l = some { cls := .type "list", dict := odict, data := .seq items nl, slots := oslots } := Heap.get?_push_of_some _ hol
          have hsls := F.sub_list_set
          have hslf := F.sub_list_frozenset
          have hne : (Value.type "list" == Value.type "dict") = false := by decide
          have hl1 : (s.heap.push (newSet w)).IsList l items := ⟨_, hol', rfl, nl, rfl⟩
          unfold Builtin.«set.__init__» noKeywords Builtin.Frozenset.updateFrom
          generalize hPI : pyIter = PI
          wp_walk
          subst hPI
          refine wpAny_pyIter_list hl1 (wpAny_bind (wpAny_runValue ?_))
          have hlS : l < s.heap.objs.size := Heap.lt_size hol
          have hh3 : A.in1.in1.in1.handled = none := by simp [hh]
          have hneI : l ≠ (s.heap.push (newSet w)).objs.size := by
            rw [Heap.size_push]
            exact Nat.ne_of_lt (Nat.lt_succ_of_lt hlS)
          have nS : s.heap.objs.size ∉ [(s.heap.push (newSet w)).objs.size, l] := by
            rw [Heap.size_push]
            simp only [List.mem_cons, List.mem_singleton, List.not_mem_nil, or_false, not_or]
            exact ⟨Nat.ne_of_lt (Nat.lt_succ_self _), Nat.ne_of_gt hlS⟩
          refine fill64 ((Walks.list hh3 _ l hneI items).toS) s.heap.objs.size nS ks isz D0 hD hin hval s.heap hk (none_of _ (Nat.le_refl _)) (fun b hb => none_of b (by
              rw [List.mem_singleton.mp hb, Heap.size_push]
              exact Nat.le_succ _)) hu (items.size - 0) 0 _ (by omega) (Nat.zero_le _)
            ⟨⟨_, Heap.get?_push_size _ rfl, rfl, rfl⟩, (hl1.push _)⟩ (fun b o e => Heap.get?_push_of_some _ (Heap.get?_push_of_some _ e)) ⟨[], #[], 0, _, .of (setTR_fresh (Heap.get?_push_of_some _ aS)), ⟨fun p q => (by cases q), fun p q => (by simp at q)⟩⟩ ?_
          intro y L es ep t mv r3 m3 k3
          obtain ⟨g, g2, d', tk', os'⟩ := y
          have eg : g2 = s.gens := mv.gens
          have ed : d' = s.drawn := mv.drawn
          have eo : os' = s.os := mv.os
          subst eg ed eo
          rw [isz] at m3
          exact wpAny_pure (wpAny_pure ⟨rfl, g, tk', L, es, ep, t, rfl, r3, m3, k3⟩)
        · obtain ⟨ol, hol, hcl, nl, hdl⟩ := hl
          obtain ⟨ocls, odict, odata, oslots⟩ := ol
          simp only at hcl hdl
          subst hcl hdl
          have hol' : (s.heap.push (newSet w)).get? l = some { cls := .type "tuple", dict := odict, data := .seq items nl, slots := oslots } := Heap.get?_push_of_some _ hol
          have hsls := PySem.F.sub_tuple_set
          have hslf := PySem.F.sub_tuple_frozenset
          have hne : (Value.type "tuple" == Value.type "dict") = false := by decide
          have hl1 : (s.heap.push (newSet w)).IsTuple l items := ⟨_, hol', rfl, nl, rfl⟩
          unfold Builtin.«set.__init__» noKeywords Builtin.Frozenset.updateFrom
          generalize hPI : pyIter = PI
          wp_walk
          subst hPI
          refine wpAny_pyIter_tuple hl1 (wpAny_bind (wpAny_runValue ?_))
          have hlS : l < s.heap.objs.size := Heap.lt_size hol
          have hh3 : A.in1.in1.in1.handled = none := by simp [hh]
          have hneI : l ≠ (s.heap.push (newSet w)).objs.size := by
            rw [Heap.size_push]
            exact Nat.ne_of_lt (Nat.lt_succ_of_lt hlS)
          have nS : s.heap.objs.size ∉ [(s.heap.push (newSet w)).objs.size, l] := by
            rw [Heap.size_push]
            simp only [List.mem_cons, List.mem_singleton, List.not_mem_nil, or_false, not_or]
            exact ⟨Nat.ne_of_lt (Nat.lt_succ_self _), Nat.ne_of_gt hlS⟩
          refine fill64 ((Walks.tuple hh3 _ l hneI items).toS) s.heap.objs.size nS ks isz D0 hD hin hval s.heap hk (none_of _ (Nat.le_refl _)) (fun b hb => none_of b (by
              rw [List.mem_singleton.mp hb, Heap.size_push]
              exact Nat.le_succ _)) hu (items.size - 0) 0 _ (by omega) (Nat.zero_le _)
            ⟨⟨_, Heap.get?_push_size _ rfl, rfl, rfl⟩, (hl1.push _)⟩ (fun b o e => Heap.get?_push_of_some _ (Heap.get?_push_of_some _ e)) ⟨[], #[], 0, _, .of (setTR_fresh (Heap.get?_push_of_some _ aS)), ⟨fun p q => (by cases q), fun p q => (by simp at q)⟩⟩ ?_
          intro y L es ep t mv r3 m3 k3
          obtain ⟨g, g2, d', tk', os'⟩ := y
          have eg : g2 = s.gens := mv.gens
          have ed : d' = s.drawn := mv.drawn
          have eo : os' = s.os := mv.os
          subst eg ed eo
          rw [isz] at m3
          exact wpAny_pure (wpAny_pure ⟨rfl, g, tk', L, es, ep, t, rfl, r3, m3, k3⟩)
      · cases r₂ with
        | error e => exact hr₂
        | ok fl₂ =>
          cases fl₂ with
          | ret r =>
            obtain ⟨rfl, g, tk, L, es, ep, t, rfl, r3, m3, k3⟩ := hr₂
            repeat (any_goals (first | assumption | wp_step))
            exact h _ _ _ _ _ _ r3 m3 k3
          | _ => exact hr₂.elim
    | _ => exact hr.elim
end
end DL

set_option Elab.async false
set_option linter.all false
set_option maxRecDepth 100000
set_option maxHeartbeats 1000000
/-! DL47: sorted(set(xs)), len(set(xs)), of at most 64 different pairs, by data. -/
namespace DL
open PySem PySem.Spec PyProof.Rows L2
/-- the set at a, without its tuples -/
structure Bare64 (P : Program) (w : World) (h : Heap) (a : Addr) (L : Ks) : Prop where
  ex : ∃ (es : Array (Int × Value)) (ep : Nat) (t : SetTable), (∃ o, h.get? a = some o ∧ o.ExactSet ∧ o.data = .set es ep t) ∧ es.toList = rowsOf P w L ∧ TabOk t (L.map fun p => thash P w p.2) ∧ (L.map (·.2)).Nodup ∧ (w.params.followText "set-order" = true ∨ t.led = true) ∧
    L.length * 5 < t.mask * 3 ∧ L.length ≤ 64
def Set64O (P : Program) (w : World) (a : Addr) (L : Ks) : HO := .ext fun h => Bare64 P w h a L
theorem Set64.bare {P : Program} {w : World} {h : Heap} {a : Addr} {L : Ks} {es : Array (Int × Value)} {ep : Nat} {t : SetTable} (R : Set64 P w h a L es ep t) : Bare64 P w h a L := ⟨es, ep, t, R.obj, R.rws, R.tbl, R.one, R.lds, R.rm, R.le⟩
theorem set64_new {P : Program} {w : World} {H : Hp} {h : Heap} {a : Addr} {L : Ks} (R : Bare64 P w h a L) : ObjOk P w H h a (Set64O P w a L) := by
  have ⟨es, ep, t, ⟨o, ho, r⟩, q⟩ := R.ex
  refine ⟨R, ⟨o, ho⟩, fun h1 h2 p k => ?_⟩
  obtain ⟨es', ep', t', ⟨o', ho', r'⟩, q'⟩ := Bare64.ex p
  exact ⟨es', ep', t', ⟨o', k o' ho', r'⟩, q'⟩
section
variable {X : Cx}
/-- set(xs), of at most 64 different tuples of ints -/
def rSet64 (K : PySem.W.Frag) (P : Program) (w : World) : List V → Hp → VK → Prop := fun xs H Q => ∃ (l : Addr) (ks : Ks) (D0 : List (List Int)), xs = [V.ref l] ∧ (SqL K H l (ks.map fun p => V.ref p.1) ∨ SqT K H l (ks.map fun p => V.ref p.1)) ∧ (∀ p ∈ ks, SqT K H p.1 (p.2.map V.int)) ∧
  D0.length ≤ 64 ∧ (∀ p ∈ ks, p.2 ∈ D0) ∧ ∀ a L, H a = none → (∀ p ∈ L, p ∈ ks) → (∀ p ∈ ks, p.2 ∈ L.map (·.2)) → (L.map (·.2)).Nodup → Q (.ref a) (upd H a (Set64O P w a L))
theorem cr_set64 (hc : X.calm = true) (hu : X.A.units + 64 < cLine) : CallR X (.type "set") (rSet64 X.K X.prog X.w) := by
  intro pins s σ H xs us Q I r h
  obtain ⟨l, ks, D0, rfl, hl, hk, hD, hin, q⟩ := h
  rw [Vals.ref1 r]
  have hn : H s.heap.objs.size = none := I.hok.fresh (Nat.le_refl _)
  have key : ∀ {its : List Value}, Vals (ks.map fun p => V.ref p.1) its → (s.heap.IsList l its.toArray ∨ s.heap.IsTuple l its.toArray) → wpAny (model X.prog X.w) X.A (call (.type "set") [.ref l]) (EP X pins σ Q) X.xe s := fun {its} rv pl => by
    refine call_set64 (P := X.prog) (w := X.w) ks (I.ok.hd hc) pl (by simpa using refs_of_vals rv) (fun p hp => I.isT (hk p hp)) D0 hD hin (by omega) fun g tk L es ep t R m k => ?_
    refine ⟨.ref s.heap.objs.size, upd H s.heap.objs.size (Set64O X.prog X.w s.heap.objs.size L), I.laid (t' := tk) k (Nat.le_refl _) (set64_new R.bare), rfl, q _ L hn (fun p hp => ?_) (fun p hp => ?_) R.one⟩
    · exact List.mem_of_mem_take (m.sub p hp)
    · exact m.all p (by rw [List.take_length]; exact hp)
  rcases hl with hl | hl
  · obtain ⟨its, rv, pl, hz⟩ := I.list hl
    exact key rv (.inl pl.isList)
  · obtain ⟨its, rv, pl, hz⟩ := I.tuple hl
    exact key rv (.inr pl)
theorem bare_size {P : Program} {w : World} {L : Ks} {es : Array (Int × Value)} (e : es.toList = rowsOf P w L) : es.size = L.length := by
  rw [← Array.length_toList, e]
  exact List.length_map _
theorem bare_fits {P : Program} {w : World} {L : Ks} {es : Array (Int × Value)} {t : SetTable} (e : es.toList = rowsOf P w L) (T : TabOk t (L.map fun p => thash P w p.2)) (rm : L.length * 5 < t.mask * 3) : t.fits es.size = true := by
  have e1 : t.place.size = L.length := T.sz.trans (List.length_map _)
  have e2 := bare_size e
  unfold SetTable.fits SetTable.fill
  rw [T.dm]
  refine Bool.and_eq_true_iff.mpr ⟨beq_iff_eq.mpr (e1.trans e2.symm), decide_eq_true ?_⟩
  show t.place.size + 0 ≤ t.mask
  omega
/-- len(set) -/
def rLen64 (P : Program) (w : World) : List V → Hp → VK → Prop := fun xs H Q => ∃ (a : Addr) (L : Ks), xs = [V.ref a] ∧ H a = some (Set64O P w a L) ∧ Q (.int L.length) H
theorem cr_len64 : CallR X (.builtin "len") (rLen64 X.prog X.w) := by
  intro pins s σ H xs us Q I r h
  obtain ⟨a, L, rfl, ha, q⟩ := h
  rw [Vals.ref1 r]
  have R0 : Bare64 X.prog X.w s.heap a L := (I.hok a _ ha).1
  obtain ⟨es, ep, t, ⟨o, ho, hex, hd⟩, h2, h3, h4, h6, h7, h8⟩ := R0.ex
  have esz := bare_size h2
  refine call_len_set ho hex hd (bare_fits h2 h3 h7) (by rw [esz]; omega) ?_
  exact ⟨.int L.length, H, I.kept (t' := _) fun _ _ z => z, ⟨_, by rw [esz]⟩, q⟩
/-- sorted(set), of pairs -/
def rSort64 (P : Program) (w : World) : List V → Hp → VK → Prop := fun vs H Q => ∃ (a : Addr) (L : Ks), vs = [V.ref a] ∧ H a = some (Set64O P w a L) ∧ (∀ q ∈ L, ∃ i j : Int, q.2 = [i, j] ∧ H q.1 = some (.tup [.int i, .int j])) ∧
  ∀ (ys : List V) (p : Addr), ys.Perm (L.map fun q => V.ref q.1) → SrtO.Srtd (ltP (kOf H)) ys → H p = none → Q (.ref p) (upd H p (.lst ys))
theorem cr_sort64 (hc : X.calm = true) : CallR X (.builtin "sorted") (rSort64 X.prog X.w) := by
  intro pins s σ H vs us Q I r h
  obtain ⟨a, L, rfl, ha, hk, q⟩ := h
  have R0 : Bare64 X.prog X.w s.heap a L := (I.hok a _ ha).1
  obtain ⟨es, ep, t, ⟨o, ho, hex, hd⟩, h2, h3, h4, h6, h7, h8⟩ := R0.ex
  have esz := bare_size h2
  rw [Vals.ref1 r]
  refine Calls.call_function_entry PyProof.Rows.kind_sorted PyProof.Rows.plain_sorted PyProof.Rows.entry_sorted (PyProof.Rows.args_sorted1 _) ?_
  unfold Builtin.«sorted»
  refine wpAny_bind (m := checkCount "sorted" 1 1 _) (wpAny_pure ?_)
  refine wpAny_bind (collect_set (A := X.A.in1) (I.ok.hd hc) ⟨o, ho, hex.1, hd⟩ (bare_fits h2 h3 h7) (by unfold scanBound; omega) h3.ris h6 fun s1 acc hk1 hz1 g1 o1 pm => ?_)
  have es2 : es.toList.map (·.2) = L.map fun q => Value.ref q.1 := by
    rw [h2, rowsOf, List.map_map]
    rfl
  rw [es2] at pm
  have la : acc.length = L.length := by rw [pm.length_eq, List.length_map]
  have hz : acc.length ≤ sizeLine := by rw [la, sizeLine_eq]; omega
  refine wpAny_bind (wpAny_newList ?_ hz)
  obtain ⟨g, gg, dr, tk, os⟩ := s1
  have g1 : gg = s.gens := g1
  have o1 : os = s.os := o1
  subst g1 o1
  have hk1 : ∀ b ob, s.heap.get? b = some ob → g.get? b = some ob := hk1
  have hz1 : s.heap.objs.size ≤ g.objs.size := hz1
  have hoL : (g.push (seqObj "list" acc.toArray 0)).get? g.objs.size = some (seqObj "list" acc.toArray 0) := Heap.get?_push_size _ rfl
  have kp : ∀ b ob, s.heap.get? b = some ob → (g.push (seqObj "list" acc.toArray 0)).get? b = some ob := fun b ob e => Heap.get?_push_of_some _ (hk1 b ob e)
  have hp : ∀ v ∈ acc, Srt.IsPair (g.push (seqObj "list" acc.toArray 0)) v (kOf H (backV v)).1 (kOf H (backV v)).2 := fun v hv => by
    obtain ⟨x, hx, rfl⟩ := List.mem_map.mp (pm.mem_iff.mp hv)
    obtain ⟨i, j, _, e⟩ := hk x hx
    have ek : kOf H (backV (Value.ref x.1)) = (i, j) := by
      show (match H x.1 with | some (HO.tup [V.int i, V.int j]) => (i, j) | _ => (0, 0)) = (i, j)
      rw [e]
    rw [ek]
    obtain ⟨_, its2, r2, o', ho', hc', n', hd'⟩ := I.hok _ _ e
    obtain ⟨u1, u2, rfl, ri, rj⟩ := vals2 r2
    obtain ⟨t1, rfl⟩ := ri
    obtain ⟨t2, rfl⟩ := rj
    exact ⟨x.1, o', t1, t2, n', rfl, kp _ _ ho', hc', hd'⟩
  refine wpAny_bind (wpAny_holding (wpAny_call_entry PyProof.Rows.slot_list_sort ⟨_, hoL, rfl⟩ PyProof.Rows.entry_list_sort
    (SrtO.list_sort_ord (s := { s with heap := g.push (seqObj "list" acc.toArray 0), drawn := dr, toks := tk }) (SrtO.swo_lex fun u => kOf H (backV u)) hoL hz (fun h2 => SrtO.pairs_sortableO (by omega) hp fun o' e => ?_) fun out z1 z2 => ⟨_, rfl, ?_⟩) (PyProof.Rows.args_list_sort _)))
  · have e' : some o' = some (seqObj "list" acc.toArray 0) := e.symm.trans hoL
    cases e'
    intro c
    exact absurd (Value.type.inj c) (by decide)
  · have z3 : ∀ u ∈ out, ∃ a, u = Value.ref a := fun u hu => by
      obtain ⟨x, _, rfl⟩ := List.mem_map.mp (pm.mem_iff.mp (z2.perm.mem_iff.mp hu))
      exact ⟨_, rfl⟩
    obtain ⟨c, hcL⟩ := PyProof.Rows.sortedHeap_at (vs := acc) (out := out.toArray) hoL
    have pm2 : (out.map backV).Perm (L.map fun q => V.ref q.1) := by
      have : (L.map fun q => V.ref q.1) = (L.map fun q => Value.ref q.1).map backV := by
        rw [List.map_map]
        rfl
      rw [this]
      exact (z2.perm.trans pm).map backV
    have hlen : (out.map backV).length ≤ sizeLine := by
      rw [pm2.length_eq, List.length_map, sizeLine_eq]
      omega
    have hn : H g.objs.size = none := I.hok.fresh hz1
    have kp2 : ∀ b u, s.heap.get? b = some u → (PyProof.Rows.sortedHeap (g.push (seqObj "list" acc.toArray 0)) g.objs.size acc out.toArray).get? b = some u := fun b u e => by
      have hbs : b < g.objs.size := Heap.lt_size (hk1 b u e)
      rw [PyProof.Rows.sortedHeap_old (Nat.ne_of_lt hbs) (by rw [size_push']; exact Nat.lt_succ_of_lt hbs)]
      exact kp b u e
    have J : Inv X pins σ (upd H g.objs.size (.lst (out.map backV))) { s with heap := PyProof.Rows.sortedHeap (g.push (seqObj "list" acc.toArray 0)) g.objs.size acc out.toArray, gens := s.gens, drawn := dr, toks := tk } :=
      I.call (ch := []) (Un.laid kp2 hz1 hn) (I.hok.laid kp2 hz1 ⟨hlen, out, c, vals_back z3, hcL⟩) I.bare (fun _ z => nomatch z)
    exact wpAny_pure ⟨_, rfl, .ref g.objs.size, _, J, rfl, q _ _ pm2 (SrtO.srtd_map z1) hn⟩
end
/-! ### by data -/
def dSet64 (f : List (Int × Int) → D) : List D → Option D
  | [d] => (seqD d).bind fun ds => (pairsOf ds).bind fun ps => if decide ((ddP ps).length ≤ 64) = true then some (f (ddP ps)) else none
  | _ => none
def dSort64 : List D → Option D := dSet64 fun ps => .lst ((sortP ps).map tupP)
def dLen64 : List D → Option D := dSet64 fun ps => .int ps.length
theorem set64_of {K : PySem.W.Frag} {P : Program} {w : World} {S : List Addr} {H : Hp} {v : V} {d : D} {ds : List D} {ps : List (Int × Int)} {Q : VK} (r : RpB K S H v d) (e1 : seqD d = some ds) (e2 : pairsOf ds = some ps) (hl : (ddP ps).length ≤ 64)
    (h : ∀ a L, H a = none → (∀ q ∈ L, ∃ p ∈ ps, q.2 = [p.1, p.2] ∧ hide H S q.1 = some (.tup [.int p.1, .int p.2])) → (∀ p ∈ ps, [p.1, p.2] ∈ L.map (·.2)) → (L.map (·.2)).Nodup → Q (.ref a) (upd H a (Set64O P w a L))) : rSet64 K P w [v] H Q := by
  have ed := pairsOf_eq e2
  have key : ∃ l xs, v = .ref l ∧ (SqL K H l xs ∨ SqT K H l xs) ∧ RpL K (hide H S) xs ds := by
    cases d with
    | lst es =>
      cases e1
      obtain ⟨l, xs, z1, z2, z3⟩ := r.lst_inv
      exact ⟨l, xs, z1, .inl (SqL.of z2), z3⟩
    | tup es =>
      cases e1
      obtain ⟨l, xs, z1, z2, z3⟩ := r.tup_inv
      exact ⟨l, xs, z1, .inr (SqT.of z2), z3⟩
    | _ => cases e1
  obtain ⟨l, xs, rfl, hs, rl⟩ := key
  subst ed
  obtain ⟨ks, rfl, k2, k3⟩ := rp_pairs rl
  refine ⟨l, ks, (ddP ps).map fun p => [p.1, p.2], rfl, hs, fun q hq => ?_, by rw [List.length_map]; exact hl, fun q hq => ?_, fun a L na s1 s2 nd => h a L na (fun q hq => k3 q (s1 q hq)) (fun p hp => ?_) nd⟩
  · obtain ⟨p, _, z1, z2⟩ := k3 q hq
    rw [z1]
    exact SqT.of (hide_in z2).2
  · obtain ⟨p, z0, z1, _⟩ := k3 q hq
    rw [z1]
    exact List.mem_map.mpr ⟨p, mem_ddP.mpr z0, rfl⟩
  · have : [p.1, p.2] ∈ ks.map (·.2) := by
      rw [k2]
      exact List.mem_map.mpr ⟨p, hp, rfl⟩
    obtain ⟨q, hq, e⟩ := List.mem_map.mp this
    rw [← e]
    exact s2 q hq
section
variable {X : Cx} {F : Fm} {pos : Pos} {e : Expr} {s : Rho → Res D}
theorem dp_sort64 {p p2 q : Pos} (hc : X.calm = true) (hu : X.A.units + 100 < cLine) (hm : X.mg "sorted" = none) (hm2 : X.mg "set" = none) (he : DB X F e s) (hg : Gl X "sorted" := by rfl) (hg2 : Gl X "set" := by rfl)
    (hs : starEach [e] X.env = (false, eval e X.env) :: starEach [] X.env := by rfl) (hs2 : starEach [.Call (.Name "set" p2) [e] [] q] X.env = (false, eval (.Call (.Name "set" p2) [e] [] q) X.env) :: starEach [] X.env := by rfl)
    (hv : bootBuiltins "sorted" = some (.builtin "sorted") := by decide +kernel) (hv2 : bootBuiltins "set" = some (.type "set") := by decide +kernel) :
    DP X F (.Call (.Name "sorted" p) [.Call (.Name "set" p2) [e] [] q] [] pos) (eCall dSort64 (aCons s aNil)) :=
  PE.imp (pe_callB (cr_sort64 hc) hg hm hv (pa_cons (pe_callTy (cr_set64 hc (by omega)) hg2 hm2 hv2 (pa_cons he pa_nil hs) (he := hs)) pa_nil hs2)) fun σ H Q ⟨S, ρ, ok, z⟩ => by
    have z' : PostK X.K (kdV X.K F) S H Q ((s ρ).bind fun d => Res.of (dSort64 [d])) := by
      have : eCall dSort64 (aCons s aNil) ρ = (s ρ).bind fun d => Res.of (dSort64 [d]) := by
        unfold eCall aCons aNil
        cases s ρ <;> rfl
      rwa [this] at z
    refine ⟨S, ρ, ok, post_bind z' fun d ed h1 => fun v H1 g1 r => ?_⟩
    unfold dSort64 dSet64 at h1
    cases e1 : seqD d with
    | none =>
      simp only [e1] at h1
      exact h1.elim
    | some ds =>
      cases e2 : pairsOf ds with
      | none =>
        simp only [e1, e2, Option.bind_some] at h1
        exact h1.elim
      | some ps =>
        simp only [e1, e2, Option.bind_some] at h1
        by_cases c : decide ((ddP ps).length ≤ 64) = true
        · rw [if_pos c] at h1
          show rSet64 X.K X.prog X.w [v] H1 (fun x H2 => rSort64 X.prog X.w [x] H2 Q)
          refine set64_of r e1 e2 (of_decide_eq_true c) fun a L na m1 m2 nd => ?_
          have sd := (ok.up g1).sdom
          have s1 : Same H1 (upd H1 a (Set64O X.prog X.w a L)) := same_new na
          refine ⟨a, L, rfl, upd_same, fun q hq => ?_, fun ys y pm srt ny => ?_⟩
          · obtain ⟨p, _, w1, w2⟩ := m1 q hq
            exact ⟨p.1, p.2, w1, s1 _ _ (hide_in w2).2⟩
          · have sd2 : Sd S (upd H1 a (Set64O X.prog X.w a L)) := fun b hb => by
              obtain ⟨o, z1, z2⟩ := sd b hb
              exact ⟨o, s1 _ _ z1, z2⟩
            have at1 : ∀ q ∈ L, ∃ p ∈ ps, q.2 = [p.1, p.2] ∧ kOf (upd H1 a (Set64O X.prog X.w a L)) (V.ref q.1) = p ∧ hide (upd H1 a (Set64O X.prog X.w a L)) S q.1 = some (.tup [.int p.1, .int p.2]) := fun q hq => by
              obtain ⟨p, w0, w1, w2⟩ := m1 q hq
              refine ⟨p, w0, w1, ?_, hide_mono (Ex.of s1) S _ _ w2 (fun _ z => by cases z)⟩
              show (match upd H1 a (Set64O X.prog X.w a L) q.1 with | some (HO.tup [V.int i, V.int j]) => (i, j) | _ => (0, 0)) = p
              rw [s1 _ _ (hide_in w2).2]
            have eP : (L.map fun q => kOf (upd H1 a (Set64O X.prog X.w a L)) (V.ref q.1)) = L.map fun q => pr q.2 := List.map_congr_left fun q hq => by
              obtain ⟨p, _, w1, w2, _⟩ := at1 q hq
              rw [w2, w1]
              rfl
            have eY : ys.map (kOf (upd H1 a (Set64O X.prog X.w a L))) = sortP (ddP ps) := by
              refine sort_of leP_tot leP_tr leP_anti ?_ ?_
              · refine (pm.map _).trans ?_
                rw [List.map_map]
                show (L.map fun q => kOf (upd H1 a (Set64O X.prog X.w a L)) (V.ref q.1)).Perm _
                rw [eP]
                refine set_perm (fun q hq => ?_) m2 nd
                obtain ⟨p, w0, w1, _⟩ := m1 q hq
                exact ⟨p, w0, w1⟩
              · refine List.pairwise_map.mpr (List.Pairwise.imp ?_ srt)
                intro x y h
                have := SrtO.lexB_no.mp h
                rw [leP_iff]
                omega
            have hm : ∀ v ∈ ys, Rp X.K (hide (upd H1 a (Set64O X.prog X.w a L)) S) v (tupP (kOf (upd H1 a (Set64O X.prog X.w a L)) v)) := fun v hv => by
              obtain ⟨q, hq, rfl⟩ := List.mem_map.mp (pm.mem_iff.mp hv)
              obtain ⟨p, _, _, w2, w3⟩ := at1 q hq
              rw [w2]
              exact .tup w3 (.cons (.int _) (.cons (.int _) .nil))
            have e2 := rpl_map (H := upd H1 a (Set64O X.prog X.w a L)) hm
            rw [show (ys.map fun y => tupP (kOf (upd H1 a (Set64O X.prog X.w a L)) y)) = (ys.map (kOf (upd H1 a (Set64O X.prog X.w a L)))).map tupP by rw [List.map_map]; rfl, eY] at e2
            exact h1 _ _ (F.gr.trans g1 (F.gr.same (s1.trans (same_new ny)))) (new_lst sd2 ny e2)
        · rw [if_neg c] at h1
          exact h1.elim
theorem dp_len64 {p p2 q : Pos} (hc : X.calm = true) (hu : X.A.units + 100 < cLine) (hm : X.mg "len" = none) (hm2 : X.mg "set" = none) (he : DB X F e s) (hg : Gl X "len" := by rfl) (hg2 : Gl X "set" := by rfl)
    (hs : starEach [e] X.env = (false, eval e X.env) :: starEach [] X.env := by rfl) (hs2 : starEach [.Call (.Name "set" p2) [e] [] q] X.env = (false, eval (.Call (.Name "set" p2) [e] [] q) X.env) :: starEach [] X.env := by rfl)
    (hv : bootBuiltins "len" = some (.builtin "len") := by decide +kernel) (hv2 : bootBuiltins "set" = some (.type "set") := by decide +kernel) :
    DP X F (.Call (.Name "len" p) [.Call (.Name "set" p2) [e] [] q] [] pos) (eCall dLen64 (aCons s aNil)) :=
  PE.imp (pe_callB cr_len64 hg hm hv (pa_cons (pe_callTy (cr_set64 hc (by omega)) hg2 hm2 hv2 (pa_cons he pa_nil hs) (he := hs)) pa_nil hs2)) fun σ H Q ⟨S, ρ, ok, z⟩ => by
    have z' : PostK X.K (kdV X.K F) S H Q ((s ρ).bind fun d => Res.of (dLen64 [d])) := by
      have : eCall dLen64 (aCons s aNil) ρ = (s ρ).bind fun d => Res.of (dLen64 [d]) := by
        unfold eCall aCons aNil
        cases s ρ <;> rfl
      rwa [this] at z
    refine ⟨S, ρ, ok, post_bind z' fun d ed h1 => fun v H1 g1 r => ?_⟩
    unfold dLen64 dSet64 at h1
    cases e1 : seqD d with
    | none =>
      simp only [e1] at h1
      exact h1.elim
    | some ds =>
      cases e2 : pairsOf ds with
      | none =>
        simp only [e1, e2, Option.bind_some] at h1
        exact h1.elim
      | some ps =>
        simp only [e1, e2, Option.bind_some] at h1
        by_cases c : decide ((ddP ps).length ≤ 64) = true
        · rw [if_pos c] at h1
          show rSet64 X.K X.prog X.w [v] H1 (fun x H2 => rLen64 X.prog X.w [x] H2 Q)
          refine set64_of r e1 e2 (of_decide_eq_true c) fun a L na m1 m2 nd => ?_
          refine ⟨a, L, rfl, upd_same, ?_⟩
          have eL : L.length = (ddP ps).length := by
            have := (set_perm (fun q hq => by
              obtain ⟨p, w0, w1, _⟩ := m1 q hq
              exact ⟨p, w0, w1⟩) m2 nd).length_eq
            rwa [List.length_map] at this
          rw [eL]
          exact h1 _ _ (F.gr.trans g1 (F.gr.same (same_new na))) (.int _)
        · rw [if_neg c] at h1
          exact h1.elim
end
end DL

set_option Elab.async false
set_option linter.all false
set_option maxRecDepth 100000
set_option maxHeartbeats 1000000
/-! DLs: equations for the mirrors. -/
namespace DL
open PySem PySem.Spec PyProof.Rows L2
section
variable {α β : Type}
@[simp] theorem bind_ok (a : α) (k : α → Res β) : (Res.ok a).bind k = k a := rfl
@[simp] theorem bind_err (c : Str) (k : α → Res β) : (Res.err c : Res α).bind k = .err c := rfl
@[simp] theorem bind_stuck (k : α → Res β) : (Res.stuck : Res α).bind k = .stuck := rfl
@[simp] theorem of_some (a : α) : Res.of (some a) = .ok a := rfl
@[simp] theorem of_none : Res.of (none : Option α) = .stuck := rfl
@[simp] theorem sbind_ok (a : α) (k : α → SR) : sBind (Res.ok a) k = k a := rfl
@[simp] theorem sbind_err (c : Str) (k : α → SR) : sBind (Res.err c : Res α) k = .er c := rfl
@[simp] theorem sbind_stuck (k : α → SR) : sBind (Res.stuck : Res α) k = .stuck := rfl
end
@[simp] theorem ifB_bl (b : Bool) (t f : Res D) : ifB (.bl b) t f = if b = true then t else f := rfl
@[simp] theorem isB_bl (b : Bool) : isB (.bl b) = some b := rfl
@[simp] theorem e2_eq {β : Type} (g : D → D → Option β) (a b : Rho → Res D) (ρ : Rho) : e2 g a b ρ = (a ρ).bind fun x => (b ρ).bind fun y => Res.of (g x y) := rfl
@[simp] theorem e1_eq {β : Type} (g : D → Option β) (a : Rho → Res D) (ρ : Rho) : e1 g a ρ = (a ρ).bind fun x => Res.of (g x) := rfl
@[simp] theorem eC_eq (d : D) (ρ : Rho) : eC d ρ = .ok d := rfl
@[simp] theorem eT_eq (s : Rho → Res D) (ρ : Rho) : eT s ρ = (s ρ).bind fun d => Res.of (isB d) := rfl
@[simp] theorem eChain_eq (g g' : D → D → Option D) (a b c : Rho → Res D) (ρ : Rho) : eChain g g' a b c ρ = (a ρ).bind fun x => (b ρ).bind fun y => (Res.of (g x y)).bind fun z => ifB z ((c ρ).bind fun w => Res.of (g' y w)) (.ok (.bl false)) := rfl
@[simp] theorem tand_eq (a b : Rho → Res Bool) (ρ : Rho) : tand a b ρ = (a ρ).bind fun x => if x = true then b ρ else .ok false := rfl
@[simp] theorem tor_eq (a b : Rho → Res Bool) (ρ : Rho) : tor a b ρ = (a ρ).bind fun x => if x = true then .ok true else b ρ := rfl
@[simp] theorem tnot_eq (a : Rho → Res Bool) (ρ : Rho) : tnot a ρ = (a ρ).bind fun x => .ok (!x) := rfl
@[simp] theorem eand_eq (a b : Rho → Res D) (ρ : Rho) : eand a b ρ = (a ρ).bind fun x => ifB x (b ρ) (.ok (.bl false)) := rfl
@[simp] theorem eor_eq (a b : Rho → Res D) (ρ : Rho) : eor a b ρ = (a ρ).bind fun x => ifB x (.ok (.bl true)) (b ρ) := rfl
@[simp] theorem enot_eq (a : Rho → Res D) (ρ : Rho) : enot a ρ = (a ρ).bind fun x => ifB x (.ok (.bl false)) (.ok (.bl true)) := rfl
@[simp] theorem aNil_eq (ρ : Rho) : aNil ρ = .ok [] := rfl
@[simp] theorem aCons_eq (a : Rho → Res D) (r : Rho → Res (List D)) (ρ : Rho) : aCons a r ρ = (a ρ).bind fun x => (r ρ).bind fun xs => .ok (x :: xs) := rfl
@[simp] theorem eCall_eq (g : List D → Option D) (s : Rho → Res (List D)) (ρ : Rho) : eCall g s ρ = (s ρ).bind fun ds => Res.of (g ds) := rfl
@[simp] theorem eFn_eq (m : List D → Res D) (s : Rho → Res (List D)) (ρ : Rho) : eFn m s ρ = (s ρ).bind m := rfl
/-- a tuple of few -/
def tupR (ds : List D) : Res D := if ds.length ≤ sizeLine then .ok (.tup ds) else .stuck
def lstR (ds : List D) : Res D := if ds.length ≤ sizeLine then .ok (.lst ds) else .stuck
theorem few {n : Nat} (h : n ≤ 1000) : n ≤ sizeLine := Nat.le_trans h (by decide)
@[simp] theorem eTup_eq (s : Rho → Res (List D)) (ρ : Rho) : eTup s ρ = (s ρ).bind tupR := rfl
@[simp] theorem eLst_eq (s : Rho → Res (List D)) (ρ : Rho) : eLst s ρ = (s ρ).bind lstR := rfl
theorem tupR_ok {ds : List D} (h : ds.length ≤ 1000) : tupR ds = .ok (.tup ds) := if_pos (few h)
theorem lstR_ok {ds : List D} (h : ds.length ≤ 1000) : lstR ds = .ok (.lst ds) := if_pos (few h)
@[simp] theorem tupR_0 : tupR [] = .ok (.tup []) := rfl
@[simp] theorem tupR_1 (a : D) : tupR [a] = .ok (.tup [a]) := tupR_ok (by simp)
@[simp] theorem tupR_2 (a b : D) : tupR [a, b] = .ok (.tup [a, b]) := tupR_ok (by simp)
@[simp] theorem tupR_3 (a b c : D) : tupR [a, b, c] = .ok (.tup [a, b, c]) := tupR_ok (by simp)
@[simp] theorem tupR_4 (a b c d : D) : tupR [a, b, c, d] = .ok (.tup [a, b, c, d]) := tupR_ok (by simp)
@[simp] theorem tupR_5 (a b c d e : D) : tupR [a, b, c, d, e] = .ok (.tup [a, b, c, d, e]) := tupR_ok (by simp)
@[simp] theorem tupR_6 (a b c d e f : D) : tupR [a, b, c, d, e, f] = .ok (.tup [a, b, c, d, e, f]) := tupR_ok (by simp)
@[simp] theorem tupR_7 (a b c d e f g : D) : tupR [a, b, c, d, e, f, g] = .ok (.tup [a, b, c, d, e, f, g]) := tupR_ok (by simp)
@[simp] theorem lstR_0 : lstR [] = .ok (.lst []) := rfl
@[simp] theorem lstR_1 (a : D) : lstR [a] = .ok (.lst [a]) := lstR_ok (by simp)
@[simp] theorem lstR_2 (a b : D) : lstR [a, b] = .ok (.lst [a, b]) := lstR_ok (by simp)
@[simp] theorem lstR_3 (a b c : D) : lstR [a, b, c] = .ok (.lst [a, b, c]) := lstR_ok (by simp)
@[simp] theorem lstR_4 (a b c d : D) : lstR [a, b, c, d] = .ok (.lst [a, b, c, d]) := lstR_ok (by simp)
@[simp] theorem eComp_eq (it : Rho → Res (List D)) (t : Tg) (tt : Rho → Res Bool) (el : Rho → Res D) (vs : List Nat) (ρ : Rho) : eComp it t tt el vs ρ = (it ρ).bind fun ds => (compL t tt el (wipeR ρ vs) ds).bind fun out => .ok (.lst out) := rfl
@[simp] theorem iVal_eq (s : Rho → Res D) (ρ : Rho) : iVal s ρ = (s ρ).bind fun d => Res.of (itemsOf d) := rfl
@[simp] theorem iRng_eq (g : List D → Option (List D)) (s : Rho → Res (List D)) (ρ : Rho) : iRng g s ρ = (s ρ).bind fun ds => Res.of (g ds) := rfl
@[simp] theorem tYes_eq (ρ : Rho) : tYes' ρ = .ok true := rfl
/-! names -/
@[simp] theorem eVar_0 (d : D) (ρ : Rho) : eVar 0 (.fz d :: ρ) = .ok d := rfl
@[simp] theorem eVar_s (i : Nat) (s : Slot) (ρ : Rho) : eVar (i + 1) (s :: ρ) = eVar i ρ := rfl
@[simp] theorem eOwn_0 (d : D) (ρ : Rho) : eOwn 0 (.ow d :: ρ) = .ok d := rfl
@[simp] theorem eOwn_s (i : Nat) (s : Slot) (ρ : Rho) : eOwn (i + 1) (s :: ρ) = eOwn i ρ := rfl
/-! statements -/
@[simp] theorem sNil_eq (ρ : Rho) : sNil ρ = .nx ρ := rfl
@[simp] theorem sBrk_eq (ρ : Rho) : sBrk ρ = .bk ρ := rfl
@[simp] theorem sCont_eq (ρ : Rho) : sCont ρ = .ct ρ := rfl
@[simp] theorem sRet_eq (s : Rho → Res D) (ρ : Rho) : sRet s ρ = sBind (s ρ) fun d => .rt d := rfl
@[simp] theorem sDrop_eq (s : Rho → Res D) (ρ : Rho) : sDrop s ρ = sBind (s ρ) fun _ => .nx ρ := rfl
@[simp] theorem sIf_eq (c : Rho → Res Bool) (a b : Rho → SR) (ρ : Rho) : sIf c a b ρ = sBind (c ρ) fun k => if k = true then a ρ else b ρ := rfl
@[simp] theorem sSet_eq (i : Nat) (s : Rho → Res D) (ρ : Rho) : sSet i s ρ = sBind (s ρ) fun d => .nx (ρ.set i (.fz d)) := rfl
@[simp] theorem sNew_eq (i : Nat) (s : Rho → Res D) (ρ : Rho) : sNew i s ρ = sBind (s ρ) fun d => .nx (ρ.set i (.ow d)) := rfl
@[simp] theorem sRaise_eq (c : Str) (ρ : Rho) : sRaise c ρ = .er c := rfl
@[simp] theorem sFor_eq (it : Rho → Res (List D)) (t : Tg) (body : Rho → SR) (ρ : Rho) : sFor it t body ρ = sBind (it ρ) fun ds => forL t body ds ρ := rfl
@[simp] theorem sWhile_eq (n : Nat) (c : Rho → Res Bool) (body : Rho → SR) (ρ : Rho) : sWhile n c body ρ = whileN c body n ρ := rfl
def seqR (r : SR) (b : Rho → SR) : SR := match r with
  | .nx ρ' => b ρ'
  | r => r
@[simp] theorem sSeq_eq (a b : Rho → SR) (ρ : Rho) : sSeq a b ρ = seqR (a ρ) b := rfl
@[simp] theorem seqR_nx (ρ : Rho) (b : Rho → SR) : seqR (.nx ρ) b = b ρ := rfl
@[simp] theorem seqR_rt (d : D) (b : Rho → SR) : seqR (.rt d) b = .rt d := rfl
@[simp] theorem seqR_er (d : Str) (b : Rho → SR) : seqR (.er d) b = .er d := rfl
@[simp] theorem seqR_bk (d : Rho) (b : Rho → SR) : seqR (.bk d) b = .bk d := rfl
@[simp] theorem seqR_ct (d : Rho) (b : Rho → SR) : seqR (.ct d) b = .ct d := rfl
@[simp] theorem seqR_stuck (b : Rho → SR) : seqR .stuck b = .stuck := rfl
@[simp] theorem seqR_ite (c : Prop) [Decidable c] (x y : SR) (b : Rho → SR) : seqR (if c then x else y) b = if c then seqR x b else seqR y b := by
  split <;> rfl
@[simp] theorem outOf_nx (ρ : Rho) : outOf (.nx ρ) = .ok .non := rfl
@[simp] theorem outOf_rt (d : D) : outOf (.rt d) = .ok d := rfl
@[simp] theorem outOf_er (d : Str) : outOf (.er d) = .err d := rfl
@[simp] theorem outOf_ite (c : Prop) [Decidable c] (x y : SR) : outOf (if c then x else y) = if c then outOf x else outOf y := by
  split <;> rfl
@[simp] theorem sbind_ite {α : Type} (c : Prop) [Decidable c] (x y : Res α) (k : α → SR) : sBind (if c then x else y) k = if c then sBind x k else sBind y k := by
  split <;> rfl
@[simp] theorem bind_ite {α β : Type} (c : Prop) [Decidable c] (x y : Res α) (k : α → Res β) : (if c then x else y).bind k = if c then x.bind k else y.bind k := by
  split <;> rfl
@[simp] theorem asg_nm (i : Nat) (d : D) (ρ : Rho) : (Tg.nm i).asg d ρ = some (ρ.set i (.fz d)) := rfl
@[simp] theorem asg_tp (is : List Nat) (ds : List D) (ρ : Rho) : (Tg.tp is).asg (.tup ds) ρ = setAll is ds ρ := rfl
@[simp] theorem asg_tpg (is : List Nat) (ds : List D) (ρ : Rho) : (Tg.tp is).asg (.gtup ds) ρ = setAll is ds ρ := rfl
@[simp] theorem asg_tl (is : List Nat) (ds : List D) (ρ : Rho) : (Tg.tl is).asg (.lst ds) ρ = setAll is ds ρ := rfl
@[simp] theorem setAll_nil (ρ : Rho) : setAll [] [] ρ = some ρ := rfl
@[simp] theorem setAll_cons (i : Nat) (is : List Nat) (d : D) (ds : List D) (ρ : Rho) : setAll (i :: is) (d :: ds) ρ = setAll is ds (ρ.set i (.fz d)) := rfl
def optS (o : Option Rho) : SR := match o with
  | some ρ' => .nx ρ'
  | none => .stuck
@[simp] theorem sUnp_eq (t : Tg) (s : Rho → Res D) (ρ : Rho) : sUnp t s ρ = sBind (s ρ) fun d => optS (t.asg d ρ) := rfl
@[simp] theorem optS_some (ρ : Rho) : optS (some ρ) = .nx ρ := rfl
@[simp] theorem sPar_ok (i j : Nat) (s : Rho → Res (List D)) (ρ : Rho) : sPar i j s ρ = sBind (s ρ) fun ds => match ds with
  | [a, b] => .nx ((ρ.set i (.fz a)).set j (.fz b))
  | _ => .stuck := rfl
@[simp] theorem wipeR_nil (ρ : Rho) : wipeR ρ [] = ρ := rfl
@[simp] theorem wipeR_cons (ρ : Rho) (v : Nat) (vs : List Nat) : wipeR ρ (v :: vs) = (wipeR ρ vs).set v .no := rfl
@[simp] theorem forL_nil (t : Tg) (body : Rho → SR) (ρ : Rho) : forL t body [] ρ = .nx ρ := rfl
@[simp] theorem frz_0 (d : D) (ρ : Rho) : frz 0 (.ow d :: ρ) = .fz d :: ρ := rfl
@[simp] theorem frz_s (i : Nat) (s : Slot) (ρ : Rho) : frz (i + 1) (s :: ρ) = s :: frz i ρ := by
  unfold frz
  rw [List.getElem?_cons_succ]
  cases e : ρ[i]? with
  | none => rfl
  | some t => cases t <;> rfl
@[simp] theorem sFrz_eq (i : Nat) (s : Rho → SR) (ρ : Rho) : sFrz i s ρ = s (frz i ρ) := rfl
/-! told -/
def toldR (r : Res D) : Res D := match r with
  | .ok d => .ok (toldD d)
  | .err c => Res.of ((exIx c).map refD)
  | .stuck => .stuck
@[simp] theorem eTold_eq (s : Rho → Res D) (ρ : Rho) : eTold s ρ = toldR (s (calmR ρ)) := rfl
@[simp] theorem toldR_ok (d : D) : toldR (.ok d) = .ok (toldD d) := rfl
@[simp] theorem toldR_err (c : Str) : toldR (.err c) = Res.of ((exIx c).map refD) := rfl
@[simp] theorem exIx_0 : exIx "NoCell" = some 0 := by decide
@[simp] theorem exIx_1 : exIx "TooMany" = some 1 := by decide
@[simp] theorem exIx_2 : exIx "NoWay" = some 2 := by decide
@[simp] theorem exIx_3 : exIx "NoDeed" = some 3 := by decide
@[simp] theorem exIx_4 : exIx "NoText" = some 4 := by decide
@[simp] theorem calmR_nil : calmR [] = [] := rfl
@[simp] theorem calmR_no (ρ : Rho) : calmR (.no :: ρ) = .no :: calmR ρ := rfl
@[simp] theorem calmR_fz (d : D) (ρ : Rho) : calmR (.fz d :: ρ) = .fz d :: calmR ρ := rfl
@[simp] theorem calmR_ow (d : D) (ρ : Rho) : calmR (.ow d :: ρ) = .no :: calmR ρ := rfl
/-! operations -/
@[simp] theorem dIx_tup (ds : List D) (i : Int) : dIx (.tup ds) (.int i) = atI ds i := rfl
@[simp] theorem dIx_gtup (ds : List D) (i : Int) : dIx (.gtup ds) (.int i) = atI ds i := rfl
@[simp] theorem dIx_lst (ds : List D) (i : Int) : dIx (.lst ds) (.int i) = atI ds i := rfl
@[simp] theorem dIx_scr (ds : List Int) (i : Int) : dIx (.scr ds) (.int i) = (atI ds i).map .int := rfl
@[simp] theorem dAdd_int (i j : Int) : dAdd (.int i) (.int j) = some (.int (i + j)) := rfl
@[simp] theorem dSub_int (i j : Int) : dSub (.int i) (.int j) = some (.int (i - j)) := rfl
@[simp] theorem dNeg_int (i : Int) : dNeg (.int i) = some (.int (-i)) := rfl
@[simp] theorem dLt_int (i j : Int) : dLt (.int i) (.int j) = some (.bl (decide (i < j))) := rfl
@[simp] theorem dLe_int (i j : Int) : dLe (.int i) (.int j) = some (.bl (decide (i ≤ j))) := rfl
@[simp] theorem dGt_int (i j : Int) : dGt (.int i) (.int j) = some (.bl (decide (j < i))) := rfl
@[simp] theorem dGe_int (i j : Int) : dGe (.int i) (.int j) = some (.bl (decide (j ≤ i))) := rfl
theorem dMul_l {i j : Int} (h1 : -(2 ^ 64) < i) (h2 : i < 2 ^ 64) : dMul (.int i) (.int j) = some (.int (i * j)) := by
  refine if_pos ?_
  unfold small64b
  simp only [Bool.or_eq_true, Bool.and_eq_true, decide_eq_true_eq]
  exact .inl ⟨h1, h2⟩
theorem dMul_r {i j : Int} (h1 : -(2 ^ 64) < j) (h2 : j < 2 ^ 64) : dMul (.int i) (.int j) = some (.int (i * j)) := by
  refine if_pos ?_
  unfold small64b
  simp only [Bool.or_eq_true, Bool.and_eq_true, decide_eq_true_eq]
  exact .inr ⟨h1, h2⟩
theorem dFdiv_ok {i j : Int} (h1 : 0 < j) (h2 : j < 1073741824) : dFdiv (.int i) (.int j) = some (.int (i / j)) := by
  refine if_pos ?_
  simp only [Bool.and_eq_true, decide_eq_true_eq]
  exact ⟨h1, h2⟩
theorem dMod_ok {i j : Int} (h1 : 0 < j) : dMod (.int i) (.int j) = some (.int (i % j)) := by
  exact if_pos h1
@[simp] theorem dLen_tup (ds : List D) : dLen [.tup ds] = some (.int ds.length) := rfl
@[simp] theorem dLen_lst (ds : List D) : dLen [.lst ds] = some (.int ds.length) := rfl
@[simp] theorem dLen_gtup (ds : List D) : dLen [.gtup ds] = some (.int ds.length) := rfl
@[simp] theorem dLen_scr (ds : List Int) : dLen [.scr ds] = some (.int ds.length) := rfl
@[simp] theorem dTuple_lst (ds : List D) : dTuple [.lst ds] = some (.tup ds) := rfl
@[simp] theorem dTuple_tup (ds : List D) : dTuple [.tup ds] = some (.tup ds) := rfl
@[simp] theorem dList_lst (ds : List D) : dList [.lst ds] = some (.lst ds) := rfl
@[simp] theorem dList_tup (ds : List D) : dList [.tup ds] = some (.lst ds) := rfl
@[simp] theorem dMax_2 (i j : Int) : dMax [.int i, .int j] = some (.int (if j > i then j else i)) := rfl
@[simp] theorem dMin_2 (i j : Int) : dMin [.int i, .int j] = some (.int (if j < i then j else i)) := rfl
@[simp] theorem dInt_int (i : Int) : dInt [.int i] = some (.int i) := rfl
@[simp] theorem dInt_bl (b : Bool) : dInt [.bl b] = some (.int (if b = true then 1 else 0)) := by cases b <;> rfl
@[simp] theorem itemsOf_tup (ds : List D) : itemsOf (.tup ds) = some ds := rfl
@[simp] theorem itemsOf_gtup (ds : List D) : itemsOf (.gtup ds) = some ds := rfl
@[simp] theorem itemsOf_lst (ds : List D) : itemsOf (.lst ds) = some ds := rfl
@[simp] theorem dIs_non (d : D) : dIs d .non = some (.bl (isNon d)) := by cases d <;> rfl
@[simp] theorem dIsNot_non (d : D) : dIsNot d .non = some (.bl (!isNon d)) := by cases d <;> rfl
@[simp] theorem dIs_bl (a b : Bool) : dIs (.bl a) (.bl b) = some (.bl (decide (a = b))) := rfl
@[simp] theorem dIsNot_bl (a b : Bool) : dIsNot (.bl a) (.bl b) = some (.bl (!decide (a = b))) := rfl
/-! places -/
theorem atI_at {α : Type} {xs : List α} {i : Int} (h0 : 0 ≤ i) : atI xs i = xs[i.toNat]? := by
  unfold atI ixN
  rw [if_pos h0]
  by_cases c : i < xs.length
  · rw [if_pos c]
    rfl
  · rw [if_neg c]
    have : xs.length ≤ i.toNat := by omega
    rw [List.getElem?_eq_none this]
    rfl
@[simp] theorem atI_0 {α : Type} (a : α) (l : List α) : atI (a :: l) 0 = some a := by
  rw [atI_at (by decide)]
  rfl
@[simp] theorem atI_1 {α : Type} (a b : α) (l : List α) : atI (a :: b :: l) 1 = some b := by
  rw [atI_at (by decide)]
  rfl
@[simp] theorem atI_2 {α : Type} (a b c : α) (l : List α) : atI (a :: b :: c :: l) 2 = some c := by
  rw [atI_at (by decide)]
  rfl
/-! loops -/
theorem compL_map {α : Type} {t : Tg} {tt : Rho → Res Bool} {el : Rho → Res D} {ρ : Rho} (enc : α → D) (p : α → Bool) (f : α → D) : ∀ xs : List α, (∀ x ∈ xs, ∃ ρ1, t.asg (enc x) ρ = some ρ1 ∧ tt ρ1 = .ok (p x) ∧ (p x = true → el ρ1 = .ok (f x))) →
    compL t tt el ρ (xs.map enc) = .ok ((xs.filter p).map f)
  | [], _ => rfl
  | x :: xs, h => by
    obtain ⟨ρ1, h1, h2, h3⟩ := h x (List.mem_cons_self ..)
    have ih := compL_map enc p f xs fun y hy => h y (List.mem_cons_of_mem _ hy)
    rw [List.map_cons]
    unfold compL
    rw [h1]
    dsimp only
    rw [h2]
    dsimp only
    by_cases c : p x = true
    · rw [if_pos c, h3 c, ih, List.filter_cons_of_pos c]
      rfl
    · rw [if_neg c, ih, List.filter_cons_of_neg c]
/-- without tests -/
theorem compL_all {α : Type} {t : Tg} {el : Rho → Res D} {ρ : Rho} (enc : α → D) (f : α → D) (xs : List α) (h : ∀ x ∈ xs, ∃ ρ1, t.asg (enc x) ρ = some ρ1 ∧ el ρ1 = .ok (f x)) :
    compL t tYes' el ρ (xs.map enc) = .ok (xs.map f) := by
  have := compL_map (t := t) (tt := tYes') (el := el) (ρ := ρ) enc (fun _ => true) f xs fun x hx => by
    obtain ⟨ρ1, h1, h2⟩ := h x hx
    exact ⟨ρ1, h1, rfl, fun _ => h2⟩
  rw [this, List.filter_eq_self.mpr fun _ _ => rfl]
/-- a loop by its state: st gives the names' values from what was gathered -/
theorem forL_st {α σ : Type} {t : Tg} {body : Rho → SR} (enc : α → D) (R : σ → Rho → Prop) (f : σ → α → σ) : ∀ (xs : List α) (s : σ) (ρ : Rho), R s ρ → (∀ x ∈ xs, ∀ s ρ, R s ρ → ∃ ρ1 ρ2, t.asg (enc x) ρ = some ρ1 ∧ (body ρ1 = .nx ρ2 ∨ body ρ1 = .ct ρ2) ∧ R (f s x) ρ2) →
    ∃ ρ', forL t body (xs.map enc) ρ = .nx ρ' ∧ R (xs.foldl f s) ρ'
  | [], s, ρ, h, _ => ⟨ρ, rfl, h⟩
  | x :: xs, s, ρ, h, hs => by
    obtain ⟨ρ1, ρ2, h1, h2, h3⟩ := hs x (List.mem_cons_self ..) s ρ h
    obtain ⟨ρ', h4, h5⟩ := forL_st enc R f xs (f s x) ρ2 h3 fun y hy => hs y (List.mem_cons_of_mem _ hy)
    refine ⟨ρ', ?_, h5⟩
    rw [List.map_cons]
    unfold forL
    rw [h1]
    dsimp only
    rcases h2 with h2 | h2
    · rw [h2]
      exact h4
    · rw [h2]
      exact h4
/-- a loop that may be left by a return -/
theorem forL_find {α : Type} {t : Tg} {body : Rho → SR} (enc : α → D) (R : Rho → Prop) (p : α → Bool) (r : D) : ∀ (xs : List α) (ρ : Rho), R ρ → (∀ x ∈ xs, ∀ ρ, R ρ → ∃ ρ1, t.asg (enc x) ρ = some ρ1 ∧ (p x = true → body ρ1 = .rt r) ∧ (p x = false → ∃ ρ2, (body ρ1 = .nx ρ2 ∨ body ρ1 = .ct ρ2) ∧ R ρ2)) →
    (xs.any p = true → forL t body (xs.map enc) ρ = .rt r) ∧ (xs.any p = false → ∃ ρ', forL t body (xs.map enc) ρ = .nx ρ' ∧ R ρ')
  | [], ρ, h, _ => ⟨fun z => (by cases z), fun _ => ⟨ρ, rfl, h⟩⟩
  | x :: xs, ρ, h, hs => by
    obtain ⟨ρ1, h1, h2, h3⟩ := hs x (List.mem_cons_self ..) ρ h
    rw [List.map_cons, List.any_cons]
    unfold forL
    rw [h1]
    dsimp only
    cases c : p x with
    | true =>
      rw [h2 c]
      exact ⟨fun _ => rfl, fun z => by simp at z⟩
    | false =>
      obtain ⟨ρ2, h4, h5⟩ := h3 c
      have ih := forL_find enc R p r xs ρ2 h5 fun y hy => hs y (List.mem_cons_of_mem _ hy)
      rcases h4 with h4 | h4
      · rw [h4]
        simpa using ih
      · rw [h4]
        simpa using ih
theorem intsOf_map (is : List Int) : intsOf (is.map .int) = some is := by
  induction is with
  | nil => rfl
  | cons i is ih => simp [intsOf, ih]
theorem blsOf_map {α : Type} (p : α → Bool) (xs : List α) : blsOf (xs.map fun x => .bl (p x)) = some (xs.map p) := by
  induction xs with
  | nil => rfl
  | cons i is ih => simp [blsOf, ih]
theorem dAll_map {α : Type} (p : α → Bool) (xs : List α) : dAll [.lst (xs.map fun x => .bl (p x))] = some (.bl (xs.all p)) := by
  show (blsOf (xs.map fun x => D.bl (p x))).map (fun bs => D.bl (bs.all id)) = _
  rw [blsOf_map]
  simp [List.all_map]
theorem dAny_map {α : Type} (p : α → Bool) (xs : List α) : dAny [.lst (xs.map fun x => .bl (p x))] = some (.bl (xs.any p)) := by
  show (blsOf (xs.map fun x => D.bl (p x))).map (fun bs => D.bl (bs.any id)) = _
  rw [blsOf_map]
  simp [List.any_map]
theorem eqL_map {α : Type} {n : Nat} (enc : α → D) [DecidableEq α] (h : ∀ a b, eqN n (enc a) (enc b) = decide (a = b)) : ∀ xs ys : List α, eqL (eqN n) (xs.map enc) (ys.map enc) = decide (xs = ys)
  | [], [] => by simp [eqL]
  | [], _ :: _ => by simp [eqL]
  | _ :: _, [] => by simp [eqL]
  | x :: xs, y :: ys => by
    simp only [List.map_cons, eqL, h, eqL_map enc h xs ys]
    by_cases c : x = y <;> simp [c]
/-- a loop by the number of its turns -/
theorem forL_ix {α : Type} {t : Tg} {body : Rho → SR} (enc : α → D) (R : Nat → Rho → Prop) : ∀ (xs : List α) (k : Nat) (ρ : Rho), R k ρ → (∀ i x ρ, xs[i]? = some x → R (k + i) ρ → ∃ ρ1 ρ2, t.asg (enc x) ρ = some ρ1 ∧ (body ρ1 = .nx ρ2 ∨ body ρ1 = .ct ρ2) ∧ R (k + i + 1) ρ2) →
    ∃ ρ', forL t body (xs.map enc) ρ = .nx ρ' ∧ R (k + xs.length) ρ'
  | [], k, ρ, h, _ => ⟨ρ, rfl, h⟩
  | x :: xs, k, ρ, h, hs => by
    obtain ⟨ρ1, ρ2, h1, h2, h3⟩ := hs 0 x ρ rfl h
    obtain ⟨ρ', h4, h5⟩ := forL_ix enc R xs (k + 1) ρ2 h3 fun i y ρ hi hr => by
      have := hs (i + 1) y ρ (by simpa using hi) (by rw [show k + (i + 1) = k + 1 + i by omega]; exact hr)
      rwa [show k + (i + 1) + 1 = k + 1 + i + 1 by omega] at this
    refine ⟨ρ', ?_, by rw [List.length_cons, show k + (xs.length + 1) = k + 1 + xs.length by omega]; exact h5⟩
    rw [List.map_cons]
    unfold forL
    rw [h1]
    dsimp only
    rcases h2 with h2 | h2
    · rw [h2]
      exact h4
    · rw [h2]
      exact h4
theorem forL_ix0 {α : Type} {t : Tg} {body : Rho → SR} (enc : α → D) (R : Nat → Rho → Prop) (xs : List α) (ρ : Rho) (h : R 0 ρ) (hs : ∀ i x ρ, xs[i]? = some x → R i ρ → ∃ ρ1 ρ2, t.asg (enc x) ρ = some ρ1 ∧ (body ρ1 = .nx ρ2 ∨ body ρ1 = .ct ρ2) ∧ R (i + 1) ρ2) :
    ∃ ρ', forL t body (xs.map enc) ρ = .nx ρ' ∧ R xs.length ρ' := by
  have := forL_ix enc R xs 0 ρ h fun i x ρ hi hr => by
    rw [Nat.zero_add] at *
    exact hs i x ρ hi hr
  rwa [Nat.zero_add] at this
theorem sExt_ok {i : Nat} {s : Rho → Res D} {ρ : Rho} {ds es : List D} (h : ρ[i]? = some (.ow (.lst ds))) (e : s ρ = .ok (.lst es)) (l : ds.length + es.length ≤ 1000) : sExt i s ρ = .nx (ρ.set i (.ow (.lst (ds ++ es)))) := by
  unfold sExt
  rw [h]
  dsimp only
  rw [e]
  exact if_pos (few l)
theorem sApp_ok {i : Nat} {s : Rho → Res D} {ρ : Rho} {ds : List D} {d : D} (h : ρ[i]? = some (.ow (.lst ds))) (e : s ρ = .ok d) (l : ds.length < 1000) : sApp i s ρ = .nx (ρ.set i (.ow (.lst (ds ++ [d])))) := by
  unfold sApp
  rw [h]
  dsimp only
  rw [e]
  exact if_pos (Nat.lt_of_lt_of_le l (by decide))
theorem rng1_ok {j : Int} (h0 : -1000000 ≤ j) (h1 : j ≤ 1000000) : rng1 [.int j] = some ((List.range j.toNat).map fun (i : Nat) => .int (i : Int)) := by
  have : rangeB 0 j = true := by
    unfold rangeB
    simp
    omega
  show (if rangeB 0 j = true then some (rangeD 0 j) else none) = _
  rw [if_pos this]
  unfold rangeD
  simp
theorem rng1_nat {n : Nat} (h1 : n ≤ 1000000) : rng1 [.int (n : Int)] = some ((List.range n).map fun (i : Nat) => .int (i : Int)) := by
  rw [rng1_ok (by omega) (by omega)]
  simp
theorem rng2_ok {i j : Int} (h0 : -1000000 ≤ i) (h1 : i ≤ 1000000) (h2 : -1000000 ≤ j) (h3 : j ≤ 1000000) : rng2 [.int i, .int j] = some ((List.range (j - i).toNat).map fun (k : Nat) => .int (i + k)) := by
  have : rangeB i j = true := by
    unfold rangeB
    simp
    omega
  show (if rangeB i j = true then some (rangeD i j) else none) = _
  rw [if_pos this]
  rfl
/-! min, max of a list of ints -/
theorem minL_lt {ns : List Int} {m : Int} (h : minL ns = some m) (b : Int) : m < b ↔ ∃ x ∈ ns, x < b := by
  cases ns with
  | nil => cases h
  | cons n ns =>
    cases h
    obtain ⟨h1, h2, h3⟩ := minL_ok ns n _ rfl
    constructor
    · intro h
      rcases h1 with z | z
      · exact ⟨n, List.mem_cons_self .., by omega⟩
      · exact ⟨_, List.mem_cons_of_mem _ z, h⟩
    · rintro ⟨x, hx, hl⟩
      rcases List.mem_cons.mp hx with z | z
      · omega
      · have := h3 x z
        omega
theorem maxL_gt {ns : List Int} {m : Int} (h : maxL ns = some m) (b : Int) : b < m ↔ ∃ x ∈ ns, b < x := by
  cases ns with
  | nil => cases h
  | cons n ns =>
    cases h
    obtain ⟨h1, h2, h3⟩ := maxL_ok ns n _ rfl
    constructor
    · intro h
      rcases h1 with z | z
      · exact ⟨n, List.mem_cons_self .., by omega⟩
      · exact ⟨_, List.mem_cons_of_mem _ z, h⟩
    · rintro ⟨x, hx, hl⟩
      rcases List.mem_cons.mp hx with z | z
      · omega
      · have := h3 x z
        omega
/-! slices, sorted, texts -/
@[simp] theorem oNo_eq (ρ : Rho) : oNo ρ = .ok none := rfl
@[simp] theorem oSo_eq (s : Rho → Res D) (ρ : Rho) : oSo s ρ = (s ρ).bind fun d => Res.of (intO d) := rfl
@[simp] theorem intO_int (i : Int) : intO (.int i) = some (some i) := rfl
@[simp] theorem eSl_eq (a : Rho → Res D) (lo hi : Rho → Res (Option Int)) (ρ : Rho) : eSl a lo hi ρ = (a ρ).bind fun x => (lo ρ).bind fun l => (hi ρ).bind fun h => Res.of (dSl x l h) := rfl
@[simp] theorem dSl_tup (ds : List D) (l h : Option Int) : dSl (.tup ds) l h = some (.tup (cutD ds l h)) := rfl
@[simp] theorem dSl_lst (ds : List D) (l h : Option Int) : dSl (.lst ds) l h = some (.lst (cutD ds l h)) := rfl
@[simp] theorem dRev_tup (ds : List D) : dRev (.tup ds) = some (.tup ds.reverse) := rfl
@[simp] theorem dRev_lst (ds : List D) : dRev (.lst ds) = some (.lst ds.reverse) := rfl
@[simp] theorem eM1_eq (g : Str → D → Option D) (a b : Rho → Res D) (ρ : Rho) : eM1 g a b ρ = (a ρ).bind fun x => (Res.of (strD x)).bind fun z => (b ρ).bind fun y => Res.of (g z y) := rfl
@[simp] theorem eM0_eq (g : Str → Option D) (a : Rho → Res D) (ρ : Rho) : eM0 g a ρ = (a ρ).bind fun x => (Res.of (strD x)).bind fun z => Res.of (g z) := rfl
@[simp] theorem strD_str (x : Str) : strD (.str x) = some x := rfl
@[simp] theorem dAbs_int (i : Int) : dAbs [.int i] = some (.int (if i < 0 then -i else i)) := rfl
@[simp] theorem iOwn_eq (s : Rho → Res D) (ρ : Rho) : iOwn s ρ = (s ρ).bind fun d => match d with
  | .lst ds => .ok ds
  | _ => .stuck := rfl
@[simp] theorem enumO_eq (d : D) : enumO [d] = (itemsOf d).map enumD := rfl
theorem zipO_tup {xs ys : List D} (h : xs.length ≤ 1000) : zipO [.tup xs, .tup ys] = some (zipD xs ys) := if_pos (few h)
theorem zipO_lst {xs ys : List D} (h : xs.length ≤ 1000) : zipO [.lst xs, .lst ys] = some (zipD xs ys) := if_pos (few h)
theorem cutD_map {α : Type} (enc : α → D) (xs : List α) (lo hi : Option Int) : cutD (xs.map enc) lo hi = ((xs.drop (HT.sIx xs.length 0 lo)).take (HT.sIx xs.length xs.length hi - HT.sIx xs.length 0 lo)).map enc := by
  unfold cutD
  rw [List.length_map, List.map_take, List.map_drop]
@[simp] theorem eDnew_eq (ρ : Rho) : eDnew ρ = .ok (.dic []) := rfl
@[simp] theorem eD1_eq (sk sv : Rho → Res D) (ρ : Rho) : eD1 sk sv ρ = (sk ρ).bind fun k => (Res.of (keyD k)).bind fun key => (sv ρ).bind fun v => .ok (.dic [(key, v)]) := rfl
@[simp] theorem keyD_tup (ks : List D) : keyD (.tup ks) = keyOf ks := rfl
@[simp] theorem dSort_tup (ds : List D) : dSort [.tup ds] = (pairsOf ds).map fun ps => .lst ((sortP ps).map tupP) := rfl
@[simp] theorem dSort_lst (ds : List D) : dSort [.lst ds] = dSorted [.lst ds] := rfl
@[simp] theorem dSort_dic (kvs : List (List Key × D)) : dSort [.dic kvs] = (keysP kvs).map fun ps => .lst ((sortP ps).map tupP) := rfl
end DL

set_option Elab.async false
set_option linter.all false
set_option maxRecDepth 100000
set_option maxHeartbeats 1000000
/-! DLt: one step of a mirror's body at a time. -/
namespace DL
open PySem PySem.Spec PyProof.Rows L2
section
variable {s : Rho → Res D} {c : Rho → Res Bool} {a a' b body : Rho → SR} {ρ ρ' : Rho} {d : D} {i j : Nat} {t : Tg} {it : Rho → Res (List D)} {ds : List D} {sl : Rho → Res (List D)}
theorem q_set (h : s ρ = .ok d) : sSeq (sSet i s) b ρ = b (ρ.set i (.fz d)) := by
  simp [h]
theorem q_new (h : s ρ = .ok d) : sSeq (sNew i s) b ρ = b (ρ.set i (.ow d)) := by
  simp [h]
theorem q_drop (h : s ρ = .ok d) : sSeq (sDrop s) b ρ = b ρ := by
  simp [h]
theorem q_no (h : c ρ = .ok false) : sSeq (sIf c a a') b ρ = sSeq a' b ρ := by
  simp [h]
theorem q_nil : sSeq sNil b ρ = b ρ := by
  simp
theorem q_yes (h : c ρ = .ok true) : sSeq (sIf c a a') b ρ = sSeq a b ρ := by
  simp [h]
theorem q_no1 (h : c ρ = .ok false) : sIf c a a' ρ = a' ρ := by
  simp [h]
theorem q_yes1 (h : c ρ = .ok true) : sIf c a a' ρ = a ρ := by
  simp [h]
theorem q_unp (h : s ρ = .ok d) (h2 : t.asg d ρ = some ρ') : sSeq (sUnp t s) b ρ = b ρ' := by
  simp [h, h2]
theorem q_par {x y : D} (h : sl ρ = .ok [x, y]) : sSeq (sPar i j sl) b ρ = b ((ρ.set i (.fz x)).set j (.fz y)) := by
  simp [h]
theorem q_for (h : it ρ = .ok ds) (h2 : forL t body ds ρ = .nx ρ') : sSeq (sFor it t body) b ρ = b ρ' := by
  simp [h, h2]
theorem q_seq {x : Rho → SR} (h : x ρ = .nx ρ') : sSeq x b ρ = b ρ' := by
  simp [h]
theorem q_same {x : Rho → SR} (h : x ρ = .nx ρ) : sSeq x b ρ = b ρ := q_seq h
theorem q_assoc {x y : Rho → SR} : sSeq (sSeq x y) b ρ = sSeq x (sSeq y b) ρ := by
  simp only [sSeq_eq]
  cases x ρ <;> rfl
theorem q_ret (h : s ρ = .ok d) : sRet s ρ = .rt d := by
  simp [h]
theorem q_frz : sFrz i b ρ = b (frz i ρ) := rfl
theorem q_set1 (h : s ρ = .ok d) : sSet i s ρ = .nx (ρ.set i (.fz d)) := by
  simp [h]
/-- a guard that does not fire -/
theorem q_pass (h : c ρ = .ok false) : sSeq (sIf c a sNil) b ρ = b ρ := by
  simp [h]
end
/-- a part of which only so much is told -/
theorem q_seqE {x b : Rho → SR} {ρ : Rho} {X : Res D} (P : Rho → Prop) (h : ∃ ρ', x ρ = .nx ρ' ∧ P ρ') (k : ∀ ρ', P ρ' → outOf (b ρ') = X) : outOf (sSeq x b ρ) = X := by
  obtain ⟨ρ', h1, h2⟩ := h
  rw [q_seq h1]
  exact k ρ' h2
end DL

set_option Elab.async false
set_option linter.all false
namespace Lw
open PySem PySem.Spec PyProof.Rows L2 DL
def b_is_inside : Rho → SR := (sRet (eand (eChain dLe dLt (eC (.int 0)) (e2 dIx (eVar 1) (eC (.int 0))) (eCall dLen (aCons (e2 dIx (eVar 0) (eC (.int 0))) aNil))) (eChain dLe dLt (eC (.int 0)) (e2 dIx (eVar 1) (eC (.int 1))) (eCall dLen (aCons (e2 dIx (e2 dIx (eVar 0) (eC (.int 0))) (eC (.int 0))) aNil)))))
def m_is_inside : List D → Res D := runB 2 2 b_is_inside
def b_need_cell : Rho → SR := (sIf (tnot (eT (eFn m_is_inside (aCons (eVar 0) (aCons (eVar 1) aNil))))) (sRaise "NoCell") sNil)
def m_need_cell : List D → Res D := runB 2 2 b_need_cell
def b_cells_1 : Rho → SR := (sExt 1 (eComp (iRng rng1 (aCons (eCall dLen (aCons (e2 dIx (e2 dIx (eVar 0) (eC (.int 0))) (eC (.int 0))) aNil)) aNil)) (.nm 3) tYes' (eTup (aCons (eVar 2) (aCons (eVar 3) aNil))) [3]))
def b_cells : Rho → SR := (sSeq (sNew 1 (eLst aNil)) (sSeq (sFor (iRng rng1 (aCons (eCall dLen (aCons (e2 dIx (eVar 0) (eC (.int 0))) aNil)) aNil)) (.nm 2) b_cells_1) (sFrz 1 (sRet (eVar 1)))))
def m_cells : List D → Res D := runB 1 4 b_cells
def b_sign_at : Rho → SR := (sSeq (sDrop (eFn m_need_cell (aCons (eVar 0) (aCons (eVar 1) aNil)))) (sRet (e2 dIx (e2 dIx (e2 dIx (eVar 0) (eC (.int 0))) (e2 dIx (eVar 1) (eC (.int 0)))) (e2 dIx (eVar 1) (eC (.int 1))))))
def m_sign_at : List D → Res D := runB 2 2 b_sign_at
def b_floors : Rho → SR := (sRet (eCall dTuple (aCons (eComp (iVal (eFn m_cells (aCons (eVar 0) aNil))) (.nm 1) (eT (e2 dEq (eFn m_sign_at (aCons (eVar 0) (aCons (eVar 1) aNil))) (eC (.str ".")))) (eVar 1) [1]) aNil)))
def m_floors : List D → Res D := runB 1 2 b_floors
def b_is_free : Rho → SR := (sRet (e2 dNotIn (e2 dIx (e2 dIx (e2 dIx (eVar 0) (eC (.int 0))) (e2 dIx (eVar 1) (eC (.int 0)))) (e2 dIx (eVar 1) (eC (.int 1)))) (eC (.gtup [(.str "#"), (.str "x")]))))
def m_is_free : List D → Res D := runB 2 2 b_is_free
def b_is_near : Rho → SR := (sSeq (sSet 3 (e2 dSub (e2 dIx (eVar 1) (eC (.int 0))) (e2 dIx (eVar 2) (eC (.int 0))))) (sSeq (sSet 4 (e2 dSub (e2 dIx (eVar 1) (eC (.int 1))) (e2 dIx (eVar 2) (eC (.int 1))))) (sRet (eor (e2 dEq (e2 dIx (eVar 0) (eC (.int 1))) (eC (.int 0))) (e2 dLe (e2 dAdd (e2 dMul (eVar 3) (eVar 3)) (e2 dMul (eVar 4) (eVar 4))) (e2 dIx (eVar 0) (eC (.int 1))))))))
def m_is_near : List D → Res D := runB 3 5 b_is_near
def b_side_of : Rho → SR := (sSeq (sSet 3 (e2 dMul (eC (.int 2)) (e2 dSub (e2 dIx (eVar 1) (eC (.int 0))) (e2 dIx (eVar 0) (eC (.int 0)))))) (sSeq (sSet 4 (e2 dMul (eC (.int 2)) (e2 dSub (e2 dIx (eVar 1) (eC (.int 1))) (e2 dIx (eVar 0) (eC (.int 1)))))) (sRet (e2 dSub (e2 dMul (eVar 3) (e2 dSub (e2 dSub (e2 dIx (eVar 2) (eC (.int 1))) (e2 dMul (eC (.int 2)) (e2 dIx (eVar 0) (eC (.int 1))))) (eC (.int 1)))) (e2 dMul (eVar 4) (e2 dSub (e2 dSub (e2 dIx (eVar 2) (eC (.int 0))) (e2 dMul (eC (.int 2)) (e2 dIx (eVar 0) (eC (.int 0))))) (eC (.int 1))))))))
def m_side_of : List D → Res D := runB 3 5 b_side_of
def b_is_crossed : Rho → SR := (sSeq (sUnp (.tp [5, 6]) (eVar 2)) (sSeq (sSet 3 (eLst (aCons (eTup (aCons (e2 dMul (eC (.int 2)) (eVar 5)) (aCons (e2 dMul (eC (.int 2)) (eVar 6)) aNil))) (aCons (eTup (aCons (e2 dMul (eC (.int 2)) (eVar 5)) (aCons (e2 dAdd (e2 dMul (eC (.int 2)) (eVar 6)) (eC (.int 2))) aNil))) (aCons (eTup (aCons (e2 dAdd (e2 dMul (eC (.int 2)) (eVar 5)) (eC (.int 2))) (aCons (e2 dMul (eC (.int 2)) (eVar 6)) aNil))) (aCons (eTup (aCons (e2 dAdd (e2 dMul (eC (.int 2)) (eVar 5)) (eC (.int 2))) (aCons (e2 dAdd (e2 dMul (eC (.int 2)) (eVar 6)) (eC (.int 2))) aNil))) aNil)))))) (sSeq (sSet 4 (eComp (iVal (eVar 3)) (.nm 7) tYes' (eFn m_side_of (aCons (eVar 0) (aCons (eVar 1) (aCons (eVar 7) aNil)))) [7])) (sRet (eChain dLt dLt (eCall dMin (aCons (eVar 4) aNil)) (eC (.int 0)) (eCall dMax (aCons (eVar 4) aNil)))))))
def m_is_crossed : List D → Res D := runB 3 8 b_is_crossed
def b_crossed_1 : Rho → SR := (sIf (tand (eT (e2 dNotIn (eTup (aCons (eVar 3) (aCons (eVar 4) aNil))) (eTup (aCons (eVar 0) (aCons (eVar 1) aNil))))) (eT (eFn m_is_crossed (aCons (eVar 0) (aCons (eVar 1) (aCons (eTup (aCons (eVar 3) (aCons (eVar 4) aNil))) aNil)))))) (sApp 2 (eTup (aCons (eVar 3) (aCons (eVar 4) aNil)))) sNil)
def b_crossed_2 : Rho → SR := (sFor (iRng rng2 (aCons (eCall dMin (aCons (e2 dIx (eVar 0) (eC (.int 1))) (aCons (e2 dIx (eVar 1) (eC (.int 1))) aNil))) (aCons (e2 dAdd (eCall dMax (aCons (e2 dIx (eVar 0) (eC (.int 1))) (aCons (e2 dIx (eVar 1) (eC (.int 1))) aNil))) (eC (.int 1))) aNil))) (.nm 4) b_crossed_1)
def b_crossed : Rho → SR := (sSeq (sNew 2 (eLst aNil)) (sSeq (sFor (iRng rng2 (aCons (eCall dMin (aCons (e2 dIx (eVar 0) (eC (.int 0))) (aCons (e2 dIx (eVar 1) (eC (.int 0))) aNil))) (aCons (e2 dAdd (eCall dMax (aCons (e2 dIx (eVar 0) (eC (.int 0))) (aCons (e2 dIx (eVar 1) (eC (.int 0))) aNil))) (eC (.int 1))) aNil))) (.nm 3) b_crossed_2) (sFrz 2 (sRet (eCall dTuple (aCons (eVar 2) aNil))))))
def m_crossed : List D → Res D := runB 2 5 b_crossed
def b_sees : Rho → SR := (sSeq (sDrop (eFn m_need_cell (aCons (eVar 0) (aCons (eVar 1) aNil)))) (sSeq (sDrop (eFn m_need_cell (aCons (eVar 0) (aCons (eVar 2) aNil)))) (sSeq (sIf (tor (tnot (eT (eFn m_is_free (aCons (eVar 0) (aCons (eVar 1) aNil))))) (tor (tnot (eT (eFn m_is_free (aCons (eVar 0) (aCons (eVar 2) aNil))))) (tnot (eT (eFn m_is_near (aCons (eVar 0) (aCons (eVar 1) (aCons (eVar 2) aNil)))))))) (sRet (eC (.bl false))) sNil) (sRet (eCall dAll (aCons (eComp (iVal (eFn m_crossed (aCons (eVar 1) (aCons (eVar 2) aNil)))) (.nm 3) tYes' (eFn m_is_free (aCons (eVar 0) (aCons (eVar 3) aNil))) [3]) aNil))))))
def m_sees : List D → Res D := runB 3 4 b_sees
def b_seen : Rho → SR := (sSeq (sDrop (eFn m_need_cell (aCons (eVar 0) (aCons (eVar 1) aNil)))) (sRet (eCall dTuple (aCons (eComp (iVal (eFn m_floors (aCons (eVar 0) aNil))) (.nm 2) (eT (eFn m_sees (aCons (eVar 0) (aCons (eVar 1) (aCons (eVar 2) aNil))))) (eVar 2) [2]) aNil))))
def m_seen : List D → Res D := runB 2 3 b_seen
def b_views : Rho → SR := (sRet (eCall dDict (aCons (eComp (iVal (eFn m_floors (aCons (eVar 0) aNil))) (.nm 1) tYes' (eTup (aCons (eVar 1) (aCons (eFn m_seen (aCons (eVar 0) (aCons (eVar 1) aNil))) aNil))) [1]) aNil)))
def m_views : List D → Res D := runB 1 2 b_views
def b_covered_by_1 : Rho → SR := (sPut 2 (eVar 4) (eC (.bl true)))
def b_covered_by_2 : Rho → SR := (sFor (iVal (e2 dIx (eVar 0) (eVar 3))) (.nm 4) b_covered_by_1)
def b_covered_by : Rho → SR := (sSeq (sNew 2 eDnew) (sSeq (sFor (iVal (eVar 1)) (.nm 3) b_covered_by_2) (sFrz 2 (sRet (eCall dTuple (aCons (eCall dSort (aCons (eVar 2) aNil)) aNil))))))
def m_covered_by : List D → Res D := runB 2 5 b_covered_by
def b_without : Rho → SR := (sRet (eCall dTuple (aCons (eComp (iVal (eVar 0)) (.nm 2) (eT (e2 dNe (eVar 2) (eVar 1))) (eVar 2) [2]) aNil)))
def m_without : List D → Res D := runB 2 3 b_without
def b_thinned_1 : Rho → SR := (sIf (eT (e2 dEq (eFn m_covered_by (aCons (eVar 2) (aCons (eFn m_without (aCons (eVar 3) (aCons (eVar 4) aNil))) aNil))) (eFn m_covered_by (aCons (eVar 2) (aCons (eVar 3) aNil))))) (sSet 3 (eFn m_without (aCons (eVar 3) (aCons (eVar 4) aNil)))) sNil)
def b_thinned : Rho → SR := (sSeq (sSet 2 (eFn m_views (aCons (eVar 0) aNil))) (sSeq (sSet 3 (eVar 1)) (sSeq (sFor (iVal (e1 dRev (eVar 1))) (.nm 4) b_thinned_1) (sRet (eVar 3)))))
def m_thinned : List D → Res D := runB 2 5 b_thinned
def b_grown_1 : Rho → SR := (sSeq (sSet 7 (eCall dLen (aCons (eComp (iVal (e2 dIx (eVar 2) (eVar 6))) (.nm 8) (eT (e2 dIn (eVar 8) (eVar 4))) (eVar 8) [8]) aNil))) (sIf (tor (eT (e2 dIs (eVar 5) (eC .non))) (eT (e2 dGt (eVar 7) (e2 dIx (eVar 5) (eC (.int 0)))))) (sSet 5 (eTup (aCons (eVar 7) (aCons (eVar 6) aNil)))) sNil))
def b_grown_2 : Rho → SR := (sSeq (sSet 5 (eC .non)) (sSeq (sFor (iVal (eFn m_floors (aCons (eVar 0) aNil))) (.nm 6) b_grown_1) (sSeq (sSet 3 (e2 dAdd (eVar 3) (eTup (aCons (e2 dIx (eVar 5) (eC (.int 1))) aNil)))) (sSet 4 (eComp (iVal (eVar 4)) (.nm 6) (eT (e2 dNotIn (eVar 6) (e2 dIx (eVar 2) (e2 dIx (eVar 5) (eC (.int 1)))))) (eVar 6) [6])))))
def b_grown_3 : Rho → Res Bool := (eT (e2 dGt (eCall dLen (aCons (eVar 4) aNil)) (eC (.int 0))))
def b_grown : Rho → SR := (sSeq (sSet 2 (eFn m_views (aCons (eVar 0) aNil))) (sSeq (sSet 3 (eVar 1)) (sSeq (sSet 4 (eComp (iVal (eFn m_floors (aCons (eVar 0) aNil))) (.nm 6) (eT (e2 dNotIn (eVar 6) (eFn m_covered_by (aCons (eVar 2) (aCons (eVar 1) aNil))))) (eVar 6) [6])) (sSeq (sWhile 10000 b_grown_3 b_grown_2) (sRet (eVar 3))))))
def m_grown : List D → Res D := runB 2 9 b_grown
def b_stepwise : Rho → SR := (sRet (eFn m_grown (aCons (eVar 0) (aCons (eTup aNil) aNil))))
def m_stepwise : List D → Res D := runB 1 1 b_stepwise
def b_changed : Rho → SR := (sSeq (sDrop (eFn m_need_cell (aCons (eVar 0) (aCons (eVar 1) aNil)))) (sSeq (sUnp (.tp [4, 5]) (eVar 1)) (sSeq (sSet 3 (e2 dAdd (e2 dAdd (eSl (e2 dIx (e2 dIx (eVar 0) (eC (.int 0))) (eVar 4)) oNo (oSo (eVar 5))) (eVar 2)) (eSl (e2 dIx (e2 dIx (eVar 0) (eC (.int 0))) (eVar 4)) (oSo (e2 dAdd (eVar 5) (eC (.int 1)))) oNo))) (sRet (eTup (aCons (e2 dAdd (e2 dAdd (eSl (e2 dIx (eVar 0) (eC (.int 0))) oNo (oSo (eVar 4))) (eTup (aCons (eVar 3) aNil))) (eSl (e2 dIx (eVar 0) (eC (.int 0))) (oSo (e2 dAdd (eVar 4) (eC (.int 1)))) oNo)) (aCons (e2 dIx (eVar 0) (eC (.int 1))) aNil)))))))
def m_changed : List D → Res D := runB 3 6 b_changed
def b_kept : Rho → SR := (sSeq (sSet 2 (eCall dTuple (aCons (eComp (iVal (eVar 1)) (.nm 3) (eT (e2 dIn (eVar 3) (eFn m_floors (aCons (eVar 0) aNil)))) (eVar 3) [3]) aNil))) (sRet (eFn m_thinned (aCons (eVar 0) (aCons (eCall dTuple (aCons (eCall dSort (aCons (eFn m_grown (aCons (eVar 0) (aCons (eVar 2) aNil))) aNil)) aNil)) aNil)))))
def m_kept : List D → Res D := runB 2 4 b_kept
def b_is_whole : Rho → SR := (sRet (eand (e1 (dIsi "int") (eVar 0)) (eand (enot (e1 (dIsi "bool") (eVar 0))) (eChain dLe dLe (eVar 1) (eVar 0) (eVar 2)))))
def m_is_whole : List D → Res D := runB 3 3 b_is_whole
def b_is_cell : Rho → SR := (sSeq (sIf (tor (tnot (eT (e1 (dIsi "tuple") (eVar 0)))) (eT (e2 dNe (eCall dLen (aCons (eVar 0) aNil)) (eC (.int 2))))) (sRet (eC (.bl false))) sNil) (sRet (eand (eFn m_is_whole (aCons (e2 dIx (eVar 0) (eC (.int 0))) (aCons (eC (.int 0)) (aCons (eC (.int 8)) aNil)))) (eFn m_is_whole (aCons (e2 dIx (eVar 0) (eC (.int 1))) (aCons (eC (.int 0)) (aCons (eC (.int 8)) aNil)))))))
def m_is_cell : List D → Res D := runB 1 1 b_is_cell
def b__law_are_all_1 : Rho → SR := (sSet 2 (e2 dAdd (eVar 2) (eVar 3)))
def b__law_are_all_2 : Rho → SR := (sSet 4 (e2 dAdd (eVar 4) (eComp (iRng enumO (aCons (eVar 6) aNil)) (.tp [7, 8]) (eT (e2 dIn (eVar 8) (eC (.str ".o")))) (eTup (aCons (eVar 5) (aCons (eVar 7) aNil))) [7, 8])))
def b__law_are_all : Rho → SR := (sSeq (sSet 2 (eTup aNil)) (sSeq (sFor (iVal (eVar 1)) (.nm 3) b__law_are_all_1) (sSeq (sSet 4 (eLst aNil)) (sSeq (sFor (iRng enumO (aCons (e2 dIx (eVar 0) (eC (.int 0))) aNil)) (.tp [5, 6]) b__law_are_all_2) (sRet (e2 dEq (eCall dSort (aCons (eVar 2) aNil)) (eVar 4)))))))
def m__law_are_all : List D → Res D := runB 2 9 b__law_are_all
def b__law_number : Rho → SR := (sRet (eand (e1 (dIsi "int") (eVar 0)) (eand (enot (e1 (dIsi "bool") (eVar 0))) (eChain dLe dLe (eVar 1) (eVar 0) (eVar 2)))))
def m__law_number : List D → Res D := runB 3 3 b__law_number
def b__law_floors_1 : Rho → SR := (sSet 1 (e2 dAdd (eVar 1) (eComp (iRng enumO (aCons (eVar 3) aNil)) (.tp [4, 5]) (eT (e2 dEq (eVar 5) (eC (.str ".")))) (eTup (aCons (eVar 2) (aCons (eVar 4) aNil))) [4, 5])))
def b__law_floors : Rho → SR := (sSeq (sSet 1 (eLst aNil)) (sSeq (sFor (iRng enumO (aCons (e2 dIx (eVar 0) (eC (.int 0))) aNil)) (.tp [2, 3]) b__law_floors_1) (sRet (eVar 1))))
def m__law_floors : List D → Res D := runB 1 6 b__law_floors
def b__law_are_lookers_1 : Rho → SR := (sSeq (sIf (tor (tnot (eT (e1 (dIsi "tuple") (eVar 2)))) (eT (e2 dNe (eCall dLen (aCons (eVar 2) aNil)) (eC (.int 2))))) (sRet (eC (.bl false))) sNil) (sIf (tor (tnot (eT (eFn m__law_number (aCons (e2 dIx (eVar 2) (eC (.int 0))) (aCons (eC (.int 0)) (aCons (eC (.int 7)) aNil)))))) (tor (tnot (eT (eFn m__law_number (aCons (e2 dIx (eVar 2) (eC (.int 1))) (aCons (eC (.int 0)) (aCons (eC (.int 7)) aNil)))))) (eT (e2 dNotIn (eVar 2) (eFn m__law_floors (aCons (eVar 0) aNil)))))) (sRet (eC (.bl false))) sNil))
def b__law_are_lookers : Rho → SR := (sSeq (sIf (tnot (eT (e1 (dIsi "tuple") (eVar 1)))) (sRet (eC (.bl false))) sNil) (sSeq (sFor (iVal (eVar 1)) (.nm 2) b__law_are_lookers_1) (sRet (e2 dEq (eCall dList (aCons (eVar 1) aNil)) (eCall dSortSet (aCons (eVar 1) aNil))))))
def m__law_are_lookers : List D → Res D := runB 2 3 b__law_are_lookers
def b_need_small : Rho → SR := (sIf (eT (e2 dGt (eCall dLen (aCons (eFn m_floors (aCons (eVar 0) aNil)) aNil)) (eC (.int 20)))) (sRaise "TooMany") sNil)
def m_need_small : List D → Res D := runB 1 1 b_need_small
def b__law_free : Rho → SR := (sSeq (sSet 2 (e2 dIx (eVar 0) (eC (.int 0)))) (sSeq (sIf (tor (tnot (eT (eChain dLe dLt (eC (.int 0)) (e2 dIx (eVar 1) (eC (.int 0))) (eCall dLen (aCons (eVar 2) aNil))))) (tnot (eT (eChain dLe dLt (eC (.int 0)) (e2 dIx (eVar 1) (eC (.int 1))) (eCall dLen (aCons (e2 dIx (eVar 2) (eC (.int 0))) aNil)))))) (sRet (eC (.bl false))) sNil) (sRet (e2 dIn (e2 dIx (e2 dIx (eVar 2) (e2 dIx (eVar 1) (eC (.int 0)))) (e2 dIx (eVar 1) (eC (.int 1)))) (eC (.str ".o"))))))
def m__law_free : List D → Res D := runB 2 3 b__law_free
def b__law_beside : Rho → SR := (sSeq (sUnp (.tp [3, 4]) (eVar 1)) (sSeq (sSet 2 (eTup (aCons (eTup (aCons (e2 dSub (eVar 3) (eC (.int 1))) (aCons (eVar 4) aNil))) (aCons (eTup (aCons (eVar 3) (aCons (e2 dSub (eVar 4) (eC (.int 1))) aNil))) (aCons (eTup (aCons (eVar 3) (aCons (e2 dAdd (eVar 4) (eC (.int 1))) aNil))) (aCons (eTup (aCons (e2 dAdd (eVar 3) (eC (.int 1))) (aCons (eVar 4) aNil))) aNil)))))) (sRet (eComp (iVal (eVar 2)) (.nm 5) (eT (eFn m__law_free (aCons (eVar 0) (aCons (eVar 5) aNil)))) (eVar 5) [5]))))
def m__law_beside : List D → Res D := runB 2 6 b__law_beside
def b__law_by_1 : Rho → SR := (sApp 3 (eM1 joinG (eC (.str "")) (eComp (iRng rng1 (aCons (eVar 5) aNil)) (.nm 7) tYes' (e2 dIx (e2 dIx (eVar 2) (e2 dSub (e2 dSub (eVar 5) (eC (.int 1))) (eVar 7))) (eVar 4)) [7])))
def b__law_by : Rho → SR := (sSeq (sSet 2 (e2 dIx (eVar 0) (eC (.int 0)))) (sSeq (sUnp (.tp [5, 6]) (eTup (aCons (eCall dLen (aCons (eVar 2) aNil)) (aCons (eCall dLen (aCons (e2 dIx (eVar 2) (eC (.int 0))) aNil)) aNil)))) (sSeq (sIf (eT (e2 dEq (eVar 1) (eC (.int 0)))) (sRet (eTup (aCons (eCall dTuple (aCons (eComp (iVal (eVar 2)) (.nm 7) tYes' (eM1 joinG (eC (.str "")) (eComp (iRng rng1 (aCons (eVar 6) aNil)) (.nm 8) tYes' (e2 dIx (eVar 7) (e2 dSub (e2 dSub (eVar 6) (eC (.int 1))) (eVar 8))) [8])) [7]) aNil)) (aCons (e2 dIx (eVar 0) (eC (.int 1))) aNil)))) sNil) (sSeq (sNew 3 (eLst aNil)) (sSeq (sFor (iRng rng1 (aCons (eVar 6) aNil)) (.nm 4) b__law_by_1) (sFrz 3 (sRet (eTup (aCons (eCall dTuple (aCons (eVar 3) aNil)) (aCons (e2 dIx (eVar 0) (eC (.int 1))) aNil))))))))))
def m__law_by : List D → Res D := runB 2 9 b__law_by
def b__law_cell_at : Rho → SR := (sSeq (sIf (eT (e2 dLt (eVar 1) (eCall dLen (aCons (eVar 0) aNil)))) (sRet (e2 dIx (eVar 0) (eVar 1))) sNil) (sRet (eC (.int 0))))
def m__law_cell_at : List D → Res D := runB 2 2 b__law_cell_at
def b__law_cells_1 : Rho → SR := (sSet 1 (e2 dAdd (eVar 1) (eComp (iRng rng1 (aCons (eCall dLen (aCons (e2 dIx (e2 dIx (eVar 0) (eC (.int 0))) (eC (.int 0))) aNil)) aNil)) (.nm 3) tYes' (eTup (aCons (eVar 2) (aCons (eVar 3) aNil))) [3])))
def b__law_cells : Rho → SR := (sSeq (sSet 1 (eLst aNil)) (sSeq (sFor (iRng rng1 (aCons (eCall dLen (aCons (e2 dIx (eVar 0) (eC (.int 0))) aNil)) aNil)) (.nm 2) b__law_cells_1) (sRet (eVar 1))))
def m__law_cells : List D → Res D := runB 1 4 b__law_cells
def b__law_change : Rho → SR := (sSeq (sSet 2 (eTup (aCons (e2 dMod (e2 dFdiv (eVar 1) (eC (.int 8))) (eCall dLen (aCons (e2 dIx (eVar 0) (eC (.int 0))) aNil))) (aCons (e2 dMod (e2 dFdiv (eVar 1) (eC (.int 128))) (eCall dLen (aCons (e2 dIx (e2 dIx (eVar 0) (eC (.int 0))) (eC (.int 0))) aNil))) aNil)))) (sRet (eTup (aCons (eVar 2) (aCons (e2 dIx (eC (.str "#.ox.#")) (e2 dMod (e2 dFdiv (eVar 1) (eC (.int 2048))) (eC (.int 6)))) aNil)))))
def m__law_change : List D → Res D := runB 2 3 b__law_change
def b__law_in : Rho → SR := (sSeq (sSet 5 (e2 dAdd (e2 dMul (eC (.int 2)) (e2 dIx (eVar 0) (eVar 4))) (eC (.int 1)))) (sSeq (sSet 6 (e2 dMul (eC (.int 2)) (e2 dSub (e2 dIx (eVar 1) (eVar 4)) (e2 dIx (eVar 0) (eVar 4))))) (sSeq (sIf (eT (e2 dEq (eVar 6) (eC (.int 0)))) (sRet (e2 dIx (eLst (aCons (eC .non) (aCons (eLst (aCons (eTup (aCons (eC (.int 0)) (aCons (eC (.int 1)) aNil))) (aCons (eTup (aCons (eC (.int 1)) (aCons (eC (.int 1)) aNil))) aNil))) aNil))) (eCall dInt (aCons (eChain dLt dLt (eVar 2) (eVar 5) (eVar 3)) aNil)))) sNil) (sSeq (sSet 7 (eCall dSort (aCons (eLst (aCons (e2 dMul (e2 dSub (eVar 2) (eVar 5)) (eVar 6)) (aCons (e2 dMul (e2 dSub (eVar 3) (eVar 5)) (eVar 6)) aNil))) aNil))) (sRet (eLst (aCons (eTup (aCons (e2 dIx (eVar 7) (eC (.int 0))) (aCons (e2 dMul (eVar 6) (eVar 6)) aNil))) (aCons (eTup (aCons (e2 dIx (eVar 7) (eC (.int 1))) (aCons (e2 dMul (eVar 6) (eVar 6)) aNil))) aNil))))))))
def m__law_in : List D → Res D := runB 5 8 b__law_in
def b__law_crosses_1 : Rho → SR := (sSeq (sSet 6 (eFn m__law_in (aCons (eVar 0) (aCons (eVar 1) (aCons (e2 dMul (eC (.int 2)) (e2 dIx (eVar 2) (eVar 4))) (aCons (e2 dAdd (e2 dMul (eC (.int 2)) (e2 dIx (eVar 2) (eVar 4))) (eC (.int 2))) (aCons (eVar 4) aNil))))))) (sSeq (sIf (eT (e2 dIs (eVar 6) (eC .non))) (sRet (eC (.bl false))) sNil) (sApp 3 (eVar 6))))
def b__law_crosses_2 : Rho → SR := (sSeq (sPar 8 9 (aCons (e2 dIx (eVar 5) (eC (.int 0))) (aCons (e2 dIx (eVar 7) (eC (.int 1))) aNil))) (sIf (eT (e2 dGe (e2 dMul (e2 dIx (eVar 8) (eC (.int 0))) (e2 dIx (eVar 9) (eC (.int 1)))) (e2 dMul (e2 dIx (eVar 9) (eC (.int 0))) (e2 dIx (eVar 8) (eC (.int 1)))))) (sRet (eC (.bl false))) sNil))
def b__law_crosses_3 : Rho → SR := (sFor (iVal (eVar 3)) (.nm 7) b__law_crosses_2)
def b__law_crosses : Rho → SR := (sSeq (sNew 3 (eLst (aCons (eLst (aCons (eTup (aCons (eC (.int 0)) (aCons (eC (.int 1)) aNil))) (aCons (eTup (aCons (eC (.int 1)) (aCons (eC (.int 1)) aNil))) aNil))) aNil))) (sSeq (sFor (iVal (eTup (aCons (eC (.int 0)) (aCons (eC (.int 1)) aNil)))) (.nm 4) b__law_crosses_1) (sFrz 3 (sSeq (sFor (iVal (eVar 3)) (.nm 5) b__law_crosses_3) (sRet (eC (.bl true)))))))
def m__law_crosses : List D → Res D := runB 3 10 b__law_crosses
def b__law_drawn : Rho → SR := (sSeq (sSet 2 (e2 dMod (e2 dMul (e2 dAdd (e2 dAdd (eVar 0) (e2 dMul (eC (.int 104729)) (eVar 1))) (eC (.int 17))) (eC (.int 69621))) (eC (.int 2147483647)))) (sRet (e2 dMod (e2 dAdd (e2 dAdd (e2 dMul (eVar 2) (eVar 2)) (e2 dMul (eC (.int 3)) (eVar 2))) (eVar 1)) (eC (.int 2147483629)))))
def m__law_drawn : List D → Res D := runB 2 3 b__law_drawn
def b__law_far_off : Rho → SR := (sSeq (sPar 2 3 (aCons (eCall dLen (aCons (e2 dIx (eVar 0) (eC (.int 0))) aNil)) (aCons (eCall dLen (aCons (e2 dIx (e2 dIx (eVar 0) (eC (.int 0))) (eC (.int 0))) aNil)) aNil))) (sRet (e2 dIx (eTup (aCons (eTup (aCons (e1 dNeg (eC (.int 1))) (aCons (eC (.int 0)) aNil))) (aCons (eTup (aCons (eC (.int 0)) (aCons (e1 dNeg (eC (.int 1))) aNil))) (aCons (eTup (aCons (eVar 2) (aCons (eC (.int 0)) aNil))) (aCons (eTup (aCons (eC (.int 0)) (aCons (eVar 3) aNil))) (aCons (eTup (aCons (eVar 2) (aCons (eVar 3) aNil))) (aCons (eTup (aCons (eC (.int 8)) (aCons (eC (.int 8)) aNil))) aNil))))))) (e2 dMod (eVar 1) (eC (.int 6))))))
def m__law_far_off : List D → Res D := runB 2 4 b__law_far_off
def b_is_row : Rho → SR := (sSeq (sIf (tor (tnot (eT (e1 (dIsi "str") (eVar 0)))) (tnot (eT (eChain dLe dLe (eC (.int 1)) (eCall dLen (aCons (eVar 0) aNil)) (eC (.int 8)))))) (sRet (eC (.bl false))) sNil) (sRet (eCall dAll (aCons (eComp (iVal (eVar 0)) (.nm 1) tYes' (e2 dIn (eVar 1) (eC (.gtup [(.str "#"), (.str "."), (.str "o"), (.str "x")]))) [1]) aNil))))
def m_is_row : List D → Res D := runB 1 2 b_is_row
def b_is_hall : Rho → SR := (sSeq (sIf (tor (tnot (eT (e1 (dIsi "tuple") (eVar 0)))) (tor (eT (e2 dNe (eCall dLen (aCons (eVar 0) aNil)) (eC (.int 2)))) (tnot (eT (eFn m_is_whole (aCons (e2 dIx (eVar 0) (eC (.int 1))) (aCons (eC (.int 0)) (aCons (eC (.int 98)) aNil)))))))) (sRet (eC (.bl false))) sNil) (sSeq (sIf (tor (tnot (eT (e1 (dIsi "tuple") (e2 dIx (eVar 0) (eC (.int 0)))))) (tnot (eT (eChain dLe dLe (eC (.int 1)) (eCall dLen (aCons (e2 dIx (eVar 0) (eC (.int 0))) aNil)) (eC (.int 8)))))) (sRet (eC (.bl false))) sNil) (sRet (eand (eCall dAll (aCons (eComp (iVal (e2 dIx (eVar 0) (eC (.int 0)))) (.nm 1) tYes' (eFn m_is_row (aCons (eVar 1) aNil)) [1]) aNil)) (eCall dAll (aCons (eComp (iVal (e2 dIx (eVar 0) (eC (.int 0)))) (.nm 1) tYes' (e2 dEq (eCall dLen (aCons (eVar 1) aNil)) (eCall dLen (aCons (e2 dIx (e2 dIx (eVar 0) (eC (.int 0))) (eC (.int 0))) aNil))) [1]) aNil))))))
def m_is_hall : List D → Res D := runB 1 2 b_is_hall
def b_are_lookers : Rho → SR := (sSeq (sIf (tor (tnot (eT (e1 (dIsi "tuple") (eVar 1)))) (tnot (eT (eCall dAll (aCons (eComp (iVal (eVar 1)) (.nm 2) tYes' (eFn m_is_cell (aCons (eVar 2) aNil)) [2]) aNil))))) (sRet (eC (.bl false))) sNil) (sSeq (sIf (tnot (eT (eCall dAll (aCons (eComp (iVal (eVar 1)) (.nm 2) tYes' (e2 dIn (eVar 2) (eFn m_floors (aCons (eVar 0) aNil))) [2]) aNil)))) (sRet (eC (.bl false))) sNil) (sRet (eCall dAll (aCons (eComp (iRng zipO (aCons (eSl (eVar 1) oNo (oSo (e1 dNeg (eC (.int 1))))) (aCons (eSl (eVar 1) (oSo (eC (.int 1))) oNo) aNil))) (.tp [3, 4]) tYes' (e2 dLt (eVar 3) (eVar 4)) [3, 4]) aNil)))))
def m_are_lookers : List D → Res D := runB 2 5 b_are_lookers
def b_rows_text : Rho → SR := (sRet (eM1 joinG (eC (.str "")) (eComp (iVal (eVar 0)) (.nm 1) tYes' (e2 dAdd (eVar 1) (eC (.str "\n"))) [1])))
def m_rows_text : List D → Res D := runB 1 2 b_rows_text
def b_hall_text : Rho → SR := (sRet (e2 dAdd (e2 dAdd (e2 dAdd (eC (.str "far ")) (eCall dStr (aCons (e2 dIx (eVar 0) (eC (.int 1))) aNil))) (eC (.str "\n"))) (eFn m_rows_text (aCons (e2 dIx (eVar 0) (eC (.int 0))) aNil))))
def m_hall_text : List D → Res D := runB 1 1 b_hall_text
def b__law_hall_1 : Rho → SR := (sSet 7 (e2 dAdd (eVar 7) (e2 dIx (eVar 4) (e2 dMod (e2 dFdiv (eFn m__law_drawn (aCons (eVar 0) (aCons (e2 dAdd (e2 dMul (eC (.int 8)) (eVar 6)) (eVar 8)) aNil))) (eC (.int 16))) (eC (.int 8))))))
def b__law_hall_2 : Rho → SR := (sSeq (sSet 7 (eC (.str ""))) (sSeq (sFor (iRng rng1 (aCons (eVar 3) aNil)) (.nm 8) b__law_hall_1) (sSet 5 (e2 dAdd (eVar 5) (eTup (aCons (eVar 7) aNil))))))
def b__law_hall : Rho → SR := (sSeq (sSet 2 (e2 dAdd (eC (.int 1)) (e2 dMod (eVar 0) (eVar 1)))) (sSeq (sSet 3 (e2 dAdd (eC (.int 1)) (e2 dMod (e2 dFdiv (eVar 0) (eC (.int 8))) (eVar 1)))) (sSeq (sSet 4 (e2 dIx (eTup (aCons (eC (.str ".....##o")) (aCons (eC (.str "...##.x.")) (aCons (eC (.str ".......#")) (aCons (eC (.str ".#.#.ox.")) aNil))))) (e2 dMod (e2 dFdiv (eVar 0) (eC (.int 64))) (eC (.int 4))))) (sSeq (sSet 5 (eTup aNil)) (sSeq (sFor (iRng rng1 (aCons (eVar 2) aNil)) (.nm 6) b__law_hall_2) (sRet (eTup (aCons (eVar 5) (aCons (e2 dIx (eTup (aCons (eC (.int 0)) (aCons (eC (.int 0)) (aCons (eC (.int 4)) (aCons (eC (.int 9)) (aCons (eC (.int 2)) (aCons (eC (.int 1)) (aCons (eC (.int 25)) aNil)))))))) (e2 dMod (e2 dFdiv (eVar 0) (eC (.int 512))) (eC (.int 7)))) aNil)))))))))
def m__law_hall : List D → Res D := runB 2 9 b__law_hall
def b__law_hides_nothing_1 : Rho → SR := (sSeq (sSet 9 (eFn m_seen (aCons (eVar 0) (aCons (eVar 6) aNil)))) (sSeq (sIf (eT (e2 dNe (eComp (iVal (eVar 9)) (.nm 11) (tand (eT (e2 dNotIn (eVar 11) (eFn m_seen (aCons (eVar 4) (aCons (eVar 6) aNil))))) (eT (e2 dNe (eVar 11) (eVar 1)))) (eVar 11) [11]) (eLst aNil))) (sRet (eC (.bl false))) sNil) (sSeq (sIf (eT (e2 dNe (eComp (iVal (eVar 9)) (.nm 11) (eT (e2 dNotIn (eVar 11) (eFn m_seen (aCons (eVar 5) (aCons (eVar 6) aNil))))) (eVar 11) [11]) (eLst aNil))) (sRet (eC (.bl false))) sNil) (sSeq (sSet 10 (eFn m_changed (aCons (eVar 0) (aCons (eVar 1) (aCons (eVar 3) aNil))))) (sIf (tor (eT (e2 dNe (eComp (iVal (eFn m_seen (aCons (eVar 10) (aCons (eVar 6) aNil)))) (.nm 11) (eT (e2 dNotIn (eVar 11) (eVar 9))) (eVar 11) [11]) (eLst aNil))) (eT (e2 dIn (eVar 1) (eFn m_seen (aCons (eVar 10) (aCons (eVar 6) aNil)))))) (sRet (eC (.bl false))) sNil)))))
def b__law_hides_nothing : Rho → SR := (sSeq (sUnp (.tp [7, 8]) (eVar 0)) (sSeq (sSet 4 (eFn m_changed (aCons (eVar 0) (aCons (eVar 1) (aCons (eC (.str "o")) aNil))))) (sSeq (sSet 5 (eTup (aCons (eVar 7) (aCons (e2 dIx (eLst (aCons (e2 dAdd (eVar 8) (eC (.int 7))) (aCons (eC (.int 0)) aNil))) (eCall dInt (aCons (eor (e2 dEq (eVar 8) (eC (.int 0))) (e2 dGt (eVar 8) (eC (.int 90)))) aNil))) aNil)))) (sSeq (sFor (iVal (eVar 2)) (.nm 6) b__law_hides_nothing_1) (sRet (eC (.bl true)))))))
def m__law_hides_nothing : List D → Res D := runB 4 12 b__law_hides_nothing
def b__law_is_hall_1 : Rho → SR := (sIf (tor (tnot (eT (e1 (dIsi "str") (eVar 1)))) (tor (tnot (eT (eChain dLe dLe (eC (.int 1)) (eCall dLen (aCons (eVar 1) aNil)) (eC (.int 8))))) (eT (e2 dNe (eComp (iVal (eVar 1)) (.nm 2) (eT (e2 dNotIn (eVar 2) (eC (.str "#.ox")))) (eVar 2) [2]) (eLst aNil))))) (sRet (eC (.bl false))) sNil)
def b__law_is_hall : Rho → SR := (sSeq (sIf (tor (tnot (eT (e1 (dIsi "tuple") (eVar 0)))) (tor (eT (e2 dNe (eCall dLen (aCons (eVar 0) aNil)) (eC (.int 2)))) (tnot (eT (eFn m__law_number (aCons (e2 dIx (eVar 0) (eC (.int 1))) (aCons (eC (.int 0)) (aCons (eC (.int 98)) aNil)))))))) (sRet (eC (.bl false))) sNil) (sSeq (sIf (tor (tnot (eT (e1 (dIsi "tuple") (e2 dIx (eVar 0) (eC (.int 0)))))) (tnot (eT (eChain dLe dLe (eC (.int 1)) (eCall dLen (aCons (e2 dIx (eVar 0) (eC (.int 0))) aNil)) (eC (.int 8)))))) (sRet (eC (.bl false))) sNil) (sSeq (sFor (iVal (e2 dIx (eVar 0) (eC (.int 0)))) (.nm 1) b__law_is_hall_1) (sRet (e2 dEq (eComp (iVal (e2 dIx (eVar 0) (eC (.int 0)))) (.nm 1) (eT (e2 dNe (eCall dLen (aCons (eVar 1) aNil)) (eCall dLen (aCons (e2 dIx (e2 dIx (eVar 0) (eC (.int 0))) (eC (.int 0))) aNil)))) (eVar 1) [1]) (eLst aNil))))))
def m__law_is_hall : List D → Res D := runB 1 3 b__law_is_hall
def b_covered : Rho → SR := (sRet (eFn m_covered_by (aCons (eFn m_views (aCons (eVar 0) aNil)) (aCons (eVar 1) aNil))))
def m_covered : List D → Res D := runB 2 2 b_covered
def b_unseen : Rho → SR := (sSeq (sSet 2 (eFn m_covered (aCons (eVar 0) (aCons (eVar 1) aNil)))) (sRet (eCall dTuple (aCons (eComp (iVal (eFn m_floors (aCons (eVar 0) aNil))) (.nm 3) (eT (e2 dNotIn (eVar 3) (eVar 2))) (eVar 3) [3]) aNil))))
def m_unseen : List D → Res D := runB 2 4 b_unseen
def b_needless : Rho → SR := (sSeq (sSet 2 (eFn m_views (aCons (eVar 0) aNil))) (sSeq (sSet 3 (eFn m_covered_by (aCons (eVar 2) (aCons (eVar 1) aNil)))) (sRet (eCall dTuple (aCons (eComp (iVal (eVar 1)) (.nm 4) (eT (e2 dEq (eFn m_covered_by (aCons (eVar 2) (aCons (eFn m_without (aCons (eVar 1) (aCons (eVar 4) aNil))) aNil))) (eVar 3))) (eVar 4) [4]) aNil)))))
def m_needless : List D → Res D := runB 2 5 b_needless
def b__law_mixed : Rho → SR := (sSeq (sSet 2 (e2 dMod (e2 dMul (e2 dAdd (e2 dAdd (eFn m__law_cell_at (aCons (eVar 0) (aCons (eVar 1) aNil))) (e2 dMul (eC (.int 7919)) (eVar 1))) (eC (.int 1))) (eC (.int 48271))) (eC (.int 2147483647)))) (sRet (e2 dMod (e2 dAdd (e2 dAdd (e2 dMul (eVar 2) (eVar 2)) (e2 dMul (eC (.int 7)) (eVar 2))) (eVar 1)) (eC (.int 2147483629)))))
def m__law_mixed : List D → Res D := runB 2 3 b__law_mixed
def b__law_moved : Rho → SR := (sRet (eComp (iVal (eVar 0)) (.tp [2, 3]) tYes' (eTup (aCons (eVar 2) (aCons (e2 dAdd (eVar 3) (eVar 1)) aNil))) [2, 3]))
def m__law_moved : List D → Res D := runB 2 4 b__law_moved
def b__law_near : Rho → SR := (sSeq (sPar 3 4 (aCons (e2 dSub (e2 dIx (eVar 1) (eC (.int 0))) (e2 dIx (eVar 2) (eC (.int 0)))) (aCons (e2 dSub (e2 dIx (eVar 1) (eC (.int 1))) (e2 dIx (eVar 2) (eC (.int 1)))) aNil))) (sRet (eor (e2 dEq (e2 dIx (eVar 0) (eC (.int 1))) (eC (.int 0))) (e2 dLe (e2 dAdd (e2 dMul (eVar 3) (eVar 3)) (e2 dMul (eVar 4) (eVar 4))) (e2 dIx (eVar 0) (eC (.int 1)))))))
def m__law_near : List D → Res D := runB 3 5 b__law_near
def b_mirrored : Rho → SR := (sRet (eTup (aCons (eCall dTuple (aCons (eComp (iVal (e2 dIx (eVar 0) (eC (.int 0)))) (.nm 1) tYes' (e1 dRev (eVar 1)) [1]) aNil)) (aCons (e2 dIx (eVar 0) (eC (.int 1))) aNil))))
def m_mirrored : List D → Res D := runB 1 2 b_mirrored
def b_turned : Rho → SR := (sSeq (sSet 1 (eComp (iRng rng1 (aCons (eCall dLen (aCons (e2 dIx (e2 dIx (eVar 0) (eC (.int 0))) (eC (.int 0))) aNil)) aNil)) (.nm 2) tYes' (eM1 joinG (eC (.str "")) (eComp (iVal (e1 dRev (e2 dIx (eVar 0) (eC (.int 0))))) (.nm 3) tYes' (e2 dIx (eVar 3) (eVar 2)) [3])) [2])) (sRet (eTup (aCons (eCall dTuple (aCons (eVar 1) aNil)) (aCons (e2 dIx (eVar 0) (eC (.int 1))) aNil)))))
def m_turned : List D → Res D := runB 1 4 b_turned
def b_cell_mirrored : Rho → SR := (sSeq (sDrop (eFn m_need_cell (aCons (eVar 0) (aCons (eVar 1) aNil)))) (sRet (eTup (aCons (e2 dIx (eVar 1) (eC (.int 0))) (aCons (e2 dSub (e2 dSub (eCall dLen (aCons (e2 dIx (e2 dIx (eVar 0) (eC (.int 0))) (eC (.int 0))) aNil)) (eC (.int 1))) (e2 dIx (eVar 1) (eC (.int 1)))) aNil)))))
def m_cell_mirrored : List D → Res D := runB 2 2 b_cell_mirrored
def b_cell_turned : Rho → SR := (sSeq (sDrop (eFn m_need_cell (aCons (eVar 0) (aCons (eVar 1) aNil)))) (sRet (eTup (aCons (e2 dIx (eVar 1) (eC (.int 1))) (aCons (e2 dSub (e2 dSub (eCall dLen (aCons (e2 dIx (eVar 0) (eC (.int 0))) aNil)) (eC (.int 1))) (e2 dIx (eVar 1) (eC (.int 0)))) aNil)))))
def m_cell_turned : List D → Res D := runB 2 2 b_cell_turned
def b__law_new : Rho → SR := (sSeq (sIf (eT (e2 dEq (eVar 2) (eC (.int 0)))) (sRet (eTup (aCons (eFn m_turned (aCons (eVar 0) aNil)) (aCons (eCall dDict (aCons (eComp (iVal (eVar 1)) (.nm 3) tYes' (eTup (aCons (eVar 3) (aCons (eFn m_cell_turned (aCons (eVar 0) (aCons (eVar 3) aNil))) aNil))) [3]) aNil)) aNil)))) sNil) (sRet (eTup (aCons (eFn m_mirrored (aCons (eVar 0) aNil)) (aCons (eCall dDict (aCons (eComp (iVal (eVar 1)) (.nm 3) tYes' (eTup (aCons (eVar 3) (aCons (eFn m_cell_mirrored (aCons (eVar 0) (aCons (eVar 3) aNil))) aNil))) [3]) aNil)) aNil)))))
def m__law_new : List D → Res D := runB 3 4 b__law_new
def b__law_open : Rho → SR := (sRet (e2 dIn (eFn m_sign_at (aCons (eVar 0) (aCons (eVar 1) aNil))) (eC (.str ".o"))))
def m__law_open : List D → Res D := runB 2 2 b__law_open
def b__law_otherwise : Rho → SR := (sSeq (sIf (eT (e1 (dIsi "tuple") (eVar 0))) (sSeq (sSet 2 (eLst (aCons (eCall dList (aCons (eVar 0) aNil)) (aCons (eCall dList (aCons (eVar 0) aNil)) (aCons (e2 dAdd (eVar 0) (eSl (eVar 0) oNo (oSo (eC (.int 1))))) aNil))))) (sRet (e2 dIx (e2 dAdd (eVar 2) (eLst (aCons (eSl (eVar 0) (oSo (eC (.int 1))) oNo) (aCons (eLst (aCons (eVar 0) aNil)) aNil)))) (e2 dMod (eVar 1) (eC (.int 5)))))) sNil) (sSeq (sIf (eT (e1 (dIsi "bool") (eVar 0))) (sRet (e2 dIx (eLst (aCons (eCall dInt (aCons (eVar 0) aNil)) (aCons (eC .non) (aCons (eCall dStr (aCons (eVar 0) aNil)) aNil)))) (e2 dMod (eVar 1) (eC (.int 3))))) sNil) (sSeq (sIf (eT (e1 (dIsi "int") (eVar 0))) (sSeq (sSet 2 (eLst (aCons (eC (.bl true)) (aCons (eC .non) (aCons (eCall dStr (aCons (eVar 0) aNil)) (aCons (eTup (aCons (eVar 0) aNil)) aNil)))))) (sRet (e2 dIx (e2 dAdd (eVar 2) (eLst (aCons (e2 dSub (e1 dNeg (eC (.int 1))) (eVar 0)) aNil))) (e2 dMod (eVar 1) (eC (.int 5)))))) sNil) (sRet (e2 dIx (eLst (aCons (eC .non) (aCons (eTup (aCons (eVar 0) aNil)) (aCons (eLst (aCons (eVar 0) aNil)) (aCons (eC (.str "")) (aCons (eC (.int 0)) aNil)))))) (e2 dMod (eVar 1) (eC (.int 5))))))))
def m__law_otherwise : List D → Res D := runB 2 3 b__law_otherwise
def b__law_reach_1 : Rho → SR := (sSeq (sExt 2 (eComp (iVal (eFn m__law_beside (aCons (eVar 0) (aCons (e2 dIx (eOwn 2) (eVar 3)) aNil)))) (.nm 4) (eT (e2 dNotIn (eVar 4) (eOwn 2))) (eVar 4) [4])) (sSet 3 (e2 dAdd (eVar 3) (eC (.int 1)))))
def b__law_reach_2 : Rho → Res Bool := (eT (e2 dLt (eVar 3) (eCall dLen (aCons (eOwn 2) aNil))))
def b__law_reach : Rho → SR := (sSeq (sNew 2 (eLst (aCons (eVar 1) aNil))) (sSeq (sSet 3 (eC (.int 0))) (sSeq (sWhile 10000 b__law_reach_2 b__law_reach_1) (sFrz 2 (sRet (eVar 2))))))
def m__law_reach : List D → Res D := runB 2 5 b__law_reach
def b_need : Rho → SR := (sIf (tnot (eT (eVar 0))) (sRaise "NoText") sNil)
def m_need : List D → Res D := runB 1 1 b_need
def b__law_sees_1 : Rho → SR := (sIf (tand (eT (e2 dIn (e2 dIx (e2 dIx (eVar 4) (eVar 3)) (eVar 8)) (eC (.str "#x")))) (eT (eFn m__law_crosses (aCons (eVar 1) (aCons (eVar 2) (aCons (eTup (aCons (eVar 3) (aCons (eVar 8) aNil))) aNil)))))) (sRet (eC (.bl false))) sNil)
def b__law_sees_2 : Rho → SR := (sFor (iRng rng1 (aCons (eCall dLen (aCons (e2 dIx (eVar 4) (eC (.int 0))) aNil)) aNil)) (.nm 8) b__law_sees_1)
def b__law_sees : Rho → SR := (sSeq (sUnp (.tp [4, 5]) (eVar 0)) (sSeq (sIf (tor (eT (e2 dIn (e2 dIx (e2 dIx (eVar 4) (e2 dIx (eVar 1) (eC (.int 0)))) (e2 dIx (eVar 1) (eC (.int 1)))) (eC (.str "#x")))) (eT (e2 dIn (e2 dIx (e2 dIx (eVar 4) (e2 dIx (eVar 2) (eC (.int 0)))) (e2 dIx (eVar 2) (eC (.int 1)))) (eC (.str "#x"))))) (sRet (eC (.bl false))) sNil) (sSeq (sPar 6 7 (aCons (e2 dSub (e2 dIx (eVar 1) (eC (.int 0))) (e2 dIx (eVar 2) (eC (.int 0)))) (aCons (e2 dSub (e2 dIx (eVar 1) (eC (.int 1))) (e2 dIx (eVar 2) (eC (.int 1)))) aNil))) (sSeq (sIf (tand (eT (e2 dGt (eVar 5) (eC (.int 0)))) (eT (e2 dGt (e2 dAdd (e2 dMul (eVar 6) (eVar 6)) (e2 dMul (eVar 7) (eVar 7))) (eVar 5)))) (sRet (eC (.bl false))) sNil) (sSeq (sFor (iRng rng1 (aCons (eCall dLen (aCons (eVar 4) aNil)) aNil)) (.nm 3) b__law_sees_2) (sRet (eC (.bl true))))))))
def m__law_sees : List D → Res D := runB 3 9 b__law_sees
def b__law_seen : Rho → SR := (sRet (eComp (iVal (eFn m__law_floors (aCons (eVar 0) aNil))) (.nm 2) (eT (eFn m__law_sees (aCons (eVar 0) (aCons (eVar 1) (aCons (eVar 2) aNil))))) (eVar 2) [2]))
def m__law_seen : List D → Res D := runB 2 3 b__law_seen
def b__law_some : Rho → SR := (sRet (eCall dTuple (aCons (eComp (iRng enumO (aCons (eFn m__law_floors (aCons (eVar 0) aNil)) aNil)) (.tp [2, 3]) (eT (e2 dEq (e2 dMod (e2 dFdiv (eFn m__law_drawn (aCons (eVar 1) (aCons (eVar 2) aNil))) (eC (.int 16))) (eC (.int 4))) (eC (.int 0)))) (eVar 3) [2, 3]) aNil)))
def m__law_some : List D → Res D := runB 2 4 b__law_some
def b__law_walk_1 : Rho → SR := (sSeq (sUnp (.tp [6, 7]) (e2 dIx (eVar 3) (e1 dNeg (eC (.int 1))))) (sSeq (sUnp (.tp [8, 9]) (e2 dIx (eTup (aCons (eTup (aCons (e1 dNeg (eC (.int 1))) (aCons (eC (.int 0)) aNil))) (aCons (eTup (aCons (eC (.int 0)) (aCons (e1 dNeg (eC (.int 1))) aNil))) (aCons (eTup (aCons (eC (.int 0)) (aCons (eC (.int 1)) aNil))) (aCons (eTup (aCons (eC (.int 1)) (aCons (eC (.int 0)) aNil))) aNil))))) (e2 dMod (e2 dFdiv (eFn m__law_drawn (aCons (eVar 2) (aCons (eVar 4) aNil))) (eC (.int 16))) (eC (.int 4))))) (sSeq (sSet 5 (eTup (aCons (e2 dAdd (eVar 6) (eVar 8)) (aCons (e2 dAdd (eVar 7) (eVar 9)) aNil)))) (sIf (tand (eT (eChain dLe dLt (eC (.int 0)) (e2 dIx (eVar 5) (eC (.int 0))) (eCall dLen (aCons (e2 dIx (eVar 0) (eC (.int 0))) aNil)))) (tand (eT (eChain dLe dLt (eC (.int 0)) (e2 dIx (eVar 5) (eC (.int 1))) (eCall dLen (aCons (e2 dIx (e2 dIx (eVar 0) (eC (.int 0))) (eC (.int 0))) aNil)))) (eT (e2 dIn (eFn m_sign_at (aCons (eVar 0) (aCons (eVar 5) aNil))) (eC (.str ".o")))))) (sSet 3 (e2 dAdd (eVar 3) (eTup (aCons (eVar 5) aNil)))) sNil))))
def b__law_walk : Rho → SR := (sSeq (sSet 3 (eTup (aCons (eVar 1) aNil))) (sSeq (sFor (iRng rng1 (aCons (eC (.int 14)) aNil)) (.nm 4) b__law_walk_1) (sRet (eVar 3))))
def m__law_walk : List D → Res D := runB 3 10 b__law_walk
def b_is_seen : Rho → SR := (sRet (eCall dAny (aCons (eComp (iVal (eVar 1)) (.nm 3) tYes' (eFn m_sees (aCons (eVar 0) (aCons (eVar 3) (aCons (eVar 2) aNil)))) [3]) aNil)))
def m_is_seen : List D → Res D := runB 3 4 b_is_seen
def b_seen_on : Rho → SR := (sRet (eCall dLen (aCons (eComp (iVal (eVar 2)) (.nm 3) (eT (eFn m_is_seen (aCons (eVar 0) (aCons (eVar 1) (aCons (eVar 3) aNil))))) (eVar 3) [3]) aNil)))
def m_seen_on : List D → Res D := runB 3 4 b_seen_on
def b__law_worth : Rho → SR := (sRet (eTup (aCons (eFn m_seen_on (aCons (eVar 0) (aCons (eVar 1) (aCons (eVar 2) aNil)))) (aCons (eCall dLen (aCons (eVar 2) aNil)) aNil))))
def m__law_worth : List D → Res D := runB 3 3 b__law_worth
def b__wall_1 : Rho → SR := sNil
def b__wall_2 : Rho → Res Bool := (eT (eC (.bl true)))
def b__wall : Rho → SR := (sWhile 10000 b__wall_2 b__wall_1)
def m__wall : List D → Res D := runB 1 1 b__wall
def b_are_like_1 : Rho → SR := (sSeq (sIf (eT (e2 dEq (eVar 2) (eVar 1))) (sRet (eC (.bl true))) sNil) (sSet 2 (eFn m_turned (aCons (eVar 2) aNil))))
def b_are_like_2 : Rho → SR := (sFor (iRng rng1 (aCons (eC (.int 4)) aNil)) (.nm 3) b_are_like_1)
def b_are_like : Rho → SR := (sSeq (sFor (iVal (eTup (aCons (eVar 0) (aCons (eFn m_mirrored (aCons (eVar 0) aNil)) aNil)))) (.nm 2) b_are_like_2) (sRet (eC (.bl false))))
def m_are_like : List D → Res D := runB 2 4 b_are_like
def b_neighbours : Rho → SR := (sSeq (sSet 2 (eComp (iVal (eC (.gtup [(.gtup [(.int (-1)), (.int 0)]), (.gtup [(.int 0), (.int (-1))]), (.gtup [(.int 0), (.int 1)]), (.gtup [(.int 1), (.int 0)])]))) (.tp [4, 5]) tYes' (eTup (aCons (e2 dAdd (e2 dIx (eVar 1) (eC (.int 0))) (eVar 4)) (aCons (e2 dAdd (e2 dIx (eVar 1) (eC (.int 1))) (eVar 5)) aNil))) [4, 5])) (sRet (eComp (iVal (eVar 2)) (.nm 3) (tand (eT (eFn m_is_inside (aCons (eVar 0) (aCons (eVar 3) aNil)))) (eT (eFn m_is_free (aCons (eVar 0) (aCons (eVar 3) aNil))))) (eVar 3) [3])))
def m_neighbours : List D → Res D := runB 2 6 b_neighbours
def b_part_of_1 : Rho → SR := (sIf (eT (e2 dNotIn (eVar 4) (eOwn 2))) (sSeq (sPut 2 (eVar 4) (eC (.bl true))) (sApp 3 (eVar 4))) sNil)
def b_part_of_2 : Rho → SR := (sForPop m_neighbours (eVar 0) 3 (.nm 4) b_part_of_1)
def b_part_of_3 : Rho → Res Bool := (eT (e2 dGt (eCall dLen (aCons (eOwn 3) aNil)) (eC (.int 0))))
def b_part_of : Rho → SR := (sSeq (sNew 2 (eD1 (eVar 1) (eC (.bl true)))) (sSeq (sNew 3 (eLst (aCons (eVar 1) aNil))) (sSeq (sWhile 10000 b_part_of_3 b_part_of_2) (sFrz 2 (sFrz 3 (sRet (eCall dTuple (aCons (eCall dSort (aCons (eVar 2) aNil)) aNil))))))))
def m_part_of : List D → Res D := runB 2 5 b_part_of
def b_parts_1 : Rho → SR := (sIf (tand (eT (eFn m_is_free (aCons (eVar 0) (aCons (eVar 2) aNil)))) (tnot (eT (eCall dAny (aCons (eComp (iOwn (eOwn 1)) (.nm 3) tYes' (e2 dIn (eVar 2) (eVar 3)) [3]) aNil))))) (sApp 1 (eFn m_part_of (aCons (eVar 0) (aCons (eVar 2) aNil)))) sNil)
def b_parts : Rho → SR := (sSeq (sNew 1 (eLst aNil)) (sSeq (sFor (iVal (eFn m_cells (aCons (eVar 0) aNil))) (.nm 2) b_parts_1) (sFrz 1 (sRet (eCall dTuple (aCons (eVar 1) aNil))))))
def m_parts : List D → Res D := runB 1 4 b_parts
end Lw

set_option Elab.async false
set_option linter.all false
set_option maxRecDepth 100000
set_option maxHeartbeats 1000000
namespace Lw
open PySem PySem.Spec PyProof.Rows L2 DL

/-! ### halls -/
structure Hall where
  rows : List (List Nat)
  far : Int
instance : DecidableEq Hall := fun a b => if h : a.rows = b.rows ∧ a.far = b.far then .isTrue (by
  cases a
  cases b
  simp at h
  simp [h]) else .isFalse (fun e => h (by rw [e]; exact ⟨rfl, rfl⟩))
def Hall.h (g : Hall) : Nat := g.rows.length
def Hall.row (g : Hall) (i : Int) : List Nat := g.rows.getD i.toNat []
def Hall.w (g : Hall) : Nat := (g.row 0).length
structure Hall.Ok (g : Hall) : Prop where
  h1 : 1 ≤ g.h
  h8 : g.h ≤ 8
  w1 : 1 ≤ g.w
  w8 : g.w ≤ 8
  same : ∀ r ∈ g.rows, r.length = g.w
  signs : ∀ r ∈ g.rows, ∀ c ∈ r, c = 35 ∨ c = 46 ∨ c = 111 ∨ c = 120
  far0 : 0 ≤ g.far
  far9 : g.far ≤ 98
abbrev Cell := Int × Int
def mkS (l : List Nat) : Str := ⟨l.toArray⟩
def rowsD (rs : List (List Nat)) : D := .tup (rs.map fun r => .str (mkS r))
def hallD (g : Hall) : D := .tup [rowsD g.rows, .int g.far]
def cellD (c : Cell) : D := .tup [.int c.1, .int c.2]
def Hall.at (g : Hall) (c : Cell) : Nat := (g.row c.1).getD c.2.toNat 0
def Hall.ins (g : Hall) (c : Cell) : Bool := (decide (0 ≤ c.1) && decide (c.1 < g.h)) && (decide (0 ≤ c.2) && decide (c.2 < g.w))
theorem Hall.ins_iff {g : Hall} {c : Cell} : g.ins c = true ↔ 0 ≤ c.1 ∧ c.1 < g.h ∧ 0 ≤ c.2 ∧ c.2 < g.w := by
  unfold Hall.ins
  simp only [Bool.and_eq_true, decide_eq_true_eq]
  constructor
  · rintro ⟨⟨a, b⟩, c, d⟩
    exact ⟨a, b, c, d⟩
  · rintro ⟨a, b, c, d⟩
    exact ⟨⟨a, b⟩, c, d⟩

@[simp] theorem mkS_len (l : List Nat) : (mkS l).length = l.length := by
  unfold mkS Str.length
  simp
@[simp] theorem mkS_cps (l : List Nat) : (mkS l).cps.toList = l := by
  unfold mkS
  simp
theorem mkS_one (c : Nat) : (⟨#[c]⟩ : Str) = mkS [c] := rfl
@[simp] theorem s_wall : ("#" : Str) = mkS [35] := by decide +kernel
@[simp] theorem s_floor : ("." : Str) = mkS [46] := by decide +kernel
@[simp] theorem s_open : ("o" : Str) = mkS [111] := by decide +kernel
@[simp] theorem s_shut : ("x" : Str) = mkS [120] := by decide +kernel
theorem mkS_inj {a b : List Nat} : mkS a = mkS b ↔ a = b := by
  constructor
  · intro h
    have := congrArg (fun s : Str => s.cps.toList) h
    simpa using this
  · intro h
    rw [h]
@[simp] theorem hallD_0 (g : Hall) : dIx (hallD g) (.int 0) = some (rowsD g.rows) := by
  unfold hallD
  simp
@[simp] theorem hallD_1 (g : Hall) : dIx (hallD g) (.int 1) = some (.int g.far) := by
  unfold hallD
  simp
@[simp] theorem cellD_0 (c : Cell) : dIx (cellD c) (.int 0) = some (.int c.1) := by
  unfold cellD
  simp
@[simp] theorem cellD_1 (c : Cell) : dIx (cellD c) (.int 1) = some (.int c.2) := by
  unfold cellD
  simp
@[simp] theorem rowsD_len (rs : List (List Nat)) : dLen [rowsD rs] = some (.int rs.length) := by
  unfold rowsD
  simp
@[simp] theorem Hall.Ok.row0 {g : Hall} (ok : g.Ok) : dIx (rowsD g.rows) (.int 0) = some (.str (mkS (g.row 0))) := by
  have h1 := ok.h1
  unfold Hall.h at h1
  unfold rowsD Hall.row
  cases e : g.rows with
  | nil =>
    rw [e] at h1
    simp at h1
  | cons r rs => simp
theorem dLen_str {l : List Nat} (h : l.length ≤ 1000) : dLen [.str (mkS l)] = some (.int l.length) := by
  show (if (mkS l).length ≤ sizeLine then some (D.int (mkS l).length) else none) = _
  rw [mkS_len, if_pos (few h)]
@[simp] theorem Hall.Ok.wide {g : Hall} (ok : g.Ok) : dLen [.str (mkS (g.row 0))] = some (.int g.w) := dLen_str (by have := ok.w8; unfold Hall.w at this; omega)
theorem dIx_str {l : List Nat} {i : Int} (h : l.length ≤ 1000) (h0 : 0 ≤ i) (h1 : i < l.length) : dIx (.str (mkS l)) (.int i) = some (.str (mkS [l.getD i.toNat 0])) := by
  show (if (mkS l).length ≤ sizeLine then (atI (mkS l).cps.toList i).map fun c => D.str ⟨#[c]⟩ else none) = _
  rw [mkS_len, if_pos (few h), mkS_cps, atI_at h0, List.getElem?_eq_getElem (by omega)]
  rw [List.getD_eq_getElem?_getD, List.getElem?_eq_getElem (by omega)]
  rfl
theorem Hall.Ok.row {g : Hall} (ok : g.Ok) {i : Int} (h0 : 0 ≤ i) (h1 : i < g.h) : dIx (rowsD g.rows) (.int i) = some (.str (mkS (g.row i))) := by
  unfold rowsD Hall.row
  unfold Hall.h at h1
  rw [dIx_tup, atI_at h0, List.getElem?_map, List.getElem?_eq_getElem (by omega), List.getD_eq_getElem?_getD, List.getElem?_eq_getElem (by omega)]
  rfl
theorem Hall.Ok.rowlen {g : Hall} (ok : g.Ok) {i : Int} (h0 : 0 ≤ i) (h1 : i < g.h) : (g.row i).length = g.w := by
  unfold Hall.h at h1
  apply ok.same
  unfold Hall.row
  rw [List.getD_eq_getElem?_getD, List.getElem?_eq_getElem (by omega)]
  exact List.getElem_mem _
theorem Hall.Ok.sign {g : Hall} (ok : g.Ok) {c : Cell} (h : g.ins c = true) : dIx (.str (mkS (g.row c.1))) (.int c.2) = some (.str (mkS [g.at c])) := by
  obtain ⟨a, b, d, e⟩ := Hall.ins_iff.mp h
  have hl := ok.rowlen a b
  have := ok.w8
  exact dIx_str (by omega) d (by omega)

@[simp] theorem e_is_inside {g : Hall} (ok : g.Ok) (c : Cell) : m_is_inside [hallD g, cellD c] = .ok (.bl (g.ins c)) := by
  simp [m_is_inside, runB, rho0, b_is_inside, ok.row0, ok.wide, Hall.ins, Hall.h]
  by_cases h1 : 0 ≤ c.1 <;> by_cases h2 : c.1 < g.rows.length <;> by_cases h3 : 0 ≤ c.2 <;> simp [h1, h2, h3]
@[simp] theorem e_need_cell {g : Hall} (ok : g.Ok) (c : Cell) : m_need_cell [hallD g, cellD c] = if g.ins c = true then .ok .non else .err "NoCell" := by
  simp [m_need_cell, runB, rho0, b_need_cell, e_is_inside ok]
  cases g.ins c <;> rfl
@[simp] theorem e_sign_at {g : Hall} (ok : g.Ok) (c : Cell) : m_sign_at [hallD g, cellD c] = if g.ins c = true then .ok (.str (mkS [g.at c])) else .err "NoCell" := by
  simp [m_sign_at, runB, rho0, b_sign_at, e_need_cell ok]
  by_cases h : g.ins c = true
  · obtain ⟨a, b, d, e⟩ := Hall.ins_iff.mp h
    simp [h, ok.row a b, ok.sign h]
  · simp [h]

/-! ### cells, floors -/
def free (g : Hall) (c : Cell) : Bool := !(g.at c == 35 || g.at c == 120)
theorem in_g2 (a b c : Nat) : inB (.str (mkS [a])) (.gtup [.str (mkS [b]), .str (mkS [c])]) = some (a == b || a == c) := by
  show (if (lv 64 (D.str (mkS [a])) && [D.str (mkS [b]), D.str (mkS [c])].all (lv 64)) = true then some ([D.str (mkS [b]), D.str (mkS [c])].any fun y => eqN 64 y (D.str (mkS [a]))) else none) = _
  have q : ∀ x y : Nat, (mkS [x] == mkS [y]) = (y == x) := fun x y => by
    by_cases h : x = y
    · simp [h]
    · have h' : ¬ y = x := fun z => h z.symm
      rw [beq_eq_false_iff_ne.mpr (fun z => h (by simpa using mkS_inj.mp z)), beq_eq_false_iff_ne.mpr h']
  simp [lv_str, eqN_str, q]
@[simp] theorem e_is_free {g : Hall} (ok : g.Ok) {c : Cell} (h : g.ins c = true) : m_is_free [hallD g, cellD c] = .ok (.bl (free g c)) := by
  obtain ⟨a, b, d, e⟩ := Hall.ins_iff.mp h
  simp [m_is_free, runB, rho0, b_is_free, ok.row a b, ok.sign h, dNotIn, s_wall, s_shut, in_g2, free]
def rowCells (w : Nat) (r : Nat) : List Cell := (List.range w).map fun (c : Nat) => ((r : Int), (c : Int))
def cellsL (g : Hall) : List Cell := (List.range g.h).flatMap (rowCells g.w)
theorem flatMap_len {α : Type} {w : Nat} {f : Nat → List α} (h : ∀ i, (f i).length = w) : ∀ n, ((List.range n).flatMap f).length = n * w
  | 0 => by simp
  | n + 1 => by
    rw [List.range_succ, List.flatMap_append, List.length_append, flatMap_len h n]
    simp [h, Nat.succ_mul]
@[simp] theorem e_cells {g : Hall} (ok : g.Ok) : m_cells [hallD g] = .ok (.lst ((cellsL g).map cellD)) := by
  have hh := ok.h8
  have hw := ok.w8
  simp [m_cells, runB, rho0, b_cells, Hall.h]
  rw [rng1_nat (by unfold Hall.h at hh; omega)]
  simp only [of_some, sbind_ok]
  obtain ⟨ρ', h1, h2⟩ := forL_ix0 (t := .nm 2) (body := b_cells_1)
    (fun (i : Nat) => D.int (i : Int)) (fun i ρ => ∃ s, ρ = [.fz (hallD g), .ow (.lst (((List.range i).flatMap (rowCells g.w)).map cellD)), s, .no]) (List.range g.h) [.fz (hallD g), .ow (.lst []), .no, .no] ⟨.no, rfl⟩ (by
      rintro i x ρ hi ⟨s, rfl⟩
      have hx : x = i := by
        have := List.getElem?_eq_some_iff.mp hi
        obtain ⟨a, b⟩ := this
        simp at b
        exact b.symm
      have hil : i < g.h := by
        have := (List.getElem?_eq_some_iff.mp hi).1
        simpa using this
      subst hx
      refine ⟨_, _, rfl, .inl (sExt_ok (ds := ((List.range x).flatMap (rowCells g.w)).map cellD) (es := (rowCells g.w x).map cellD) rfl ?_ ?_), ⟨.fz (.int x), ?_⟩⟩
      · simp [ok.row0, ok.wide]
        rw [rng1_nat (by omega)]
        simp only [of_some, bind_ok]
        rw [compL_all (fun (i : Nat) => D.int (i : Int)) (fun c => cellD ((x : Int), (c : Int))) (List.range g.w) fun c _ => ⟨_, rfl, by simp [cellD]⟩]
        simp [rowCells, Function.comp_def]
      · rw [List.length_map, List.length_map, flatMap_len (w := g.w) (fun i => by simp [rowCells])]
        simp [rowCells]
        have : x * g.w ≤ 8 * 8 := Nat.mul_le_mul (by omega) hw
        omega
      · simp [List.range_succ, List.flatMap_append, List.map_append])
  unfold Hall.h at h1
  rw [h1]
  obtain ⟨s, rfl⟩ := h2
  simp [cellsL, Hall.h]
theorem mem_cells {g : Hall} {c : Cell} : c ∈ cellsL g ↔ g.ins c = true := by
  rw [Hall.ins_iff]
  unfold cellsL rowCells
  simp only [List.mem_flatMap, List.mem_range, List.mem_map]
  constructor
  · rintro ⟨r, hr, k, hk, rfl⟩
    simp
    omega
  · rintro ⟨a, b, d, e⟩
    refine ⟨c.1.toNat, by omega, c.2.toNat, by omega, ?_⟩
    rw [Int.toNat_of_nonneg a, Int.toNat_of_nonneg d]
def isFloor (g : Hall) (c : Cell) : Bool := g.at c == 46
def floorsL (g : Hall) : List Cell := (cellsL g).filter (isFloor g)
@[simp] theorem dEq_str (a b : List Nat) : dEq (.str (mkS a)) (.str (mkS b)) = some (.bl (decide (a = b))) := by
  unfold dEq
  simp [lv_str, eqN_str, mkS_inj]
  by_cases c : a = b <;> simp [c, mkS_inj]
@[simp] theorem e_floors {g : Hall} (ok : g.Ok) : m_floors [hallD g] = .ok (.tup ((floorsL g).map cellD)) := by
  simp [m_floors, runB, rho0, b_floors, e_cells ok]
  rw [compL_map cellD (isFloor g) cellD (cellsL g) fun c hc => ⟨_, rfl, by
    simp [e_sign_at ok, mem_cells.mp hc, s_floor, dEq_str, isFloor]
    by_cases h : g.at c = 46 <;> simp [h], fun _ => by simp⟩]
  simp [floorsL]
theorem mem_floors {g : Hall} {c : Cell} : c ∈ floorsL g ↔ g.ins c = true ∧ g.at c = 46 := by
  unfold floorsL isFloor
  rw [List.mem_filter, mem_cells]
  simp
end Lw

set_option Elab.async false
set_option linter.all false
set_option maxRecDepth 100000
set_option maxHeartbeats 1000000
namespace Lw
open PySem PySem.Spec PyProof.Rows L2 DL
/-! ### sight -/
def CSm (c : Cell) : Prop := -1000 ≤ c.1 ∧ c.1 ≤ 1000 ∧ -1000 ≤ c.2 ∧ c.2 ≤ 1000
def sideN (a b : Cell) (y x : Int) : Int := 2 * (b.1 - a.1) * (x - 2 * a.2 - 1) - 2 * (b.2 - a.2) * (y - 2 * a.1 - 1)
theorem e_side_of {a b : Cell} (ha : CSm a) (hb : CSm b) (y x : Int) : m_side_of [cellD a, cellD b, .tup [.int y, .int x]] = .ok (.int (sideN a b y x)) := by
  obtain ⟨a1, a2, a3, a4⟩ := ha
  obtain ⟨b1, b2, b3, b4⟩ := hb
  simp [m_side_of, runB, rho0, b_side_of]
  rw [dMul_l (by decide) (by decide)]
  simp
  rw [dMul_l (by decide) (by decide)]
  simp
  rw [dMul_l (by decide) (by decide)]
  simp
  rw [dMul_l (by omega) (by omega)]
  simp
  rw [dMul_l (by decide) (by decide)]
  simp
  rw [dMul_l (by omega) (by omega)]
  simp [sideN]
def sidesL (a b c : Cell) : List Int := [sideN a b (2 * c.1) (2 * c.2), sideN a b (2 * c.1) (2 * c.2 + 2), sideN a b (2 * c.1 + 2) (2 * c.2), sideN a b (2 * c.1 + 2) (2 * c.2 + 2)]
def crossB (a b c : Cell) : Bool := ((sidesL a b c).any fun s => decide (s < 0)) && ((sidesL a b c).any fun s => decide (0 < s))
theorem e_is_crossed {a b : Cell} (ha : CSm a) (hb : CSm b) (c : Cell) : m_is_crossed [cellD a, cellD b, cellD c] = .ok (.bl (crossB a b c)) := by
  have q : ∀ i : Int, dMul (.int 2) (.int i) = some (.int (2 * i)) := fun i => dMul_l (by decide) (by decide)
  simp [m_is_crossed, runB, rho0, b_is_crossed, q, show cellD c = D.tup [.int c.1, .int c.2] from rfl]
  have hc := compL_all (t := .nm 7) (el := eFn m_side_of (aCons (eVar 0) (aCons (eVar 1) (aCons (eVar 7) aNil)))) (ρ := [.fz (cellD a), .fz (cellD b), .fz (.tup [.int c.1, .int c.2]), .fz (.lst [.tup [.int (2 * c.1), .int (2 * c.2)], .tup [.int (2 * c.1), .int (2 * c.2 + 2)], .tup [.int (2 * c.1 + 2), .int (2 * c.2)], .tup [.int (2 * c.1 + 2), .int (2 * c.2 + 2)]]), .no, .fz (.int c.1), .fz (.int c.2), .no])
    (fun p : Int × Int => D.tup [.int p.1, .int p.2]) (fun p => .int (sideN a b p.1 p.2)) [(2 * c.1, 2 * c.2), (2 * c.1, 2 * c.2 + 2), (2 * c.1 + 2, 2 * c.2), (2 * c.1 + 2, 2 * c.2 + 2)] fun p _ => ⟨_, rfl, by simp [e_side_of ha hb]⟩
  simp at hc
  simp [hc]
  obtain ⟨mn, e1⟩ : ∃ m, minL (sidesL a b c) = some m := ⟨_, rfl⟩
  obtain ⟨mx, e2⟩ : ∃ m, maxL (sidesL a b c) = some m := ⟨_, rfl⟩
  have f1 : dMin [.lst [.int (sideN a b (2 * c.1) (2 * c.2)), .int (sideN a b (2 * c.1) (2 * c.2 + 2)), .int (sideN a b (2 * c.1 + 2) (2 * c.2)), .int (sideN a b (2 * c.1 + 2) (2 * c.2 + 2))]] = some (.int mn) := by
    show (intsOf ((sidesL a b c).map .int)).bind (fun ns => (minL ns).map D.int) = _
    rw [intsOf_map]
    show (minL (sidesL a b c)).map D.int = _
    rw [e1]
    rfl
  have f2 : dMax [.lst [.int (sideN a b (2 * c.1) (2 * c.2)), .int (sideN a b (2 * c.1) (2 * c.2 + 2)), .int (sideN a b (2 * c.1 + 2) (2 * c.2)), .int (sideN a b (2 * c.1 + 2) (2 * c.2 + 2))]] = some (.int mx) := by
    show (intsOf ((sidesL a b c).map .int)).bind (fun ns => (maxL ns).map D.int) = _
    rw [intsOf_map]
    show (maxL (sidesL a b c)).map D.int = _
    rw [e2]
    rfl
  have g1 := minL_lt e1 0
  have g2 := maxL_gt e2 0
  have k1 : decide (mn < 0) = (sidesL a b c).any fun s => decide (s < 0) := by
    rw [Bool.eq_iff_iff]
    simp only [decide_eq_true_eq, List.any_eq_true]
    exact g1
  have k2 : decide (0 < mx) = (sidesL a b c).any fun s => decide (0 < s) := by
    rw [Bool.eq_iff_iff]
    simp only [decide_eq_true_eq, List.any_eq_true]
    exact g2
  simp [f1, f2]
  unfold crossB
  rw [← k1, ← k2]
  by_cases c1 : mn < 0 <;> simp [c1]
/-! the cells that are crossed -/
def lo (x y : Int) : Int := if y < x then y else x
def hi (x y : Int) : Int := if y > x then y else x
def isX (a b c : Cell) : Bool := !(decide (c = a) || decide (c = b)) && crossB a b c
def xRow (a b : Cell) (r : Int) (n : Nat) : List Cell := ((List.range n).map fun (k : Nat) => (r, lo a.2 b.2 + k)).filter (isX a b)
def crossedL (a b : Cell) : List Cell := (List.range (hi a.1 b.1 + 1 - lo a.1 b.1).toNat).flatMap fun (k : Nat) => xRow a b (lo a.1 b.1 + k) (hi a.2 b.2 + 1 - lo a.2 b.2).toNat
theorem eqN_cell (n : Nat) (a b : Cell) : eqN (n + 1) (cellD a) (cellD b) = decide (a = b) := by
  unfold cellD
  rw [eqN_tup]
  simp only [eqL, eqN_int, Bool.and_true]
  obtain ⟨a1, a2⟩ := a
  obtain ⟨b1, b2⟩ := b
  by_cases c1 : a1 = b1 <;> by_cases c2 : a2 = b2 <;> simp [c1, c2]
theorem lv_cell (n : Nat) (a : Cell) : lv (n + 1) (cellD a) = true := by
  unfold cellD
  rw [lv_tup]
  simp [lv_int]
theorem in_cells (c : Cell) (cs : List Cell) : inB (cellD c) (.tup (cs.map cellD)) = some (decide (c ∈ cs)) := by
  have h1 : (lv 64 (cellD c) && (cs.map cellD).all (lv 64)) = true := by
    rw [Bool.and_eq_true, List.all_eq_true]
    refine ⟨lv_cell 63 c, fun x hx => ?_⟩
    obtain ⟨d, _, rfl⟩ := List.mem_map.mp hx
    exact lv_cell 63 d
  show (if (lv 64 (cellD c) && (cs.map cellD).all (lv 64)) = true then some ((cs.map cellD).any fun y => eqN 64 y (cellD c)) else none) = _
  rw [if_pos h1]
  congr 1
  rw [Bool.eq_iff_iff]
  simp only [List.any_eq_true, List.mem_map, decide_eq_true_eq]
  constructor
  · rintro ⟨x, ⟨d, hd, rfl⟩, e⟩
    rw [eqN_cell] at e
    have := of_decide_eq_true e
    rw [← this]
    exact hd
  · intro h
    exact ⟨_, ⟨c, h, rfl⟩, by rw [eqN_cell]; simp⟩
theorem in_cellsL (c : Cell) (cs : List Cell) : inB (cellD c) (.lst (cs.map cellD)) = some (decide (c ∈ cs)) := in_cells c cs
theorem filter_len_le {α : Type} (p : α → Bool) (l : List α) : (l.filter p).length ≤ l.length := List.length_filter_le p l
theorem xRow_len (a b : Cell) (r : Int) (n : Nat) : (xRow a b r n).length ≤ n := by
  unfold xRow
  refine Nat.le_trans (List.length_filter_le _ _) ?_
  simp
theorem flatMap_len_le {α : Type} {w : Nat} {f : Nat → List α} (h : ∀ i, (f i).length ≤ w) : ∀ n, ((List.range n).flatMap f).length ≤ n * w
  | 0 => by simp
  | n + 1 => by
    rw [List.range_succ, List.flatMap_append, List.length_append]
    have := flatMap_len_le h n
    have h2 := h n
    have e : [n].flatMap f = f n := by simp
    rw [e, Nat.succ_mul]
    omega
theorem range_get {n i x : Nat} (h : (List.range n)[i]? = some x) : x = i ∧ i < n := by
  obtain ⟨a, b⟩ := List.getElem?_eq_some_iff.mp h
  simp at a b
  exact ⟨b.symm, a⟩
theorem dNotIn_2 (c a b : Cell) : dNotIn (cellD c) (.tup [cellD a, cellD b]) = some (.bl (!(decide (c = a) || decide (c = b)))) := by
  unfold dNotIn
  rw [show ([cellD a, cellD b] : List D) = [a, b].map cellD from rfl, in_cells]
  simp
theorem xRow_inner {a b : Cell} (ha : CSm a) (hb : CSm b) (r : Int) (n : Nat) (hn : n ≤ 20) (acc : List Cell) (hacc : acc.length ≤ 900) (x4 : DL.Slot) :
    ∃ x, forL (.nm 4) b_crossed_1 ((List.range n).map fun (k : Nat) => D.int (lo a.2 b.2 + k)) [.fz (cellD a), .fz (cellD b), .ow (.lst (acc.map cellD)), .fz (.int r), x4] = .nx [.fz (cellD a), .fz (cellD b), .ow (.lst ((acc ++ xRow a b r n).map cellD)), .fz (.int r), x] := by
  obtain ⟨ρ', h1, h2⟩ := forL_ix0 (t := .nm 4) (body := b_crossed_1) (fun (k : Nat) => D.int (lo a.2 b.2 + k)) (fun i ρ => ∃ x, ρ = [.fz (cellD a), .fz (cellD b), .ow (.lst ((acc ++ xRow a b r i).map cellD)), .fz (.int r), x]) (List.range n)
    [.fz (cellD a), .fz (cellD b), .ow (.lst (acc.map cellD)), .fz (.int r), x4] ⟨x4, by simp [xRow]⟩ (by
      rintro i x ρ hi ⟨s, rfl⟩
      obtain ⟨rfl, hin⟩ := range_get hi
      have hx : cellD (r, lo a.2 b.2 + x) = D.tup [.int r, .int (lo a.2 b.2 + x)] := rfl
      have e1 : xRow a b r (x + 1) = xRow a b r x ++ (if isX a b (r, lo a.2 b.2 + x) = true then [(r, lo a.2 b.2 + x)] else []) := by
        unfold xRow
        rw [List.range_succ, List.map_append, List.filter_append]
        congr 1
        by_cases c : isX a b (r, lo a.2 b.2 + x) = true <;> simp [c]
      refine ⟨_, [.fz (cellD a), .fz (cellD b), .ow (.lst ((acc ++ xRow a b r (x + 1)).map cellD)), .fz (.int r), .fz (.int (lo a.2 b.2 + x))], rfl, .inl ?_, ⟨_, rfl⟩⟩
      unfold b_crossed_1
      simp [← hx, dNotIn_2, e_is_crossed ha hb]
      rw [e1]
      by_cases c : isX a b (r, lo a.2 b.2 + x) = true
      · have c' := c
        unfold isX at c'
        rw [Bool.and_eq_true] at c'
        have c1 : ¬ (r, lo a.2 b.2 + ↑x) = a ∧ ¬ (r, lo a.2 b.2 + ↑x) = b := by
          have := c'.1
          simp at this
          exact this
        simp [c1, c'.2]
        rw [sApp_ok (ds := (acc ++ xRow a b r x).map cellD) (d := cellD (r, lo a.2 b.2 + x)) (by simp) (by simp [hx]) (by
          have := xRow_len a b r x
          simp
          omega)]
        simp [c]
      · have c' := c
        unfold isX at c'
        rw [if_neg c]
        by_cases c1 : (¬ (r, lo a.2 b.2 + ↑x) = a ∧ ¬ (r, lo a.2 b.2 + ↑x) = b)
        · have : crossB a b (r, lo a.2 b.2 + ↑x) = false := by
            cases q : crossB a b (r, lo a.2 b.2 + ↑x) with
            | false => rfl
            | true =>
              exfalso
              apply c'
              rw [q]
              simp [c1]
          simp [c1, this]
        · simp [c1])
  obtain ⟨x, rfl⟩ := h2
  rw [List.length_range] at h1
  exact ⟨x, h1⟩
theorem e_crossed {a b : Cell} (ha : CSm a) (hb : CSm b) (hr : (hi a.1 b.1 + 1 - lo a.1 b.1).toNat ≤ 20) (hc : (hi a.2 b.2 + 1 - lo a.2 b.2).toNat ≤ 20) : m_crossed [cellD a, cellD b] = .ok (.tup ((crossedL a b).map cellD)) := by
  obtain ⟨a1, a2, a3, a4⟩ := id ha
  obtain ⟨b1, b2, b3, b4⟩ := id hb
  have l1 : -1000 ≤ lo a.1 b.1 ∧ lo a.1 b.1 ≤ 1000 := by unfold lo; split <;> omega
  have l2 : -1000 ≤ hi a.1 b.1 ∧ hi a.1 b.1 ≤ 1000 := by unfold hi; split <;> omega
  have l3 : -1000 ≤ lo a.2 b.2 ∧ lo a.2 b.2 ≤ 1000 := by unfold lo; split <;> omega
  have l4 : -1000 ≤ hi a.2 b.2 ∧ hi a.2 b.2 ≤ 1000 := by unfold hi; split <;> omega
  simp only [m_crossed, runB, rho0, b_crossed]
  simp
  rw [show (if b.1 < a.1 then b.1 else a.1) = lo a.1 b.1 from rfl, show (if a.1 < b.1 then b.1 else a.1) = hi a.1 b.1 from rfl, rng2_ok (by omega) (by omega) (by omega) (by omega)]
  simp only [of_some, sbind_ok]
  obtain ⟨ρ', h1, h2⟩ := forL_ix0 (t := .nm 3) (body := b_crossed_2) (fun (k : Nat) => D.int (lo a.1 b.1 + k)) (fun i ρ => ∃ x y, ρ = [.fz (cellD a), .fz (cellD b), .ow (.lst (((List.range i).flatMap fun (k : Nat) => xRow a b (lo a.1 b.1 + k) (hi a.2 b.2 + 1 - lo a.2 b.2).toNat).map cellD)), x, y])
    (List.range (hi a.1 b.1 + 1 - lo a.1 b.1).toNat) [.fz (cellD a), .fz (cellD b), .ow (.lst []), .no, .no] ⟨_, _, rfl⟩ (by
      rintro i x ρ hi' ⟨s, s', rfl⟩
      obtain ⟨rfl, hin⟩ := range_get hi'
      have hl : ((List.range x).flatMap fun (k : Nat) => xRow a b (lo a.1 b.1 + k) (hi a.2 b.2 + 1 - lo a.2 b.2).toNat).length ≤ 900 := by
        refine Nat.le_trans (flatMap_len_le (fun k => xRow_len a b (lo a.1 b.1 + k) _) x) ?_
        have : x * (hi a.2 b.2 + 1 - lo a.2 b.2).toNat ≤ 20 * 20 := Nat.mul_le_mul (by omega) hc
        omega
      obtain ⟨y, hy⟩ := xRow_inner ha hb (lo a.1 b.1 + x) _ hc _ hl s'
      refine ⟨_, [.fz (cellD a), .fz (cellD b), .ow (.lst ((((List.range x).flatMap fun (k : Nat) => xRow a b (lo a.1 b.1 + k) (hi a.2 b.2 + 1 - lo a.2 b.2).toNat) ++ xRow a b (lo a.1 b.1 + x) (hi a.2 b.2 + 1 - lo a.2 b.2).toNat).map cellD)), .fz (.int (lo a.1 b.1 + x)), y], rfl, .inl ?_, ⟨.fz (.int (lo a.1 b.1 + x)), y, ?_⟩⟩
      · unfold b_crossed_2
        simp
        rw [show (if b.2 < a.2 then b.2 else a.2) = lo a.2 b.2 from rfl, show (if a.2 < b.2 then b.2 else a.2) = hi a.2 b.2 from rfl, rng2_ok (by omega) (by omega) (by omega) (by omega)]
        simp only [of_some, sbind_ok]
        rw [hy]
        simp
      · simp [List.range_succ, List.flatMap_append])
  rw [h1]
  obtain ⟨x, y, rfl⟩ := h2
  simp [crossedL]
theorem mem_crossed {a b c : Cell} : c ∈ crossedL a b ↔ (lo a.1 b.1 ≤ c.1 ∧ c.1 ≤ hi a.1 b.1 ∧ lo a.2 b.2 ≤ c.2 ∧ c.2 ≤ hi a.2 b.2) ∧ isX a b c = true := by
  unfold crossedL xRow
  simp only [List.mem_flatMap, List.mem_filter, List.mem_map, List.mem_range]
  constructor
  · rintro ⟨k, hk, ⟨j, hj, rfl⟩, hx⟩
    refine ⟨?_, hx⟩
    dsimp only
    omega
  · rintro ⟨⟨h1, h2, h3, h4⟩, hx⟩
    refine ⟨(c.1 - lo a.1 b.1).toNat, by omega, ⟨(c.2 - lo a.2 b.2).toNat, by omega, ?_⟩, hx⟩
    obtain ⟨c1, c2⟩ := c
    dsimp only at *
    rw [Int.toNat_of_nonneg (by omega), Int.toNat_of_nonneg (by omega)]
    congr 1 <;> omega
theorem lo_le {x y : Int} : lo x y ≤ x ∧ lo x y ≤ y := by unfold lo; split <;> omega
theorem le_hi {x y : Int} : x ≤ hi x y ∧ y ≤ hi x y := by unfold hi; split <;> omega
theorem lo_or {x y : Int} : lo x y = x ∨ lo x y = y := by unfold lo; split <;> simp
theorem hi_or {x y : Int} : hi x y = x ∨ hi x y = y := by unfold hi; split <;> simp
theorem Hall.Ok.sm {g : Hall} (ok : g.Ok) {c : Cell} (h : g.ins c = true) : CSm c := by
  obtain ⟨a, b, d, e⟩ := Hall.ins_iff.mp h
  have := ok.h8
  have := ok.w8
  exact ⟨by omega, by omega, by omega, by omega⟩
theorem crossed_ins {g : Hall} {a b c : Cell} (ha : g.ins a = true) (hb : g.ins b = true) (h : c ∈ crossedL a b) : g.ins c = true := by
  obtain ⟨⟨h1, h2, h3, h4⟩, _⟩ := mem_crossed.mp h
  obtain ⟨a1, a2, a3, a4⟩ := Hall.ins_iff.mp ha
  obtain ⟨b1, b2, b3, b4⟩ := Hall.ins_iff.mp hb
  rw [Hall.ins_iff]
  have := @lo_or a.1 b.1
  have := @lo_or a.2 b.2
  have := @hi_or a.1 b.1
  have := @hi_or a.2 b.2
  omega
@[simp] theorem e_crossed_in {g : Hall} (ok : g.Ok) {a b : Cell} (ha : g.ins a = true) (hb : g.ins b = true) : m_crossed [cellD a, cellD b] = .ok (.tup ((crossedL a b).map cellD)) := by
  obtain ⟨a1, a2, a3, a4⟩ := Hall.ins_iff.mp ha
  obtain ⟨b1, b2, b3, b4⟩ := Hall.ins_iff.mp hb
  have := ok.h8
  have := ok.w8
  have := @lo_or a.1 b.1
  have := @lo_or a.2 b.2
  have := @hi_or a.1 b.1
  have := @hi_or a.2 b.2
  exact e_crossed (ok.sm ha) (ok.sm hb) (by omega) (by omega)
def dist2 (a b : Cell) : Int := (a.1 - b.1) * (a.1 - b.1) + (a.2 - b.2) * (a.2 - b.2)
def near (g : Hall) (a b : Cell) : Bool := decide (g.far = 0) || decide (dist2 a b ≤ g.far)
@[simp] theorem dEq_int (i j : Int) : dEq (.int i) (.int j) = some (.bl (decide (i = j))) := by
  unfold dEq
  simp [lv_int, eqN_int]
  by_cases c : i = j <;> simp [c]
@[simp] theorem dNe_int (i j : Int) : dNe (.int i) (.int j) = some (.bl (!decide (i = j))) := by
  unfold dNe
  simp [lv_int, eqN_int]
  by_cases c : i = j <;> simp [c]
theorem e_is_near {g : Hall} {a b : Cell} (ha : CSm a) (hb : CSm b) : m_is_near [hallD g, cellD a, cellD b] = .ok (.bl (near g a b)) := by
  obtain ⟨a1, a2, a3, a4⟩ := ha
  obtain ⟨b1, b2, b3, b4⟩ := hb
  simp [m_is_near, runB, rho0, b_is_near]
  rw [dMul_l (by omega) (by omega), dMul_l (by omega) (by omega)]
  simp [dEq_int, near, dist2]
  by_cases c : g.far = 0
  · simp [c]
  · simp [c]
    rfl
def seesB (g : Hall) (a b : Cell) : Bool := free g a && free g b && near g a b && (crossedL a b).all (free g)
@[simp] theorem e_sees {g : Hall} (ok : g.Ok) (a b : Cell) : m_sees [hallD g, cellD a, cellD b] = if g.ins a = true ∧ g.ins b = true then .ok (.bl (seesB g a b)) else .err "NoCell" := by
  simp only [m_sees, runB, rho0, b_sees]
  simp [e_need_cell ok]
  by_cases ha : g.ins a = true
  · by_cases hb : g.ins b = true
    · simp [ha, hb, e_is_free ok ha, e_is_free ok hb, e_is_near (ok.sm ha) (ok.sm hb), e_crossed_in ok ha hb]
      rw [compL_all cellD (fun c => .bl (free g c)) (crossedL a b) fun c hc => ⟨_, rfl, by simp [e_is_free ok (crossed_ins ha hb hc)]⟩]
      simp [dAll_map, seesB]
      by_cases c1 : free g a = true <;> by_cases c2 : free g b = true <;> by_cases c3 : near g a b = true <;> simp [c1, c2, c3]
    · simp [ha, hb]
  · simp [ha]
def seenL (g : Hall) (c : Cell) : List Cell := (floorsL g).filter (seesB g c)
@[simp] theorem e_seen {g : Hall} (ok : g.Ok) (c : Cell) : m_seen [hallD g, cellD c] = if g.ins c = true then .ok (.tup ((seenL g c).map cellD)) else .err "NoCell" := by
  simp only [m_seen, runB, rho0, b_seen]
  simp [e_need_cell ok]
  by_cases h : g.ins c = true
  · simp [h, e_floors ok]
    rw [compL_map cellD (seesB g c) cellD (floorsL g) fun d hd => ⟨_, rfl, by simp [e_sees ok, h, (mem_floors.mp hd).1], fun _ => by simp⟩]
    simp [seenL]
  · simp [h]
/-! ### both ways the same -/
theorem lo_comm (x y : Int) : lo x y = lo y x := by unfold lo; split <;> split <;> omega
theorem hi_comm (x y : Int) : hi x y = hi y x := by unfold hi; split <;> split <;> omega
theorem side_neg (a b : Cell) (y x : Int) : sideN b a y x = - sideN a b y x := by
  unfold sideN
  grind
theorem crossB_comm (a b c : Cell) : crossB a b c = crossB b a c := by
  unfold crossB sidesL
  simp only [List.any_cons, List.any_nil, side_neg a b]
  have q1 : ∀ z : Int, decide (-z < 0) = decide (0 < z) := fun z => by rw [Bool.eq_iff_iff]; simp
  have q2 : ∀ z : Int, decide (0 < -z) = decide (z < 0) := fun z => by rw [Bool.eq_iff_iff]; simp
  simp only [q1, q2]
  rw [Bool.and_comm]
theorem isX_comm (a b c : Cell) : isX a b c = isX b a c := by
  unfold isX
  rw [crossB_comm, Bool.or_comm]
theorem crossed_comm (a b : Cell) : crossedL a b = crossedL b a := by
  unfold crossedL xRow
  rw [lo_comm a.1, hi_comm a.1, lo_comm a.2, hi_comm a.2]
  congr 1
  funext k
  congr 1
  funext c
  exact isX_comm a b c
theorem dist2_comm (a b : Cell) : dist2 a b = dist2 b a := by
  unfold dist2
  grind
theorem sees_comm (g : Hall) (a b : Cell) : seesB g a b = seesB g b a := by
  unfold seesB near
  rw [crossed_comm, dist2_comm, Bool.and_comm (free g a)]
end Lw

set_option Elab.async false
set_option linter.all false
set_option maxRecDepth 100000
set_option maxHeartbeats 1000000
namespace Lw
open PySem PySem.Spec PyProof.Rows L2 DL
/-! ### what the laws draw -/
def cellAt (ns : List Int) (k : Int) : Int := if k < ns.length then ns.getD k.toNat 0 else 0
@[simp] theorem e_law_cell_at (ns : List Int) {k : Int} (h0 : 0 ≤ k) : m__law_cell_at [.scr ns, .int k] = .ok (.int (cellAt ns k)) := by
  simp [m__law_cell_at, runB, rho0, b__law_cell_at, cellAt]
  by_cases c : k < ns.length
  · simp [c, atI_at h0]
    rw [List.getElem?_eq_getElem (by omega)]
    simp
  · simp [c]
def mixN (ns : List Int) (k : Int) : Int := (((cellAt ns k + 7919 * k + 1) * 48271 % 2147483647) * ((cellAt ns k + 7919 * k + 1) * 48271 % 2147483647) + 7 * ((cellAt ns k + 7919 * k + 1) * 48271 % 2147483647) + k) % 2147483629
theorem mixN_range (ns : List Int) (k : Int) : 0 ≤ mixN ns k ∧ mixN ns k < 2147483629 := by
  unfold mixN
  exact ⟨Int.emod_nonneg _ (by decide), Int.emod_lt_of_pos _ (by decide)⟩
@[simp] theorem e_law_mixed (ns : List Int) {k : Int} (h0 : 0 ≤ k) : m__law_mixed [.scr ns, .int k] = .ok (.int (mixN ns k)) := by
  simp [m__law_mixed, runB, rho0, b__law_mixed, e_law_cell_at ns h0]
  rw [dMul_l (by decide) (by decide)]
  simp
  rw [dMul_r (by decide) (by decide)]
  simp
  rw [dMod_ok (by decide)]
  simp
  have h1 := Int.emod_nonneg ((cellAt ns k + 7919 * k + 1) * 48271) (show (2147483647 : Int) ≠ 0 by decide)
  have h2 := Int.emod_lt_of_pos ((cellAt ns k + 7919 * k + 1) * 48271) (show (0 : Int) < 2147483647 by decide)
  rw [dMul_l (by omega) (by omega), dMul_l (by decide) (by decide)]
  simp
  rw [dMod_ok (by decide)]
  simp [mixN]
def drawN (n k : Int) : Int := (((n + 104729 * k + 17) * 69621 % 2147483647) * ((n + 104729 * k + 17) * 69621 % 2147483647) + 3 * ((n + 104729 * k + 17) * 69621 % 2147483647) + k) % 2147483629
theorem drawN_range (n k : Int) : 0 ≤ drawN n k ∧ drawN n k < 2147483629 := by
  unfold drawN
  exact ⟨Int.emod_nonneg _ (by decide), Int.emod_lt_of_pos _ (by decide)⟩
@[simp] theorem e_law_drawn (n k : Int) : m__law_drawn [.int n, .int k] = .ok (.int (drawN n k)) := by
  simp [m__law_drawn, runB, rho0, b__law_drawn]
  rw [dMul_l (by decide) (by decide)]
  simp
  rw [dMul_r (by decide) (by decide)]
  simp
  rw [dMod_ok (by decide)]
  simp
  have h1 := Int.emod_nonneg ((n + 104729 * k + 17) * 69621) (show (2147483647 : Int) ≠ 0 by decide)
  have h2 := Int.emod_lt_of_pos ((n + 104729 * k + 17) * 69621) (show (0 : Int) < 2147483647 by decide)
  rw [dMul_l (by omega) (by omega), dMul_l (by decide) (by decide)]
  simp
  rw [dMod_ok (by decide)]
  simp [drawN]
/-! ### a drawn hall -/
theorem mkS_app (a b : List Nat) : mkS a ++ mkS b = mkS (a ++ b) := by
  unfold mkS
  show Str.append _ _ = _
  unfold Str.append
  simp
theorem dAdd_str {a b : List Nat} (h : a.length + b.length ≤ 1000) : dAdd (.str (mkS a)) (.str (mkS b)) = some (.str (mkS (a ++ b))) := by
  show (if (mkS a).length + (mkS b).length ≤ sizeLine then some (D.str (mkS a ++ mkS b)) else none) = _
  rw [mkS_len, mkS_len, if_pos (few h), mkS_app]
theorem dAdd_tup {a b : List D} (h : a.length + b.length ≤ 1000) : dAdd (.tup a) (.tup b) = some (.tup (a ++ b)) := by
  show (if a.length + b.length ≤ sizeLine then some (D.tup (a ++ b)) else none) = _
  rw [if_pos (few h)]
theorem dAdd_lst {a b : List D} (h : a.length + b.length ≤ 1000) : dAdd (.lst a) (.lst b) = some (.lst (a ++ b)) := by
  show (if a.length + b.length ≤ sizeLine then some (D.lst (a ++ b)) else none) = _
  rw [if_pos (few h)]
def signsL (n : Int) : List Nat := ([[46, 46, 46, 46, 46, 35, 35, 111], [46, 46, 46, 35, 35, 46, 120, 46], [46, 46, 46, 46, 46, 46, 46, 35], [46, 35, 46, 35, 46, 111, 120, 46]] : List (List Nat)).getD (n / 64 % 4).toNat []
def farN (n : Int) : Int := ([0, 0, 4, 9, 2, 1, 25] : List Int).getD (n / 512 % 7).toNat 0
def signN (n : Int) (r c : Nat) : Nat := (signsL n).getD (drawN n (8 * r + c) / 16 % 8).toNat 0
def lineL (n : Int) (r w : Nat) : List Nat := (List.range w).map (signN n r)
def hallOf (n m : Int) : Hall := ⟨(List.range (1 + n % m).toNat).map fun r => lineL n r (1 + n / 8 % m).toNat, farN n⟩
@[simp] theorem s_empty : ("" : Str) = mkS [] := by decide +kernel
theorem s_s1 : (".....##o" : Str) = mkS [46, 46, 46, 46, 46, 35, 35, 111] := by decide +kernel
theorem s_s2 : ("...##.x." : Str) = mkS [46, 46, 46, 35, 35, 46, 120, 46] := by decide +kernel
theorem s_s3 : (".......#" : Str) = mkS [46, 46, 46, 46, 46, 46, 46, 35] := by decide +kernel
theorem s_s4 : (".#.#.ox." : Str) = mkS [46, 35, 46, 35, 46, 111, 120, 46] := by decide +kernel
theorem mod_cases4 {i : Int} (h0 : 0 ≤ i) (h : i < 4) : i = 0 ∨ i = 1 ∨ i = 2 ∨ i = 3 := by omega
theorem mod_cases7 {i : Int} (h0 : 0 ≤ i) (h : i < 7) : i = 0 ∨ i = 1 ∨ i = 2 ∨ i = 3 ∨ i = 4 ∨ i = 5 ∨ i = 6 := by omega
theorem signs_at (n : Int) : dIx (.tup [.str (mkS [46, 46, 46, 46, 46, 35, 35, 111]), .str (mkS [46, 46, 46, 35, 35, 46, 120, 46]), .str (mkS [46, 46, 46, 46, 46, 46, 46, 35]), .str (mkS [46, 35, 46, 35, 46, 111, 120, 46])]) (.int (n / 64 % 4)) = some (.str (mkS (signsL n))) := by
  have h1 := Int.emod_nonneg (n / 64) (show (4 : Int) ≠ 0 by decide)
  have h2 := Int.emod_lt_of_pos (n / 64) (show (0 : Int) < 4 by decide)
  rw [dIx_tup, atI_at h1]
  unfold signsL
  rcases mod_cases4 h1 h2 with e | e | e | e <;> rw [e] <;> rfl
theorem far_at (n : Int) : dIx (.tup [.int 0, .int 0, .int 4, .int 9, .int 2, .int 1, .int 25]) (.int (n / 512 % 7)) = some (.int (farN n)) := by
  have h1 := Int.emod_nonneg (n / 512) (show (7 : Int) ≠ 0 by decide)
  have h2 := Int.emod_lt_of_pos (n / 512) (show (0 : Int) < 7 by decide)
  rw [dIx_tup, atI_at h1]
  unfold farN
  rcases mod_cases7 h1 h2 with e | e | e | e | e | e | e <;> rw [e] <;> rfl
theorem farN_range (n : Int) : 0 ≤ farN n ∧ farN n ≤ 98 := by
  have h1 := Int.emod_nonneg (n / 512) (show (7 : Int) ≠ 0 by decide)
  have h2 := Int.emod_lt_of_pos (n / 512) (show (0 : Int) < 7 by decide)
  unfold farN
  rcases mod_cases7 h1 h2 with e | e | e | e | e | e | e <;> rw [e] <;> decide
theorem signsL_len (n : Int) : (signsL n).length = 8 := by
  have h1 := Int.emod_nonneg (n / 64) (show (4 : Int) ≠ 0 by decide)
  have h2 := Int.emod_lt_of_pos (n / 64) (show (0 : Int) < 4 by decide)
  unfold signsL
  rcases mod_cases4 h1 h2 with e | e | e | e <;> rw [e] <;> decide
theorem signsL_ok (n : Int) : ∀ c ∈ signsL n, c = 35 ∨ c = 46 ∨ c = 111 ∨ c = 120 := by
  have h1 := Int.emod_nonneg (n / 64) (show (4 : Int) ≠ 0 by decide)
  have h2 := Int.emod_lt_of_pos (n / 64) (show (0 : Int) < 4 by decide)
  unfold signsL
  rcases mod_cases4 h1 h2 with e | e | e | e <;> rw [e] <;> decide
theorem signN_ok (n : Int) (r c : Nat) : signN n r c = 35 ∨ signN n r c = 46 ∨ signN n r c = 111 ∨ signN n r c = 120 := by
  have h1 := Int.emod_nonneg (drawN n (8 * r + c) / 16) (show (8 : Int) ≠ 0 by decide)
  have h2 := Int.emod_lt_of_pos (drawN n (8 * r + c) / 16) (show (0 : Int) < 8 by decide)
  apply signsL_ok n
  unfold signN
  rw [List.getD_eq_getElem?_getD, List.getElem?_eq_getElem (by rw [signsL_len]; omega)]
  exact List.getElem_mem _
theorem hall_line {n : Int} (ρa ρb : DL.Slot) (r : Nat) (hi' wi : D) (rows : D) (w : Nat) (hw : w ≤ 8) (s : DL.Slot) (s1 s5 s8 : DL.Slot) : ∃ x, forL (.nm 8) b__law_hall_1 ((List.range w).map fun (i : Nat) => D.int (i : Int)) [.fz (.int n), s1, .fz hi', .fz wi, .fz (.str (mkS (signsL n))), s5, .fz (.int r), .fz (.str (mkS [])), s8] =
    .nx [.fz (.int n), s1, .fz hi', .fz wi, .fz (.str (mkS (signsL n))), s5, .fz (.int r), .fz (.str (mkS (lineL n r w))), x] := by
  obtain ⟨ρ', h1, h2⟩ := forL_ix0 (t := .nm 8) (body := b__law_hall_1) (fun (i : Nat) => D.int (i : Int)) (fun i ρ => ∃ x, ρ = [.fz (.int n), s1, .fz hi', .fz wi, .fz (.str (mkS (signsL n))), s5, .fz (.int r), .fz (.str (mkS (lineL n r i))), x]) (List.range w)
    [.fz (.int n), s1, .fz hi', .fz wi, .fz (.str (mkS (signsL n))), s5, .fz (.int r), .fz (.str (mkS [])), s8] ⟨s8, by simp [lineL]⟩ (by
      rintro i x ρ hi ⟨s, rfl⟩
      obtain ⟨rfl, hin⟩ := range_get hi
      refine ⟨_, [.fz (.int n), s1, .fz hi', .fz wi, .fz (.str (mkS (signsL n))), s5, .fz (.int r), .fz (.str (mkS (lineL n r (x + 1)))), .fz (.int x)], rfl, .inl ?_, ⟨_, rfl⟩⟩
      unfold b__law_hall_1
      simp
      rw [dMul_l (by decide) (by decide)]
      simp [e_law_drawn]
      rw [dFdiv_ok (by decide) (by decide)]
      simp
      rw [dMod_ok (by decide)]
      simp
      have k1 := Int.emod_nonneg (drawN n (8 * r + x) / 16) (show (8 : Int) ≠ 0 by decide)
      have k2 := Int.emod_lt_of_pos (drawN n (8 * r + x) / 16) (show (0 : Int) < 8 by decide)
      rw [dIx_str (by rw [signsL_len]; decide) k1 (by rw [signsL_len]; omega)]
      simp
      rw [dAdd_str (by simp [lineL]; omega)]
      simp [lineL, List.range_succ, signN])
  rw [List.length_range] at h2
  obtain ⟨x, rfl⟩ := h2
  exact ⟨x, h1⟩
theorem e_law_hall {n m : Int} (h0 : 0 ≤ n) (hm : 1 ≤ m) (hm8 : m ≤ 8) : m__law_hall [.int n, .int m] = .ok (hallD (hallOf n m)) := by
  have r1 := Int.emod_nonneg n (show m ≠ 0 by omega)
  have r2 := Int.emod_lt_of_pos n (show 0 < m by omega)
  have r3 := Int.emod_nonneg (n / 8) (show m ≠ 0 by omega)
  have r4 := Int.emod_lt_of_pos (n / 8) (show 0 < m by omega)
  simp only [m__law_hall, runB, rho0, b__law_hall]
  simp
  rw [dMod_ok (by omega)]
  simp
  rw [dFdiv_ok (by decide) (by decide)]
  simp
  rw [dMod_ok (by omega)]
  simp
  rw [dFdiv_ok (by decide) (by decide)]
  simp
  rw [dMod_ok (by decide)]
  simp only [of_some, bind_ok, s_s1, s_s2, s_s3, s_s4, signs_at, sbind_ok, seqR_nx]
  simp
  rw [rng1_ok (by omega) (by omega)]
  simp only [of_some, sbind_ok]
  obtain ⟨ρ', h1, h2⟩ := forL_ix0 (t := .nm 6) (body := b__law_hall_2) (fun (i : Nat) => D.int (i : Int)) (fun i ρ => ∃ x y z, ρ = [.fz (.int n), .fz (.int m), .fz (.int (1 + n % m)), .fz (.int (1 + n / 8 % m)), .fz (.str (mkS (signsL n))), .fz (rowsD ((List.range i).map fun r => lineL n r (1 + n / 8 % m).toNat)), x, y, z])
    (List.range (1 + n % m).toNat) [.fz (.int n), .fz (.int m), .fz (.int (1 + n % m)), .fz (.int (1 + n / 8 % m)), .fz (.str (mkS (signsL n))), .fz (.tup []), .no, .no, .no] ⟨.no, .no, .no, by simp [rowsD]⟩ (by
      rintro i x ρ hi' ⟨s, s', s'', rfl⟩
      obtain ⟨rfl, hin⟩ := range_get hi'
      obtain ⟨y, hy⟩ := hall_line (n := n) .no .no x (.int (1 + n % m)) (.int (1 + n / 8 % m)) .non (1 + n / 8 % m).toNat (by omega) .no (.fz (.int m)) (.fz (rowsD ((List.range x).map fun r => lineL n r (1 + n / 8 % m).toNat))) s''
      refine ⟨_, [.fz (.int n), .fz (.int m), .fz (.int (1 + n % m)), .fz (.int (1 + n / 8 % m)), .fz (.str (mkS (signsL n))), .fz (rowsD ((List.range (x + 1)).map fun r => lineL n r (1 + n / 8 % m).toNat)), .fz (.int x), .fz (.str (mkS (lineL n x (1 + n / 8 % m).toNat))), y], rfl, .inl ?_, ⟨_, _, _, rfl⟩⟩
      unfold b__law_hall_2
      simp [s_empty]
      rw [rng1_ok (by omega) (by omega)]
      simp only [of_some, sbind_ok]
      rw [hy]
      simp [rowsD]
      rw [dAdd_tup (by simp; omega)]
      simp [List.range_succ])
  rw [h1]
  obtain ⟨x, y, z, rfl⟩ := h2
  simp
  rw [dFdiv_ok (by decide) (by decide)]
  simp
  rw [dMod_ok (by decide)]
  simp only [of_some, bind_ok, far_at]
  simp [hallD, hallOf]
theorem hallOf_h {n m : Int} (h0 : 0 ≤ n) (hm : 1 ≤ m) : ((hallOf n m).h : Int) = 1 + n % m := by
  have r1 := Int.emod_nonneg n (show m ≠ 0 by omega)
  unfold Hall.h hallOf
  simp
  omega
theorem hallOf_w {n m : Int} (h0 : 0 ≤ n) (hm : 1 ≤ m) : ((hallOf n m).w : Int) = 1 + n / 8 % m := by
  have r1 := Int.emod_nonneg n (show m ≠ 0 by omega)
  have r3 := Int.emod_nonneg (n / 8) (show m ≠ 0 by omega)
  unfold Hall.w Hall.row hallOf
  rw [List.getD_eq_getElem?_getD, List.getElem?_map, List.getElem?_eq_getElem (by simp; omega)]
  simp [lineL]
  omega
theorem hallOf_ok {n m : Int} (h0 : 0 ≤ n) (hm : 1 ≤ m) (hm8 : m ≤ 8) : (hallOf n m).Ok := by
  have r1 := Int.emod_nonneg n (show m ≠ 0 by omega)
  have r2 := Int.emod_lt_of_pos n (show 0 < m by omega)
  have r3 := Int.emod_nonneg (n / 8) (show m ≠ 0 by omega)
  have r4 := Int.emod_lt_of_pos (n / 8) (show 0 < m by omega)
  have eh := hallOf_h h0 hm
  have ew := hallOf_w h0 hm
  refine ⟨by omega, by omega, by omega, by omega, ?_, ?_, (farN_range n).1, (farN_range n).2⟩
  · intro r hr
    unfold hallOf at hr
    simp only [List.mem_map, List.mem_range] at hr
    obtain ⟨k, hk, rfl⟩ := hr
    simp [lineL]
    omega
  · intro r hr c hc
    unfold hallOf at hr
    simp only [List.mem_map, List.mem_range] at hr
    obtain ⟨k, hk, rfl⟩ := hr
    unfold lineL at hc
    simp only [List.mem_map, List.mem_range] at hc
    obtain ⟨j, hj, rfl⟩ := hc
    exact signN_ok n k j
end Lw

set_option Elab.async false
set_option linter.all false
set_option maxRecDepth 100000
set_option maxHeartbeats 1000000
namespace Lw
open PySem PySem.Spec PyProof.Rows L2 DL
/-! ### equality of encoded things -/
/-- data of the type α, encoded by enc, of depth below n -/
structure Enc {α : Type} [DecidableEq α] (n : Nat) (enc : α → D) : Prop where
  lvl : ∀ a, lv n (enc a) = true
  eq : ∀ a b, eqN n (enc a) (enc b) = decide (a = b)
section
variable {α : Type} [DecidableEq α] {n : Nat} {enc : α → D}
theorem Enc.tup (h : Enc n enc) : Enc (n + 1) (fun xs : List α => D.tup (xs.map enc)) where
  lvl := fun xs => by
    rw [lv_tup, List.all_eq_true]
    intro d hd
    obtain ⟨a, _, rfl⟩ := List.mem_map.mp hd
    exact h.lvl a
  eq := fun xs ys => by
    show eqN (n + 1) (.tup (xs.map enc)) (.tup (ys.map enc)) = _
    rw [eqN_tup, eqL_map enc h.eq]
theorem Enc.lst (h : Enc n enc) : Enc (n + 1) (fun xs : List α => D.lst (xs.map enc)) where
  lvl := fun xs => by
    rw [lv_lst, List.all_eq_true]
    intro d hd
    obtain ⟨a, _, rfl⟩ := List.mem_map.mp hd
    exact h.lvl a
  eq := fun xs ys => by
    show eqN (n + 1) (.lst (xs.map enc)) (.lst (ys.map enc)) = _
    rw [eqN_lst, eqL_map enc h.eq]
theorem Enc.dEq (h : Enc 64 enc) (a b : α) : DL.dEq (enc a) (enc b) = some (.bl (decide (a = b))) := by
  unfold DL.dEq
  rw [h.lvl, h.lvl, h.eq]
  rfl
theorem Enc.dNe (h : Enc 64 enc) (a b : α) : DL.dNe (enc a) (enc b) = some (.bl (!decide (a = b))) := by
  unfold DL.dNe
  rw [h.lvl, h.lvl, h.eq]
  rfl
theorem Enc.inTup (h : Enc 64 enc) (a : α) (xs : List α) : inB (enc a) (.tup (xs.map enc)) = some (decide (a ∈ xs)) := by
  have h1 : (lv 64 (enc a) && (xs.map enc).all (lv 64)) = true := by
    rw [Bool.and_eq_true, List.all_eq_true]
    refine ⟨h.lvl a, fun x hx => ?_⟩
    obtain ⟨d, _, rfl⟩ := List.mem_map.mp hx
    exact h.lvl d
  have e0 : inB (enc a) (.tup (xs.map enc)) = if (lv 64 (enc a) && (xs.map enc).all (lv 64)) = true then some ((xs.map enc).any fun y => eqN 64 y (enc a)) else none := by
    cases enc a <;> rfl
  rw [e0, if_pos h1]
  congr 1
  rw [Bool.eq_iff_iff]
  simp only [List.any_eq_true, List.mem_map, decide_eq_true_eq]
  constructor
  · rintro ⟨x, ⟨d, hd, rfl⟩, e⟩
    rw [h.eq] at e
    have := of_decide_eq_true e
    rw [← this]
    exact hd
  · intro hx
    exact ⟨_, ⟨a, hx, rfl⟩, by rw [h.eq]; simp⟩
theorem Enc.inLst (h : Enc 64 enc) (a : α) (xs : List α) : inB (enc a) (.lst (xs.map enc)) = some (decide (a ∈ xs)) := by
  rw [← h.inTup a xs]
  cases enc a <;> rfl
end
theorem enc_cell (n : Nat) : Enc (n + 1) cellD := ⟨lv_cell n, eqN_cell n⟩
theorem enc_cells (n : Nat) : Enc (n + 2) (fun cs : List Cell => D.tup (cs.map cellD)) := (enc_cell n).tup
theorem enc_cellsL (n : Nat) : Enc (n + 2) (fun cs : List Cell => D.lst (cs.map cellD)) := (enc_cell n).lst
theorem enc_bl (n : Nat) : Enc n D.bl := ⟨lv_bl n, fun a b => by rw [eqN_bl]; cases a <;> cases b <;> rfl⟩
theorem enc_int (n : Nat) : Enc n D.int := ⟨lv_int n, fun a b => by
  rw [eqN_int]
  by_cases h : a = b <;> simp [h]⟩
theorem enc_str (n : Nat) : Enc n (fun l => D.str (mkS l)) := ⟨fun l => lv_str n _, fun a b => by
  rw [eqN_str]
  by_cases h : a = b
  · simp [h]
  · rw [decide_eq_false h]
    exact beq_eq_false_iff_ne.mpr fun z => h (mkS_inj.mp z)⟩
@[simp] theorem dEq_cells (xs ys : List Cell) : dEq (.tup (xs.map cellD)) (.tup (ys.map cellD)) = some (.bl (decide (xs = ys))) := (enc_cells 62).dEq xs ys
@[simp] theorem dNe_cells (xs ys : List Cell) : dNe (.tup (xs.map cellD)) (.tup (ys.map cellD)) = some (.bl (!decide (xs = ys))) := (enc_cells 62).dNe xs ys
@[simp] theorem dEq_cellsL (xs ys : List Cell) : dEq (.lst (xs.map cellD)) (.lst (ys.map cellD)) = some (.bl (decide (xs = ys))) := (enc_cellsL 62).dEq xs ys
@[simp] theorem dNe_cellsL (xs ys : List Cell) : dNe (.lst (xs.map cellD)) (.lst (ys.map cellD)) = some (.bl (!decide (xs = ys))) := (enc_cellsL 62).dNe xs ys
@[simp] theorem dEq_bl (a b : Bool) : dEq (.bl a) (.bl b) = some (.bl (decide (a = b))) := (enc_bl 64).dEq a b
@[simp] theorem dNe_bl (a b : Bool) : dNe (.bl a) (.bl b) = some (.bl (!decide (a = b))) := (enc_bl 64).dNe a b
@[simp] theorem dIn_cells (c : Cell) (cs : List Cell) : dIn (cellD c) (.tup (cs.map cellD)) = some (.bl (decide (c ∈ cs))) := by
  unfold dIn
  rw [in_cells]
  rfl
@[simp] theorem dIn_cellsL (c : Cell) (cs : List Cell) : dIn (cellD c) (.lst (cs.map cellD)) = some (.bl (decide (c ∈ cs))) := by
  unfold dIn
  rw [in_cellsL]
  rfl
@[simp] theorem dNotIn_cells (c : Cell) (cs : List Cell) : dNotIn (cellD c) (.tup (cs.map cellD)) = some (.bl (!decide (c ∈ cs))) := by
  unfold dNotIn
  rw [in_cells]
  rfl
@[simp] theorem dNotIn_cellsL (c : Cell) (cs : List Cell) : dNotIn (cellD c) (.lst (cs.map cellD)) = some (.bl (!decide (c ∈ cs))) := by
  unfold dNotIn
  rw [in_cellsL]
  rfl
@[simp] theorem isi_bool_bl (b : Bool) : dIsi "bool" (.bl b) = some (.bl true) := by
  have : kitB "bool" "bool" = some true := by decide +kernel
  show (kitB "bool" "bool").map D.bl = _
  rw [this]
  rfl
/-! ### the laws' own cells -/
@[simp] theorem e_law_cells {g : Hall} (ok : g.Ok) : m__law_cells [hallD g] = .ok (.lst ((cellsL g).map cellD)) := by
  have hh := ok.h8
  have hw := ok.w8
  simp [m__law_cells, runB, rho0, b__law_cells]
  rw [rng1_nat (by unfold Hall.h at hh; omega)]
  simp only [of_some, sbind_ok]
  obtain ⟨ρ', h1, h2⟩ := forL_ix0 (t := .nm 2) (body := b__law_cells_1)
    (fun (i : Nat) => D.int (i : Int)) (fun i ρ => ∃ s, ρ = [.fz (hallD g), .fz (.lst (((List.range i).flatMap (rowCells g.w)).map cellD)), s, .no]) (List.range g.h) [.fz (hallD g), .fz (.lst []), .no, .no] ⟨.no, rfl⟩ (by
      rintro i x ρ hi ⟨s, rfl⟩
      obtain ⟨rfl, hil⟩ := range_get hi
      refine ⟨_, [.fz (hallD g), .fz (.lst (((List.range (x + 1)).flatMap (rowCells g.w)).map cellD)), .fz (.int x), .no], rfl, .inl ?_, ⟨_, rfl⟩⟩
      unfold b__law_cells_1
      simp [ok.row0, ok.wide]
      rw [rng1_nat (by omega)]
      simp only [of_some, bind_ok]
      rw [compL_all (fun (i : Nat) => D.int (i : Int)) (fun c => cellD ((x : Int), (c : Int))) (List.range g.w) fun c _ => ⟨_, rfl, by simp [cellD]⟩]
      simp
      rw [dAdd_lst (by
        rw [List.length_map, flatMap_len (w := g.w) (fun i => by simp [rowCells])]
        simp
        have : x * g.w ≤ 8 * 8 := Nat.mul_le_mul (by omega) hw
        omega)]
      simp [List.range_succ, List.flatMap_append, List.map_append, rowCells, Function.comp_def])
  unfold Hall.h at h1
  rw [h1]
  obtain ⟨s, rfl⟩ := h2
  simp [cellsL, Hall.h]
theorem cellsL_len (g : Hall) : (cellsL g).length = g.h * g.w := flatMap_len (w := g.w) (fun i => by simp [rowCells]) g.h
theorem Hall.Ok.at_ok {g : Hall} (ok : g.Ok) {c : Cell} (h : g.ins c = true) : g.at c = 35 ∨ g.at c = 46 ∨ g.at c = 111 ∨ g.at c = 120 := by
  obtain ⟨a, b, d, e⟩ := Hall.ins_iff.mp h
  have hl := ok.rowlen a b
  have hm : g.row c.1 ∈ g.rows := by
    unfold Hall.h at b
    unfold Hall.row
    rw [List.getD_eq_getElem?_getD, List.getElem?_eq_getElem (by omega)]
    exact List.getElem_mem _
  refine ok.signs _ hm _ ?_
  unfold Hall.at
  rw [List.getD_eq_getElem?_getD, List.getElem?_eq_getElem (by omega)]
  exact List.getElem_mem _
theorem in_str1 (a : Nat) (l : List Nat) : inB (.str (mkS [a])) (.str (mkS l)) = some (decide (a ∈ l)) := by
  show (match (mkS [a]).cps.toList with
    | [c] => some (decide (c ∈ (mkS l).cps.toList))
    | _ => none) = _
  rw [mkS_cps, mkS_cps]
theorem seen_mem {g : Hall} {a b : Cell} : b ∈ seenL g a ↔ b ∈ floorsL g ∧ seesB g a b = true := by
  unfold seenL
  rw [List.mem_filter]
theorem crossed_self (a : Cell) : crossedL a a = [] := by
  rw [List.eq_nil_iff_forall_not_mem]
  intro c h
  obtain ⟨⟨h1, h2, h3, h4⟩, h5⟩ := mem_crossed.mp h
  have e1 : lo a.1 a.1 = a.1 := by unfold lo; split <;> omega
  have e2 : lo a.2 a.2 = a.2 := by unfold lo; split <;> omega
  have e3 : hi a.1 a.1 = a.1 := by unfold hi; split <;> omega
  have e4 : hi a.2 a.2 = a.2 := by unfold hi; split <;> omega
  have : c = a := by
    obtain ⟨c1, c2⟩ := c
    obtain ⟨a1, a2⟩ := a
    dsimp only at *
    congr 1 <;> omega
  unfold isX at h5
  simp [this] at h5
end Lw

set_option Elab.async false
set_option linter.all false
set_option maxRecDepth 100000
set_option maxHeartbeats 1000000
namespace Lw
open PySem PySem.Spec PyProof.Rows L2 DL
/-! ### cells in their order -/
def ltC (a b : Cell) : Prop := a.1 < b.1 ∨ (a.1 = b.1 ∧ a.2 < b.2)
abbrev Rising (l : List Cell) : Prop := l.Pairwise ltC
theorem ltC_irr (a : Cell) : ¬ ltC a a := by unfold ltC; omega
theorem ltC_tr {a b c : Cell} (h1 : ltC a b) (h2 : ltC b c) : ltC a c := by unfold ltC at *; omega
theorem ltC_asym {a b : Cell} (h1 : ltC a b) (h2 : ltC b a) : False := by unfold ltC at *; omega
theorem Rising.ext : ∀ {l m : List Cell}, Rising l → Rising m → (∀ c, c ∈ l ↔ c ∈ m) → l = m
  | [], [], _, _, _ => rfl
  | [], y :: m, _, _, h => by
    have := (h y).mpr (List.mem_cons_self ..)
    cases this
  | x :: l, [], _, _, h => by
    have := (h x).mp (List.mem_cons_self ..)
    cases this
  | x :: l, y :: m, hl, hm, h => by
    obtain ⟨h1, h2⟩ := List.pairwise_cons.mp hl
    obtain ⟨h3, h4⟩ := List.pairwise_cons.mp hm
    have e : x = y := by
      rcases List.mem_cons.mp ((h x).mp (List.mem_cons_self ..)) with e | e
      · exact e
      · rcases List.mem_cons.mp ((h y).mpr (List.mem_cons_self ..)) with e' | e'
        · exact e'.symm
        · exact (ltC_asym (h1 y e') (h3 x e)).elim
    subst e
    rw [Rising.ext h2 h4 fun c => ?_]
    constructor
    · intro hc
      rcases List.mem_cons.mp ((h c).mp (List.mem_cons_of_mem _ hc)) with e | e
      · subst e
        exact (ltC_irr _ (h1 _ hc)).elim
      · exact e
    · intro hc
      rcases List.mem_cons.mp ((h c).mpr (List.mem_cons_of_mem _ hc)) with e | e
      · subst e
        exact (ltC_irr _ (h3 _ hc)).elim
      · exact e
theorem rising_rows {f : Nat → List Cell} (hf : ∀ i, Rising (f i)) (hr : ∀ i j c d, i < j → c ∈ f i → d ∈ f j → ltC c d) : ∀ n, Rising ((List.range n).flatMap f)
  | 0 => List.Pairwise.nil
  | n + 1 => by
    rw [List.range_succ, List.flatMap_append]
    refine List.pairwise_append.mpr ⟨rising_rows hf hr n, by simpa using hf n, fun a ha b hb => ?_⟩
    obtain ⟨i, hi, h1⟩ := List.mem_flatMap.mp ha
    have hb' : b ∈ f n := by simpa using hb
    exact hr i n a b (List.mem_range.mp hi) h1 hb'
theorem rising_range (r : Int) (k : Int) (n : Nat) : Rising ((List.range n).map fun (i : Nat) => ((r, k + i) : Cell)) := by
  refine List.pairwise_map.mpr ((List.pairwise_lt_range (n := n)).imp fun {a b} h => ?_)
  unfold ltC
  right
  dsimp only
  omega
theorem rowCells_eq (w r : Nat) : rowCells w r = (List.range w).map fun (i : Nat) => (((r : Int), (0 : Int) + i) : Cell) := by
  unfold rowCells
  simp
theorem rising_cells (g : Hall) : Rising (cellsL g) := by
  refine rising_rows (fun i => ?_) (fun i j c d h hc hd => ?_) g.h
  · rw [rowCells_eq]
    exact rising_range _ _ _
  · unfold rowCells at hc hd
    obtain ⟨_, _, rfl⟩ := List.mem_map.mp hc
    obtain ⟨_, _, rfl⟩ := List.mem_map.mp hd
    unfold ltC
    left
    dsimp only
    omega
theorem rising_floors (g : Hall) : Rising (floorsL g) := (rising_cells g).filter _
theorem rising_seen (g : Hall) (c : Cell) : Rising (seenL g c) := (rising_floors g).filter _
theorem rising_crossed (a b : Cell) : Rising (crossedL a b) := by
  refine rising_rows (fun i => (rising_range _ _ _).filter _) (fun i j c d h hc hd => ?_) _
  unfold xRow at hc hd
  obtain ⟨_, _, rfl⟩ := List.mem_map.mp (List.mem_filter.mp hc).1
  obtain ⟨_, _, rfl⟩ := List.mem_map.mp (List.mem_filter.mp hd).1
  unfold ltC
  left
  dsimp only
  omega
theorem Rising.nodup {l : List Cell} (h : Rising l) : l.Nodup := h.imp fun {a b} h e => by
  subst e
  exact ltC_irr _ h
theorem nodup_len {α : Type} [DecidableEq α] : ∀ {l m : List α}, l.Nodup → (∀ x ∈ l, x ∈ m) → l.length ≤ m.length
  | [], _, _, _ => Nat.zero_le _
  | x :: l, m, hn, h => by
    obtain ⟨h1, h2⟩ := List.nodup_cons.mp hn
    have hx : x ∈ m := h x (List.mem_cons_self ..)
    have := nodup_len (m := m.erase x) h2 fun y hy => by
      have : y ≠ x := fun e => h1 (e ▸ hy)
      exact (List.mem_erase_of_ne this).mpr (h y (List.mem_cons_of_mem _ hy))
    rw [List.length_erase_of_mem hx] at this
    have := List.length_pos_of_mem hx
    rw [List.length_cons]
    omega
/-! ### moved on -/
def mv (d c : Cell) : Cell := (c.1 + d.1, c.2 + d.2)
theorem mv_inj {d a b : Cell} : mv d a = mv d b ↔ a = b := by
  unfold mv
  constructor
  · intro h
    obtain ⟨h1, h2⟩ := Prod.mk.inj h
    exact Prod.ext (by omega) (by omega)
  · intro h
    rw [h]
theorem Rising.mv {l : List Cell} (h : Rising l) (d : Cell) : Rising (l.map (mv d)) := List.pairwise_map.mpr (h.imp fun {a b} h => by
  unfold ltC Lw.mv at *
  dsimp only
  omega)
theorem side_mv (d a b : Cell) (y x : Int) : sideN (mv d a) (mv d b) (y + 2 * d.1) (x + 2 * d.2) = sideN a b y x := by
  unfold sideN mv
  dsimp only
  have e1 : b.1 + d.1 - (a.1 + d.1) = b.1 - a.1 := by omega
  have e2 : b.2 + d.2 - (a.2 + d.2) = b.2 - a.2 := by omega
  have e3 : x + 2 * d.2 - 2 * (a.2 + d.2) - 1 = x - 2 * a.2 - 1 := by omega
  have e4 : y + 2 * d.1 - 2 * (a.1 + d.1) - 1 = y - 2 * a.1 - 1 := by omega
  rw [e1, e2, e3, e4]
theorem sides_mv (d a b c : Cell) : sidesL (mv d a) (mv d b) (mv d c) = sidesL a b c := by
  unfold sidesL
  have e1 : 2 * (mv d c).1 = 2 * c.1 + 2 * d.1 := by unfold mv; dsimp only; omega
  have e2 : 2 * (mv d c).2 = 2 * c.2 + 2 * d.2 := by unfold mv; dsimp only; omega
  rw [e1, e2, show 2 * c.1 + 2 * d.1 + 2 = 2 * c.1 + 2 + 2 * d.1 by omega, show 2 * c.2 + 2 * d.2 + 2 = 2 * c.2 + 2 + 2 * d.2 by omega, side_mv, side_mv, side_mv, side_mv]
theorem isX_mv (d a b c : Cell) : isX (mv d a) (mv d b) (mv d c) = isX a b c := by
  unfold isX crossB
  rw [sides_mv]
  simp only [mv_inj]
theorem lo_add (x y d : Int) : lo (x + d) (y + d) = lo x y + d := by unfold lo; split <;> split <;> omega
theorem hi_add (x y d : Int) : hi (x + d) (y + d) = hi x y + d := by unfold hi; split <;> split <;> omega
theorem crossed_mv (d a b : Cell) : crossedL (mv d a) (mv d b) = (crossedL a b).map (mv d) := by
  refine Rising.ext (rising_crossed _ _) ((rising_crossed a b).mv d) fun c => ?_
  rw [mem_crossed, List.mem_map]
  have e1 : (mv d a).1 = a.1 + d.1 := rfl
  have e2 : (mv d a).2 = a.2 + d.2 := rfl
  have e3 : (mv d b).1 = b.1 + d.1 := rfl
  have e4 : (mv d b).2 = b.2 + d.2 := rfl
  rw [e1, e2, e3, e4, lo_add, lo_add, hi_add, hi_add]
  constructor
  · rintro ⟨h1, h2⟩
    have ec : mv d (c.1 - d.1, c.2 - d.2) = c := by
      unfold mv
      exact Prod.ext (by dsimp only; omega) (by dsimp only; omega)
    refine ⟨(c.1 - d.1, c.2 - d.2), mem_crossed.mpr ⟨by dsimp only; omega, ?_⟩, ec⟩
    rw [← isX_mv d, ec]
    exact h2
  · rintro ⟨c', h, rfl⟩
    obtain ⟨h1, h2⟩ := mem_crossed.mp h
    refine ⟨?_, by rw [isX_mv]; exact h2⟩
    show lo a.1 b.1 + d.1 ≤ c'.1 + d.1 ∧ c'.1 + d.1 ≤ hi a.1 b.1 + d.1 ∧ lo a.2 b.2 + d.2 ≤ c'.2 + d.2 ∧ c'.2 + d.2 ≤ hi a.2 b.2 + d.2
    omega
theorem dist2_mv (d a b : Cell) : dist2 (mv d a) (mv d b) = dist2 a b := by
  unfold dist2 mv
  dsimp only
  rw [show a.1 + d.1 - (b.1 + d.1) = a.1 - b.1 by omega, show a.2 + d.2 - (b.2 + d.2) = a.2 - b.2 by omega]
/-- two halls that agree at their cells, the one moved on -/
theorem sees_mv {g g' : Hall} {d : Cell} (hf : g'.far = g.far) (h : ∀ c, g.ins c = true → g'.at (mv d c) = g.at c) {a b : Cell} (ha : g.ins a = true) (hb : g.ins b = true) : seesB g' (mv d a) (mv d b) = seesB g a b := by
  have hfr : ∀ c, g.ins c = true → free g' (mv d c) = free g c := fun c hc => by
    unfold free
    rw [h c hc]
  unfold seesB near
  rw [hfr a ha, hfr b hb, hf, dist2_mv, crossed_mv, List.all_map]
  congr 1
  rw [Bool.eq_iff_iff, List.all_eq_true, List.all_eq_true]
  constructor
  · intro z c hc
    have := z c hc
    simp only [Function.comp] at this
    rwa [hfr c (crossed_ins ha hb hc)] at this
  · intro z c hc
    simp only [Function.comp]
    rw [hfr c (crossed_ins ha hb hc)]
    exact z c hc
end Lw
namespace Lw
open PySem PySem.Spec PyProof.Rows L2 DL
/-! ### slices -/
theorem sIx_in {n d : Nat} {i : Int} (h0 : 0 ≤ i) (h1 : i ≤ n) : HT.sIx n d (some i) = i.toNat := by
  show (if i < 0 then (i + (n : Int)).toNat else min i.toNat n) = _
  rw [if_neg (by omega)]
  omega
theorem cutD_in {α : Type} (enc : α → D) (xs : List α) {i j : Int} (h0 : 0 ≤ i) (h1 : i ≤ xs.length) (h2 : 0 ≤ j) (h3 : j ≤ xs.length) : cutD (xs.map enc) (some i) (some j) = ((xs.drop i.toNat).take (j.toNat - i.toNat)).map enc := by
  rw [cutD_map, sIx_in h0 h1, sIx_in h2 h3]
theorem cutS_mk (l : List Nat) (lo hi : Option Int) : cutS (mkS l) lo hi = mkS ((l.drop (HT.sIx l.length 0 lo)).take (HT.sIx l.length l.length hi - HT.sIx l.length 0 lo)) := by
  unfold cutS
  rw [mkS_len, mkS_cps]
  rfl
theorem dSl_str {l : List Nat} (h : l.length ≤ 1000) (lo hi : Option Int) : dSl (.str (mkS l)) lo hi = some (.str (mkS ((l.drop (HT.sIx l.length 0 lo)).take (HT.sIx l.length l.length hi - HT.sIx l.length 0 lo)))) := by
  show (if (mkS l).length ≤ sizeLine then some (D.str (cutS (mkS l) lo hi)) else none) = _
  rw [mkS_len, if_pos (few h), cutS_mk]
theorem dSl_in {l : List Nat} (h : l.length ≤ 1000) {i j : Int} (h0 : 0 ≤ i) (h1 : i ≤ l.length) (h2 : 0 ≤ j) (h3 : j ≤ l.length) : dSl (.str (mkS l)) (some i) (some j) = some (.str (mkS ((l.drop i.toNat).take (j.toNat - i.toNat)))) := by
  rw [dSl_str h, sIx_in h0 h1, sIx_in h2 h3]
end Lw

set_option Elab.async false
set_option linter.all false
set_option maxRecDepth 100000
set_option maxHeartbeats 1000000
namespace Lw
open PySem PySem.Spec PyProof.Rows L2 DL
/-! ### a changed hall -/
def chg (g : Hall) (c : Cell) (s : Nat) : Hall := ⟨g.rows.set c.1.toNat ((g.row c.1).set c.2.toNat s), g.far⟩
section
variable {g : Hall} {c : Cell} {s : Nat}
theorem chg_h : (chg g c s).h = g.h := by
  unfold chg Hall.h
  simp
theorem chg_row (hc : g.ins c = true) {i : Int} (h0 : 0 ≤ i) : (chg g c s).row i = if i = c.1 then (g.row c.1).set c.2.toNat s else g.row i := by
  obtain ⟨a, b, d, e⟩ := Hall.ins_iff.mp hc
  unfold Hall.row chg
  dsimp only
  rw [List.getD_eq_getElem?_getD]
  by_cases h : i = c.1
  · subst h
    unfold Hall.h at b
    rw [List.getElem?_set_self (by omega), if_pos rfl]
    rfl
  · rw [List.getElem?_set_ne (by omega), if_neg h, List.getD_eq_getElem?_getD]
theorem chg_w (hc : g.ins c = true) : (chg g c s).w = g.w := by
  unfold Hall.w
  rw [chg_row hc (Int.le_refl 0)]
  by_cases h : 0 = c.1
  · rw [if_pos h, List.length_set, ← h]
  · rw [if_neg h]
theorem chg_ins (hc : g.ins c = true) (d : Cell) : (chg g c s).ins d = g.ins d := by
  unfold Hall.ins
  rw [chg_h, chg_w hc]
theorem chg_at (ok : g.Ok) (hc : g.ins c = true) {d : Cell} (hd : g.ins d = true) : (chg g c s).at d = if d = c then s else g.at d := by
  obtain ⟨a1, a2, a3, a4⟩ := Hall.ins_iff.mp hc
  obtain ⟨b1, b2, b3, b4⟩ := Hall.ins_iff.mp hd
  have hl := ok.rowlen a1 a2
  unfold Hall.at
  rw [chg_row hc b1]
  by_cases h : d.1 = c.1
  · rw [if_pos h, List.getD_eq_getElem?_getD]
    by_cases h2 : d.2 = c.2
    · rw [if_pos (Prod.ext h h2), h2, List.getElem?_set_self (by omega)]
      rfl
    · rw [if_neg (fun z => h2 (by rw [z])), List.getElem?_set_ne (by omega), h, List.getD_eq_getElem?_getD]
  · rw [if_neg h, if_neg (fun z => h (by rw [z]))]
theorem chg_ok (ok : g.Ok) (hc : g.ins c = true) (hs : s = 35 ∨ s = 46 ∨ s = 111 ∨ s = 120) : (chg g c s).Ok := by
  obtain ⟨a1, a2, a3, a4⟩ := Hall.ins_iff.mp hc
  have hm : g.row c.1 ∈ g.rows := by
    unfold Hall.h at a2
    unfold Hall.row
    rw [List.getD_eq_getElem?_getD, List.getElem?_eq_getElem (by omega)]
    exact List.getElem_mem _
  refine ⟨by rw [chg_h]; exact ok.h1, by rw [chg_h]; exact ok.h8, by rw [chg_w hc]; exact ok.w1, by rw [chg_w hc]; exact ok.w8, fun r hr => ?_, fun r hr x hx => ?_, ok.far0, ok.far9⟩
  · rw [chg_w hc]
    rcases List.mem_or_eq_of_mem_set hr with h | h
    · exact ok.same r h
    · rw [h, List.length_set]
      exact ok.same _ hm
  · rcases List.mem_or_eq_of_mem_set hr with h | h
    · exact ok.signs r h x hx
    · subst h
      rcases List.mem_or_eq_of_mem_set hx with h | h
      · exact ok.signs _ hm x h
      · rw [h]
        exact hs
theorem take_set {α : Type} (l : List α) (i : Nat) (x : α) (h : i < l.length) : l.take i ++ (x :: l.drop (i + 1)) = l.set i x := by
  rw [List.set_eq_take_append_cons_drop, if_pos h]
theorem sIx_no (n d : Nat) : HT.sIx n d none = d := rfl
@[simp] theorem e_changed (ok : g.Ok) (c : Cell) (s : Nat) : m_changed [hallD g, cellD c, .str (mkS [s])] = if g.ins c = true then .ok (hallD (chg g c s)) else .err "NoCell" := by
  simp only [m_changed, runB, rho0, b_changed]
  simp [e_need_cell ok]
  by_cases hc : g.ins c = true
  · obtain ⟨a1, a2, a3, a4⟩ := Hall.ins_iff.mp hc
    have hl := ok.rowlen a1 a2
    have h8 := ok.h8
    have w8 := ok.w8
    simp [hc]
    rw [show (Tg.tp [4, 5]).asg (cellD c) [Slot.fz (hallD g), Slot.fz (cellD c), Slot.fz (D.str (mkS [s])), Slot.no, Slot.no, Slot.no] = some [Slot.fz (hallD g), Slot.fz (cellD c), Slot.fz (D.str (mkS [s])), Slot.no, Slot.fz (.int c.1), Slot.fz (.int c.2)] from rfl]
    simp [ok.row a1 a2, dSl_str (l := g.row c.1) (by omega)]
    rw [dAdd_str (by simp; omega)]
    simp
    rw [dAdd_str (by simp; omega)]
    simp [rowsD]
    have hr : c.1 < g.rows.length := a2
    have hr8 : g.rows.length ≤ 8 := h8
    rw [dAdd_tup (by simp [cutD_map]; omega)]
    simp
    rw [dAdd_tup (by simp [cutD_map]; omega)]
    simp [cutD_map, sIx_no]
    rw [sIx_in a1 (by omega), sIx_in a3 (by omega), sIx_in (by omega) (by omega), sIx_in (by omega) (by omega)]
    unfold hallD rowsD chg
    simp
    have q1 : (c.1 + 1).toNat = c.1.toNat + 1 := by omega
    have q2 : (c.2 + 1).toNat = c.2.toNat + 1 := by omega
    rw [q1, q2, List.take_of_length_le (i := (g.row c.1).length - (c.2.toNat + 1)) (by simp), List.take_of_length_le (i := g.rows.length - (c.1.toNat + 1)) (by simp), take_set _ _ _ (by simp; omega), take_set _ _ _ (by omega)]
  · simp [hc]
end
theorem free_iff {g : Hall} {c : Cell} : free g c = true ↔ g.at c ≠ 35 ∧ g.at c ≠ 120 := by
  unfold free
  simp
/-- more that is free, as far or farther: more is seen -/
theorem sees_mono {g g' : Hall} (hi : ∀ c, g.ins c = true → free g c = true → free g' c = true) (hn : ∀ a b, near g a b = true → near g' a b = true) {a b : Cell} (ha : g.ins a = true) (hb : g.ins b = true) (h : seesB g a b = true) : seesB g' a b = true := by
  unfold seesB at *
  simp only [Bool.and_eq_true, List.all_eq_true] at *
  obtain ⟨⟨⟨h1, h2⟩, h3⟩, h4⟩ := h
  exact ⟨⟨⟨hi a ha h1, hi b hb h2⟩, hn a b h3⟩, fun c hc => hi c (crossed_ins ha hb hc) (h4 c hc)⟩
theorem enc_bls (n : Nat) : Enc (n + 1) (fun l : List Bool => D.lst (l.map D.bl)) := (enc_bl n).lst
theorem mv_back (a b : Cell) : mv a (b.1 - a.1, b.2 - a.2) = b := by
  unfold mv
  exact Prod.ext (by dsimp only; omega) (by dsimp only; omega)
theorem mv_zero (a : Cell) : mv a (0, 0) = a := by
  unfold mv
  exact Prod.ext (by dsimp only; omega) (by dsimp only; omega)
theorem sq_nonneg (x : Int) : 0 ≤ x * x := by
  rcases Int.le_total 0 x with z | z
  · exact Int.mul_nonneg z z
  · exact Int.mul_nonneg_of_nonpos_of_nonpos z z
theorem sq_lt3 {x : Int} (h : x * x < 3) : x = -1 ∨ x = 0 ∨ x = 1 := by
  have h1 : x < 2 := Int.not_le.mp fun z => by
    have := Int.mul_le_mul z z (by decide) (by omega)
    omega
  have h2 : -2 < x := Int.not_le.mp fun z => by
    have z' : 2 ≤ -x := by omega
    have := Int.mul_le_mul z' z' (by decide) (by omega)
    rw [Int.neg_mul_neg] at this
    omega
  omega
theorem crossed_near {a b : Cell} (h : dist2 a b < 3) : crossedL a b = [] := by
  unfold dist2 at h
  have p1 := sq_nonneg (a.1 - b.1)
  have p2 := sq_nonneg (a.2 - b.2)
  have h1 : b.1 - a.1 = -1 ∨ b.1 - a.1 = 0 ∨ b.1 - a.1 = 1 := by
    have := sq_lt3 (x := a.1 - b.1) (by omega)
    omega
  have h2 : b.2 - a.2 = -1 ∨ b.2 - a.2 = 0 ∨ b.2 - a.2 = 1 := by
    have := sq_lt3 (x := a.2 - b.2) (by omega)
    omega
  have e : crossedL a b = (crossedL (0, 0) (b.1 - a.1, b.2 - a.2)).map (mv a) := by
    rw [← crossed_mv, mv_back, mv_zero]
  rw [e, List.map_eq_nil_iff]
  rcases h1 with h1 | h1 | h1 <;> rcases h2 with h2 | h2 | h2 <;> rw [h1, h2] <;> decide +kernel
theorem crossed_row {a b : Cell} (h : a.1 = b.1) : crossedL a b = (List.range (hi a.2 b.2 - (lo a.2 b.2 + 1)).toNat).map fun (k : Nat) => ((a.1, lo a.2 b.2 + 1 + k) : Cell) := by
  refine Rising.ext (rising_crossed a b) (rising_range _ _ _) fun c => ?_
  rw [mem_crossed]
  simp only [List.mem_map, List.mem_range]
  have e1 : lo a.1 b.1 = a.1 := by rw [← h]; unfold lo; split <;> omega
  have e2 : hi a.1 b.1 = a.1 := by rw [← h]; unfold hi; split <;> omega
  rw [e1, e2]
  constructor
  · rintro ⟨⟨h1, h2, h3, h4⟩, h5⟩
    unfold isX at h5
    simp only [Bool.and_eq_true, Bool.not_eq_true', Bool.or_eq_false_iff, decide_eq_false_iff_not] at h5
    obtain ⟨⟨n1, n2⟩, _⟩ := h5
    have q1 : c.2 ≠ a.2 := fun z => n1 (Prod.ext (by omega) z)
    have q2 : c.2 ≠ b.2 := fun z => n2 (Prod.ext (by omega) z)
    have := @lo_or a.2 b.2
    have := @hi_or a.2 b.2
    refine ⟨(c.2 - (lo a.2 b.2 + 1)).toNat, by omega, Prod.ext (by dsimp only; omega) (by dsimp only; omega)⟩
  · rintro ⟨k, hk, rfl⟩
    have l1 := @lo_le a.2 b.2
    have l2 := @le_hi a.2 b.2
    refine ⟨by dsimp only; omega, ?_⟩
    unfold isX
    have n1 : ¬ ((a.1, lo a.2 b.2 + 1 + (k : Int)) : Cell) = a := fun z => by
      have := congrArg Prod.snd z
      dsimp only at this
      have := @lo_or a.2 b.2
      have := @hi_or a.2 b.2
      omega
    have n2 : ¬ ((a.1, lo a.2 b.2 + 1 + (k : Int)) : Cell) = b := fun z => by
      have := congrArg Prod.snd z
      dsimp only at this
      have := @lo_or a.2 b.2
      have := @hi_or a.2 b.2
      omega
    rw [decide_eq_false n1, decide_eq_false n2]
    simp only [Bool.or_self, Bool.not_false, Bool.true_and]
    have hne : a.2 ≠ b.2 := fun z => by
      rw [z] at hk
      have e1 : lo b.2 b.2 = b.2 := by unfold lo; split <;> omega
      have e2 : hi b.2 b.2 = b.2 := by unfold hi; split <;> omega
      rw [e1, e2] at hk
      omega
    have s1 : ∀ x, sideN a b (2 * a.1) x = 2 * (b.2 - a.2) := fun x => by
      unfold sideN
      rw [← h, show a.1 - a.1 = 0 by omega, show 2 * a.1 - 2 * a.1 - 1 = -1 by omega]
      omega
    have s2 : ∀ x, sideN a b (2 * a.1 + 2) x = -(2 * (b.2 - a.2)) := fun x => by
      unfold sideN
      rw [← h, show a.1 - a.1 = 0 by omega, show 2 * a.1 + 2 - 2 * a.1 - 1 = 1 by omega]
      omega
    unfold crossB sidesL
    simp only [s1, s2, List.any_cons, List.any_nil]
    rw [Bool.and_eq_true]
    simp only [Bool.or_eq_true, decide_eq_true_eq]
    omega
@[simp] theorem e_rows2 (g : Hall) (ρ : Rho) (i j : Nat) : (Tg.tp [i, j]).asg (hallD g) ρ = some ((ρ.set i (.fz (rowsD g.rows))).set j (.fz (.int g.far))) := rfl
@[simp] theorem e_cell2 (c : Cell) (ρ : Rho) (i j : Nat) : (Tg.tp [i, j]).asg (cellD c) ρ = some ((ρ.set i (.fz (.int c.1))).set j (.fz (.int c.2))) := rfl
@[simp] theorem rows_len (g : Hall) : g.rows.length = g.h := rfl
@[simp] theorem in_t2 (a b c : Nat) : dIn (.str (mkS [a])) (.tup [.str (mkS [b]), .str (mkS [c])]) = some (.bl (a == b || a == c)) := by
  have : inB (.str (mkS [a])) (.tup [.str (mkS [b]), .str (mkS [c])]) = inB (.str (mkS [a])) (.gtup [.str (mkS [b]), .str (mkS [c])]) := rfl
  unfold dIn
  rw [this, in_g2]
  rfl
@[simp] theorem dNe_nilL (xs : List Cell) : dNe (.lst (xs.map cellD)) (.lst []) = some (.bl (!decide (xs = []))) := by
  have := dNe_cellsL xs []
  simpa using this
@[simp] theorem dEq_nilL (xs : List Cell) : dEq (.lst (xs.map cellD)) (.lst []) = some (.bl (decide (xs = []))) := by
  have := dEq_cellsL xs []
  simpa using this
@[simp] theorem dNe_nilT (xs : List Cell) : dNe (.tup (xs.map cellD)) (.tup []) = some (.bl (!decide (xs = []))) := by
  have := dNe_cells xs []
  simpa using this
@[simp] theorem dEq_nilT (xs : List Cell) : dEq (.tup (xs.map cellD)) (.tup []) = some (.bl (decide (xs = []))) := by
  have := dEq_cells xs []
  simpa using this
theorem sees_self {g : Hall} (ok : g.Ok) (a : Cell) : seesB g a a = free g a := by
  have h0 := ok.far0
  unfold seesB near
  rw [crossed_self]
  have : dist2 a a = 0 := by unfold dist2; simp
  rw [this]
  cases free g a <;> simp [h0]
@[simp] theorem Hall.Ok.hpos {g : Hall} (ok : g.Ok) : 0 < g.h := ok.h1
@[simp] theorem Hall.Ok.wpos {g : Hall} (ok : g.Ok) : 0 < g.w := ok.w1
@[simp] theorem dEq_cell (a b : Cell) : dEq (cellD a) (cellD b) = some (.bl (decide (a = b))) := (enc_cell 63).dEq a b
@[simp] theorem dNe_cell (a b : Cell) : dNe (cellD a) (cellD b) = some (.bl (!decide (a = b))) := (enc_cell 63).dNe a b
@[simp] theorem dNe_tnil : dNe (.tup []) (.tup []) = some (.bl false) := rfl
@[simp] theorem dEq_tnil : dEq (.tup []) (.tup []) = some (.bl true) := rfl
@[simp] theorem dNe_lnil : dNe (.lst []) (.lst []) = some (.bl false) := rfl
@[simp] theorem dEq_lnil : dEq (.lst []) (.lst []) = some (.bl true) := rfl
@[simp] theorem dMod_s {i j : Int} (h1 : 0 < j) : dMod (.int i) (.int j) = some (.int (i % j)) := dMod_ok h1
@[simp] theorem dFdiv_s {i j : Int} (h1 : 0 < j) (h2 : j < 1073741824) : dFdiv (.int i) (.int j) = some (.int (i / j)) := dFdiv_ok h1 h2
theorem cell_fold (i j : Int) : D.tup [.int i, .int j] = cellD (i, j) := rfl
end Lw

set_option Elab.async false
set_option linter.all false
set_option maxRecDepth 100000
set_option maxHeartbeats 1000000
namespace Lw
open PySem PySem.Spec PyProof.Rows L2 DL
/-! ### dicts of cells -/
theorem tupP_cell : tupP = cellD := rfl
def dicC {α : Type} (enc : α → D) (kvs : List (Cell × α)) : D := .dic (kvs.map fun p => (keyP p.1, enc p.2))
theorem keyP_inj {a b : Cell} : keyP a = keyP b ↔ a = b := by
  unfold keyP
  constructor
  · intro h
    simp at h
    exact Prod.ext h.1 h.2
  · intro h
    rw [h]
@[simp] theorem keyOf_cell (c : Cell) : keyOf [.int c.1, .int c.2] = some (keyP c) := rfl
@[simp] theorem keyD_cell (c : Cell) : keyD (cellD c) = some (keyP c) := rfl
theorem valD_map {α : Type} {kvs : List (Cell × α)} {enc : α → D} {c : Cell} : valD (kvs.map fun p => (keyP p.1, enc p.2)) (keyP c) = ((kvs.find? fun p => decide (p.1 = c)).map fun p => enc p.2) := by
  unfold valD
  induction kvs with
  | nil => rfl
  | cons p r ih =>
    by_cases h : p.1 = c
    · rw [List.map_cons, List.find?_cons_of_pos (by simp [keyP_inj, h]), List.find?_cons_of_pos (by simp [h])]
      rfl
    · rw [List.map_cons, List.find?_cons_of_neg (by simp [keyP_inj, h]), List.find?_cons_of_neg (by simp [h])]
      exact ih
theorem dIx_dicC {α : Type} (enc : α → D) (kvs : List (Cell × α)) (c : Cell) : dIx (dicC enc kvs) (cellD c) = (kvs.find? fun p => decide (p.1 = c)).map fun p => enc p.2 := by
  show (keyOf [.int c.1, .int c.2]).bind (fun k => valD (kvs.map fun p => (keyP p.1, enc p.2)) k) = _
  rw [keyOf_cell, Option.bind_some, valD_map]
theorem inB_dicC {α : Type} (enc : α → D) (kvs : List (Cell × α)) (c : Cell) : inB (cellD c) (dicC enc kvs) = some (decide (c ∈ kvs.map (·.1))) := by
  show (keyOf [.int c.1, .int c.2]).map (fun k => (valD (kvs.map fun p => (keyP p.1, enc p.2)) k).isSome) = _
  rw [keyOf_cell, Option.map_some, valD_map]
  congr 1
  rw [Bool.eq_iff_iff]
  simp only [Option.isSome_map, List.find?_isSome, decide_eq_true_eq, List.mem_map]
theorem putD_dicC {α : Type} (enc : α → D) (kvs : List (Cell × α)) (c : Cell) (a : α) : putD (kvs.map fun p => (keyP p.1, enc p.2)) (keyP c) (enc a) = (if c ∈ kvs.map (·.1) then kvs.map (fun p => if p.1 = c then (p.1, a) else p) else kvs ++ [(c, a)]).map fun p => (keyP p.1, enc p.2) := by
  unfold putD
  have e : ((kvs.map fun p => (keyP p.1, enc p.2)).any fun kv => decide (kv.1 = keyP c)) = decide (c ∈ kvs.map (·.1)) := by
    rw [Bool.eq_iff_iff, List.any_map, List.any_eq_true]
    simp only [Function.comp, decide_eq_true_eq, keyP_inj, List.mem_map]
  rw [e]
  by_cases h : c ∈ kvs.map (·.1)
  · rw [if_pos (decide_eq_true h), if_pos h, List.map_map, List.map_map]
    refine List.map_congr_left fun p _ => ?_
    simp only [Function.comp, keyP_inj]
    by_cases q : p.1 = c <;> simp [q]
  · rw [if_neg (by simpa using h), if_neg h]
    simp
theorem keysP_dicC {α : Type} (enc : α → D) (kvs : List (Cell × α)) : keysP (kvs.map fun p => (keyP p.1, enc p.2)) = some (kvs.map (·.1)) := by
  induction kvs with
  | nil => rfl
  | cons p r ih =>
    rw [List.map_cons, List.map_cons]
    unfold keysP
    rw [ih]
    rfl
theorem mergeD_new {α : Type} (enc : α → D) : ∀ (kvs acc : List (Cell × α)), ((acc ++ kvs).map (·.1)).Nodup → mergeD (acc.map fun p => (keyP p.1, enc p.2)) (kvs.map fun p => (keyP p.1, enc p.2)) = (acc ++ kvs).map fun p => (keyP p.1, enc p.2)
  | [], acc, _ => by
    rw [List.append_nil]
    rfl
  | p :: kvs, acc, h => by
    show mergeD (putD (acc.map fun p => (keyP p.1, enc p.2)) (keyP p.1) (enc p.2)) (kvs.map fun p => (keyP p.1, enc p.2)) = _
    have hn : ¬ p.1 ∈ acc.map (·.1) := by
      rw [List.map_append, List.nodup_append] at h
      intro z
      exact h.2.2 p.1 z p.1 (by simp) rfl
    rw [putD_dicC, if_neg hn, mergeD_new enc kvs (acc ++ [p]) (by rw [List.append_assoc]; exact h), List.append_assoc]
    rfl
theorem pairsKV_map {α : Type} (enc : α → D) : ∀ (kvs : List (Cell × α)), pairsKV (kvs.map fun p => D.tup [cellD p.1, enc p.2]) = some (kvs.map fun p => (keyP p.1, enc p.2))
  | [] => rfl
  | p :: r => by
    rw [List.map_cons]
    unfold pairsKV
    rw [pairsKV_map enc r]
    rfl
theorem dDict_cells {α : Type} (enc : α → D) (kvs : List (Cell × α)) (h : (kvs.map (·.1)).Nodup) : dDict [.lst (kvs.map fun p => D.tup [cellD p.1, enc p.2])] = some (dicC enc kvs) := by
  show (pairsKV _).map _ = _
  rw [pairsKV_map]
  show some (D.dic (mergeD [] _)) = _
  have := mergeD_new enc kvs [] (by simpa using h)
  rw [List.map_nil, List.nil_append] at this
  rw [this]
  rfl
/-! ### sorted cells -/
theorem sortP_rising {l : List Cell} (h : l.Nodup) : Rising (sortP l) := by
  have h1 := sortB_sorted leP_tot leP_tr l
  have h2 : (sortP l).Nodup := (sortB_perm leP l).nodup_iff.mpr h
  refine (List.pairwise_and_iff.mpr ⟨h1, h2⟩).imp fun {a b} z => ?_
  obtain ⟨z1, z2⟩ := z
  rw [leP_iff] at z1
  unfold ltC
  rcases z1 with z | ⟨z, z'⟩
  · exact .inl z
  · refine .inr ⟨z, ?_⟩
    rcases Int.lt_or_eq_of_le z' with q | q
    · exact q
    · exact (z2 (Prod.ext z q)).elim
theorem mem_sortP {l : List Cell} {c : Cell} : c ∈ sortP l ↔ c ∈ l := (sortB_perm leP l).mem_iff
theorem sortP_eq {l m : List Cell} (h : l.Nodup) (hm : Rising m) (e : ∀ c, c ∈ l ↔ c ∈ m) : sortP l = m := Rising.ext (sortP_rising h) hm fun c => by rw [mem_sortP, e]
theorem sortP_id {l : List Cell} (h : Rising l) : sortP l = l := sortP_eq h.nodup h fun _ => Iff.rfl
theorem dSorted_cells (l : List Cell) : dSorted [.lst (l.map cellD)] = some (.lst ((sortP l).map cellD)) := by
  cases l with
  | nil => rfl
  | cons c r =>
    show (match intsOf ((c :: r).map cellD) with
      | some ns => some (D.lst ((sortI ns).map .int))
      | none => (pairsOf ((c :: r).map cellD)).map fun ps => .lst ((sortP ps).map tupP)) = _
    have e : intsOf ((c :: r).map cellD) = none := rfl
    rw [e, ← tupP_cell, pairsOf_map]
    rfl
/-! ### what lookers see -/
def viewD (fs : List Cell) (f : Cell → List Cell) : D := dicC (fun cs : List Cell => D.tup (cs.map cellD)) (fs.map fun c => (c, f c))
theorem view_at {fs : List Cell} {f : Cell → List Cell} {c : Cell} (h : c ∈ fs) : dIx (viewD fs f) (cellD c) = some (.tup ((f c).map cellD)) := by
  unfold viewD
  rw [dIx_dicC]
  have : (fs.map fun c => (c, f c)).find? (fun p => decide (p.1 = c)) = some (c, f c) := by
    induction fs with
    | nil => cases h
    | cons d r ih =>
      by_cases e : d = c
      · subst e
        rw [List.map_cons, List.find?_cons_of_pos (by simp)]
      · rw [List.map_cons, List.find?_cons_of_neg (by simp [e])]
        rcases List.mem_cons.mp h with z | z
        · exact (e z.symm).elim
        · exact ih z
  rw [this]
  rfl
@[simp] theorem e_views {g : Hall} (ok : g.Ok) : m_views [hallD g] = .ok (viewD (floorsL g) (seenL g)) := by
  simp [m_views, runB, rho0, b_views, ok]
  rw [compL_all cellD (fun c => D.tup [cellD c, .tup ((seenL g c).map cellD)]) (floorsL g) (fun c hc => ⟨_, rfl, by simp [ok, (mem_floors.mp hc).1]⟩)]
  simp
  have := dDict_cells (fun cs : List Cell => D.tup (cs.map cellD)) ((floorsL g).map fun c => (c, seenL g c)) (by simpa [Function.comp_def] using (rising_floors g).nodup)
  rw [List.map_map] at this
  have e : ((fun p : Cell × List Cell => D.tup [cellD p.1, D.tup (p.2.map cellD)]) ∘ fun c => (c, seenL g c)) = fun c => D.tup [cellD c, .tup ((seenL g c).map cellD)] := rfl
  rw [e] at this
  rw [this]
  rfl
def addC (ks : List Cell) (c : Cell) : List Cell := if c ∈ ks then ks else ks ++ [c]
def keysD (ks : List Cell) : D := dicC (fun b : Bool => D.bl b) (ks.map fun c => (c, true))
theorem sPut_keys {i : Nat} {sk sv : Rho → Res D} {ρ : Rho} {ks : List Cell} {c : Cell} (h : ρ[i]? = some (.ow (keysD ks))) (e1 : sk ρ = .ok (cellD c)) (e2 : sv ρ = .ok (.bl true)) (hl : ks.length < 1000) : sPut i sk sv ρ = .nx (ρ.set i (.ow (keysD (addC ks c)))) := by
  unfold sPut
  rw [e2]
  simp only [sbind_ok]
  rw [h]
  show (sBind (sk ρ) fun k => match keyD k with
    | some key => if ((ks.map fun c => (c, true)).map fun p => (keyP p.1, D.bl p.2)).length < sizeLine then SR.nx (ρ.set i (.ow (.dic (putD ((ks.map fun c => (c, true)).map fun p => (keyP p.1, D.bl p.2)) key (.bl true))))) else .stuck
    | none => .stuck) = _
  rw [e1]
  simp only [sbind_ok, keyD_cell]
  rw [if_pos (by simp; exact Nat.lt_of_lt_of_le hl (by decide))]
  rw [putD_dicC (fun b : Bool => D.bl b) (ks.map fun c => (c, true)) c true]
  congr 3
  unfold keysD dicC addC
  congr 1
  by_cases q : c ∈ ks
  · have : c ∈ (ks.map fun c => (c, true)).map (·.1) := by simpa [Function.comp_def] using q
    rw [if_pos this, if_pos q]
    congr 1
    rw [List.map_map]
    refine List.map_congr_left fun d _ => ?_
    by_cases z : d = c <;> simp [z]
  · have : ¬ c ∈ (ks.map fun c => (c, true)).map (·.1) := by simpa [Function.comp_def] using q
    rw [if_neg this, if_neg q]
    simp
theorem addC_nodup {ks : List Cell} {c : Cell} (h : ks.Nodup) : (addC ks c).Nodup := by
  unfold addC
  split
  · exact h
  · next q =>
    rw [List.nodup_append]
    refine ⟨h, List.pairwise_singleton _ _, fun a ha b hb => ?_⟩
    have := List.mem_singleton.mp hb
    subst this
    intro z
    subst z
    exact q ha
theorem mem_addC {ks : List Cell} {c d : Cell} : d ∈ addC ks c ↔ d ∈ ks ∨ d = c := by
  unfold addC
  split
  · next q =>
    constructor
    · exact .inl
    · rintro (z | z)
      · exact z
      · rw [z]
        exact q
  · simp
theorem addAll_spec : ∀ (cs ks : List Cell), ks.Nodup → (cs.foldl addC ks).Nodup ∧ ∀ d, d ∈ cs.foldl addC ks ↔ d ∈ ks ∨ d ∈ cs
  | [], ks, h => ⟨h, fun d => by simp⟩
  | c :: cs, ks, h => by
    obtain ⟨h1, h2⟩ := addAll_spec cs (addC ks c) (addC_nodup h)
    refine ⟨h1, fun d => ?_⟩
    rw [List.foldl_cons, h2, mem_addC, List.mem_cons]
    constructor
    · rintro ((z | z) | z)
      · exact .inl z
      · exact .inr (.inl z)
      · exact .inr (.inr z)
    · rintro (z | z | z)
      · exact .inl (.inl z)
      · exact .inl (.inr z)
      · exact .inr z
section
variable {fs : List Cell} {f : Cell → List Cell} {U : List Cell}
theorem cov_inner (hU : U.length < 900) (v : D) (ls : D) (l : Cell) (cs : List Cell) (ks : List Cell) (hk : ks.Nodup) (hkU : ∀ c ∈ ks, c ∈ U) (hc : ∀ c ∈ cs, c ∈ U) (x : DL.Slot) :
    ∃ y, forL (.nm 4) b_covered_by_1 (cs.map cellD) [.fz v, .fz ls, .ow (keysD ks), .fz (cellD l), x] = .nx [.fz v, .fz ls, .ow (keysD (cs.foldl addC ks)), .fz (cellD l), y] := by
  induction cs generalizing ks x with
  | nil => exact ⟨x, rfl⟩
  | cons c cs ih =>
    have hU1 : (addC ks c).length < 1000 := by
      have := nodup_len (addC_nodup (c := c) hk) (m := U) fun d hd => by
        rcases mem_addC.mp hd with z | z
        · exact hkU d z
        · rw [z]
          exact hc c (List.mem_cons_self ..)
      omega
    have hl : ks.length < 1000 := by
      have := nodup_len hk (m := U) hkU
      omega
    have e : b_covered_by_1 [.fz v, .fz ls, .ow (keysD ks), .fz (cellD l), .fz (cellD c)] = .nx [.fz v, .fz ls, .ow (keysD (addC ks c)), .fz (cellD l), .fz (cellD c)] := by
      unfold b_covered_by_1
      rw [sPut_keys (ks := ks) (c := c) rfl (by simp) (by simp) hl]
      simp
    obtain ⟨y, hy⟩ := ih (addC ks c) (addC_nodup hk) (fun d hd => by
      rcases mem_addC.mp hd with z | z
      · exact hkU d z
      · rw [z]
        exact hc c (List.mem_cons_self ..)) (fun d hd => hc d (List.mem_cons_of_mem _ hd)) (.fz (cellD c))
    refine ⟨y, ?_⟩
    rw [List.map_cons]
    unfold forL
    simp only [asg_nm, List.set_cons_succ, List.set_cons_zero]
    rw [e]
    exact hy
/-- sorted, once each: what the lookers see -/
theorem e_covered_gen (hU : U.length < 900) (hf : ∀ l ∈ fs, ∀ c ∈ f l, c ∈ U) (ls : List Cell) (hl : ∀ l ∈ ls, l ∈ fs) :
    ∃ out, m_covered_by [viewD fs f, .tup (ls.map cellD)] = .ok (.tup (out.map cellD)) ∧ Rising out ∧ ∀ c, c ∈ out ↔ ∃ l ∈ ls, c ∈ f l := by
  have key : ∀ (ms ks : List Cell) (x3 x4 : DL.Slot), (∀ l ∈ ms, l ∈ fs) → ks.Nodup → (∀ c ∈ ks, c ∈ U) → ∃ ks' y3 y4, forL (.nm 3) b_covered_by_2 (ms.map cellD) [.fz (viewD fs f), .fz (.tup (ls.map cellD)), .ow (keysD ks), x3, x4] = .nx [.fz (viewD fs f), .fz (.tup (ls.map cellD)), .ow (keysD ks'), y3, y4] ∧
      ks'.Nodup ∧ ∀ c, c ∈ ks' ↔ c ∈ ks ∨ ∃ l ∈ ms, c ∈ f l := by
    intro ms
    induction ms with
    | nil => exact fun ks x3 x4 _ hk _ => ⟨ks, x3, x4, rfl, hk, fun c => by simp⟩
    | cons m ms ih =>
      intro ks x3 x4 hm hk hkU
      have hmf := hm m (List.mem_cons_self ..)
      obtain ⟨y, hy⟩ := cov_inner hU (viewD fs f) (.tup (ls.map cellD)) m (f m) ks hk hkU (hf m hmf) x4
      obtain ⟨a1, a2⟩ := addAll_spec (f m) ks hk
      obtain ⟨ks', y3, y4, h1, h2, h3⟩ := ih ((f m).foldl addC ks) (.fz (cellD m)) y (fun l hl' => hm l (List.mem_cons_of_mem _ hl')) a1 (fun c hc => by
        rcases (a2 c).mp hc with z | z
        · exact hkU c z
        · exact hf m hmf c z)
      refine ⟨ks', y3, y4, ?_, h2, fun c => ?_⟩
      · rw [List.map_cons]
        unfold forL
        simp only [asg_nm, List.set_cons_succ, List.set_cons_zero]
        have e : b_covered_by_2 [.fz (viewD fs f), .fz (.tup (ls.map cellD)), .ow (keysD ks), .fz (cellD m), x4] = .nx [.fz (viewD fs f), .fz (.tup (ls.map cellD)), .ow (keysD ((f m).foldl addC ks)), .fz (cellD m), y] := by
          unfold b_covered_by_2
          simp [view_at hmf, hy]
        rw [e]
        exact h1
      · rw [h3, a2]
        simp only [List.mem_cons]
        constructor
        · rintro ((z | z) | ⟨l, z1, z2⟩)
          · exact .inl z
          · exact .inr ⟨m, .inl rfl, z⟩
          · exact .inr ⟨l, .inr z1, z2⟩
        · rintro (z | ⟨l, rfl | z1, z2⟩)
          · exact .inl (.inl z)
          · exact .inl (.inr z2)
          · exact .inr ⟨l, z1, z2⟩
  obtain ⟨ks', y3, y4, h1, h2, h3⟩ := key ls [] .no .no hl List.nodup_nil (fun c hc => by cases hc)
  refine ⟨sortP ks', ?_, sortP_rising h2, fun c => ?_⟩
  · simp only [m_covered_by, runB, rho0, b_covered_by]
    simp
    rw [show D.dic [] = keysD [] from rfl, h1]
    simp
    rw [show dSort [keysD ks'] = some (.lst ((sortP ks').map cellD)) by
      unfold keysD dicC
      rw [dSort_dic, keysP_dicC]
      simp [Function.comp_def, tupP_cell]]
    simp
  · rw [mem_sortP, h3]
    simp
end
/-- what lookers that stand on the floor see -/
def coverL (g : Hall) (ls : List Cell) : List Cell := (floorsL g).filter fun c => ls.any fun l => seesB g l c
theorem floors_len (g : Hall) (ok : g.Ok) : (floorsL g).length < 900 := by
  have a1 : (floorsL g).length ≤ (cellsL g).length := List.length_filter_le _ _
  have a2 := cellsL_len g
  have : g.h * g.w ≤ 8 * 8 := Nat.mul_le_mul ok.h8 ok.w8
  omega
theorem mem_cover {g : Hall} {ls : List Cell} {c : Cell} : c ∈ coverL g ls ↔ c ∈ floorsL g ∧ ∃ l ∈ ls, seesB g l c = true := by
  unfold coverL
  rw [List.mem_filter, List.any_eq_true]
theorem rising_cover (g : Hall) (ls : List Cell) : Rising (coverL g ls) := (rising_floors g).filter _
theorem e_covered_by {g : Hall} (ok : g.Ok) {ls : List Cell} (hl : ∀ l ∈ ls, l ∈ floorsL g) : m_covered_by [viewD (floorsL g) (seenL g), .tup (ls.map cellD)] = .ok (.tup ((coverL g ls).map cellD)) := by
  obtain ⟨out, h1, h2, h3⟩ := e_covered_gen (U := floorsL g) (floors_len g ok) (fun l _ c hc => (seen_mem.mp hc).1) ls hl
  have : out = coverL g ls := Rising.ext h2 (rising_cover g ls) fun c => by
    rw [h3, mem_cover]
    constructor
    · rintro ⟨l, z1, z2⟩
      obtain ⟨z3, z4⟩ := seen_mem.mp z2
      exact ⟨z3, l, z1, z4⟩
    · rintro ⟨z1, l, z2, z3⟩
      exact ⟨l, z2, seen_mem.mpr ⟨z1, z3⟩⟩
  rw [h1, this]
theorem e_covered {g : Hall} (ok : g.Ok) {ls : List Cell} (hl : ∀ l ∈ ls, l ∈ floorsL g) : m_covered [hallD g, .tup (ls.map cellD)] = .ok (.tup ((coverL g ls).map cellD)) := by
  simp [m_covered, runB, rho0, b_covered, ok, e_covered_by ok hl]
def withoutL (ls : List Cell) (one : Cell) : List Cell := ls.filter fun c => !decide (c = one)
@[simp] theorem e_without (ls : List Cell) (one : Cell) : m_without [.tup (ls.map cellD), cellD one] = .ok (.tup ((withoutL ls one).map cellD)) := by
  simp [m_without, runB, rho0, b_without]
  rw [compL_map cellD (fun c => !decide (c = one)) cellD ls (fun c hc => ⟨_, rfl, by simp, fun _ => by simp⟩)]
  simp [withoutL]
theorem mem_without {ls : List Cell} {one c : Cell} : c ∈ withoutL ls one ↔ c ∈ ls ∧ c ≠ one := by
  unfold withoutL
  simp
def needlessL (g : Hall) (ls : List Cell) : List Cell := ls.filter fun c => decide (coverL g (withoutL ls c) = coverL g ls)
theorem e_needless {g : Hall} (ok : g.Ok) {ls : List Cell} (hl : ∀ l ∈ ls, l ∈ floorsL g) : m_needless [hallD g, .tup (ls.map cellD)] = .ok (.tup ((needlessL g ls).map cellD)) := by
  simp [m_needless, runB, rho0, b_needless, ok, e_covered_by ok hl]
  rw [compL_map cellD (fun c => decide (coverL g (withoutL ls c) = coverL g ls)) cellD ls (fun c hc => ⟨_, rfl, by
    simp [e_covered_by ok (ls := withoutL ls c) fun l h => hl l (mem_without.mp h).1], fun _ => by simp⟩)]
  simp [needlessL]
end Lw

set_option Elab.async false
set_option linter.all false
set_option maxRecDepth 100000
set_option maxHeartbeats 1000000
namespace Lw
open PySem PySem.Spec PyProof.Rows L2 DL
/-! ### step by step -/
def cntV (f : Cell → List Cell) (left : List Cell) (c : Cell) : Nat := ((f c).filter fun o => decide (o ∈ left)).length
def bestV (f : Cell → List Cell) (left : List Cell) (b : Option (Nat × Cell)) (c : Cell) : Option (Nat × Cell) := match b with
  | none => some (cntV f left c, c)
  | some (m, d) => if m < cntV f left c then some (cntV f left c, c) else some (m, d)
def growV (fs : List Cell) (f : Cell → List Cell) : Nat → List Cell → List Cell → List Cell
  | 0, found, _ => found
  | n + 1, found, left => if left = [] then found else match fs.foldl (bestV f left) none with
    | some (_, b) => growV fs f n (found ++ [b]) (left.filter fun c => !decide (c ∈ f b))
    | none => found
def encB : Option (Nat × Cell) → D
  | none => .non
  | some (m, c) => .tup [.int m, cellD c]
theorem dIn_L (c : Cell) (cs : List Cell) : dIn (cellD c) (.lst (cs.map cellD)) = some (.bl (decide (c ∈ cs))) := dIn_cellsL c cs
theorem grown_inner {fs : List Cell} {f : Cell → List Cell} {g ls fo : D} {left : List Cell} (x6 x7 : DL.Slot) :
    ∃ y6 y7, forL (.nm 6) b_grown_1 (fs.map cellD) [.fz g, .fz ls, .fz (viewD fs f), .fz fo, .fz (.lst (left.map cellD)), .fz .non, x6, x7, .no] = .nx [.fz g, .fz ls, .fz (viewD fs f), .fz fo, .fz (.lst (left.map cellD)), .fz (encB (fs.foldl (bestV f left) none)), y6, y7, .no] := by
  obtain ⟨ρ', h1, h2⟩ := forL_st (t := .nm 6) (body := b_grown_1) cellD (fun s ρ => ∃ y6 y7, ρ = [.fz g, .fz ls, .fz (viewD fs f), .fz fo, .fz (.lst (left.map cellD)), .fz (encB s), y6, y7, .no]) (bestV f left) fs none
    [.fz g, .fz ls, .fz (viewD fs f), .fz fo, .fz (.lst (left.map cellD)), .fz .non, x6, x7, .no] ⟨x6, x7, rfl⟩ (by
      rintro c hc s ρ ⟨y6, y7, rfl⟩
      refine ⟨_, [.fz g, .fz ls, .fz (viewD fs f), .fz fo, .fz (.lst (left.map cellD)), .fz (encB (bestV f left s c)), .fz (cellD c), .fz (.int (cntV f left c)), .no], rfl, .inl ?_, ⟨_, _, rfl⟩⟩
      unfold b_grown_1
      simp [view_at hc]
      rw [compL_map cellD (fun o => decide (o ∈ left)) cellD (f c) (fun o ho => ⟨_, rfl, by simp, fun _ => by simp⟩)]
      simp
      rw [show ((f c).filter fun o => decide (o ∈ left)).length = cntV f left c from rfl]
      cases s with
      | none => simp [encB, bestV, DL.isNon]
      | some p =>
        obtain ⟨m, d⟩ := p
        simp [encB, bestV, DL.isNon]
        by_cases z : m < cntV f left c
        · simp [z, encB]
        · simp [z, encB])
  obtain ⟨y6, y7, rfl⟩ := h2
  exact ⟨y6, y7, h1⟩
theorem bestV_some {f : Cell → List Cell} {left : List Cell} : ∀ (fs : List Cell) (s : Option (Nat × Cell)), (∀ m d, s = some (m, d) → m = cntV f left d) → ∀ m d, fs.foldl (bestV f left) s = some (m, d) → (m = cntV f left d ∧ (d ∈ fs ∨ s = some (m, d))) ∧ (∀ c ∈ fs, cntV f left c ≤ m) ∧ (∀ m' d', s = some (m', d') → m' ≤ m)
  | [], s, hs, m, d, h => ⟨⟨hs m d h, .inr h⟩, fun c hc => (by cases hc), fun m' d' e => by
    rw [List.foldl_nil] at h
    rw [h] at e
    cases e
    exact Nat.le_refl _⟩
  | c :: fs, s, hs, m, d, h => by
    have hs' : ∀ m d, bestV f left s c = some (m, d) → m = cntV f left d := fun m d e => by
      unfold bestV at e
      cases s with
      | none =>
        cases e
        rfl
      | some p =>
        obtain ⟨m0, d0⟩ := p
        dsimp only at e
        split at e
        · cases e
          rfl
        · cases e
          exact hs _ _ rfl
    obtain ⟨⟨h1, h2⟩, h3, h4⟩ := bestV_some fs (bestV f left s c) hs' m d h
    have hc : cntV f left c ≤ m := by
      cases s with
      | none => exact h4 _ _ rfl
      | some p =>
        obtain ⟨m0, d0⟩ := p
        by_cases z : m0 < cntV f left c
        · exact h4 (cntV f left c) c (by unfold bestV; simp [z])
        · have := h4 m0 d0 (by unfold bestV; simp [z])
          omega
    refine ⟨⟨h1, ?_⟩, fun c' hc' => ?_, fun m' d' e => ?_⟩
    · rcases h2 with z | z
      · exact .inl (List.mem_cons_of_mem _ z)
      · unfold bestV at z
        cases s with
        | none =>
          cases z
          exact .inl (List.mem_cons_self ..)
        | some p =>
          obtain ⟨m0, d0⟩ := p
          dsimp only at z
          split at z
          · cases z
            exact .inl (List.mem_cons_self ..)
          · exact .inr z
    · rcases List.mem_cons.mp hc' with z | z
      · rw [z]
        exact hc
      · exact h3 c' z
    · subst e
      by_cases z : m' < cntV f left c
      · omega
      · exact h4 m' d' (by unfold bestV; simp [z])
theorem bestV_isSome {f : Cell → List Cell} {left : List Cell} : ∀ (fs : List Cell) (s : Option (Nat × Cell)), (s.isSome = true ∨ fs ≠ []) → (fs.foldl (bestV f left) s).isSome = true
  | [], s, h => by
    rcases h with h | h
    · exact h
    · exact (h rfl).elim
  | c :: fs, s, _ => by
    refine bestV_isSome fs _ (.inl ?_)
    unfold bestV
    cases s with
    | none => rfl
    | some p =>
      dsimp only
      split <;> rfl
/-- the loop -/
theorem grown_loop {fs : List Cell} {f : Cell → List Cell} {hd ls : D} (hself : ∀ c ∈ fs, c ∈ f c) (hfl : m_floors [hd] = .ok (.tup (fs.map cellD))) : ∀ (n : Nat) (N : Nat) (found left : List Cell) (x5 x6 x7 : DL.Slot), left.length ≤ n → n < N → found.length + n ≤ 900 → (∀ c ∈ left, c ∈ fs) →
    ∃ y5 y6 y7 left', whileN b_grown_3 b_grown_2 N [.fz hd, .fz ls, .fz (viewD fs f), .fz (.tup (found.map cellD)), .fz (.lst (left.map cellD)), x5, x6, x7, .no] = .nx [.fz hd, .fz ls, .fz (viewD fs f), .fz (.tup ((growV fs f n found left).map cellD)), .fz left', y5, y6, y7, .no] := by
  intro n
  induction n with
  | zero =>
    intro N found left x5 x6 x7 h1 h2 h3 h4
    obtain ⟨N, rfl⟩ : ∃ M, N = M + 1 := ⟨N - 1, by omega⟩
    have : left = [] := List.length_eq_zero_iff.mp (by omega)
    subst this
    refine ⟨x5, x6, x7, .lst [], ?_⟩
    unfold whileN b_grown_3
    simp [growV]
  | succ n ih =>
    intro N found left x5 x6 x7 h1 h2 h3 h4
    obtain ⟨N, rfl⟩ : ∃ M, N = M + 1 := ⟨N - 1, by omega⟩
    by_cases hz : left = []
    · subst hz
      refine ⟨x5, x6, x7, .lst [], ?_⟩
      unfold whileN b_grown_3
      simp [growV]
    · obtain ⟨c0, hc0⟩ := List.exists_mem_of_ne_nil left hz
      have hpos : 0 < left.length := List.length_pos_of_mem hc0
      have hsome := bestV_isSome (f := f) (left := left) fs none (.inr (List.ne_nil_of_mem (h4 c0 hc0)))
      obtain ⟨⟨m, b⟩, hb⟩ := Option.isSome_iff_exists.mp hsome
      obtain ⟨⟨q1, q2⟩, q3, _⟩ := bestV_some (f := f) (left := left) fs none (fun m d e => by cases e) m b hb
      have hbf : b ∈ fs := by
        rcases q2 with z | z
        · exact z
        · cases z
      have hm : 0 < cntV f left b := by
        rw [← q1]
        have h5 := q3 c0 (h4 c0 hc0)
        have h6 : 0 < cntV f left c0 := by
          unfold cntV
          refine List.length_pos_of_mem (a := c0) ?_
          rw [List.mem_filter]
          exact ⟨hself c0 (h4 c0 hc0), by simpa using hc0⟩
        omega
      obtain ⟨d, hd'⟩ : ∃ d, d ∈ f b ∧ d ∈ left := by
        obtain ⟨d, hd'⟩ := List.exists_mem_of_length_pos hm
        rw [List.mem_filter] at hd'
        exact ⟨d, hd'.1, by simpa using hd'.2⟩
      have hlt : (left.filter fun c => !decide (c ∈ f b)).length < left.length := by
        refine List.length_filter_lt_length_iff_exists.mpr ⟨d, hd'.2, ?_⟩
        simp [hd'.1]
      obtain ⟨y6, y7, hin⟩ := grown_inner (fs := fs) (f := f) (g := hd) (ls := ls) (fo := .tup (found.map cellD)) (left := left) x6 x7
      have hbody : b_grown_2 [.fz hd, .fz ls, .fz (viewD fs f), .fz (.tup (found.map cellD)), .fz (.lst (left.map cellD)), x5, x6, x7, .no] = .nx [.fz hd, .fz ls, .fz (viewD fs f), .fz (.tup ((found ++ [b]).map cellD)), .fz (.lst ((left.filter fun c => !decide (c ∈ f b)).map cellD)), .fz (encB (some (m, b))), y6, y7, .no] := by
        unfold b_grown_2
        simp [hfl]
        rw [hin, hb]
        simp [encB]
        rw [dAdd_tup (by simp; omega)]
        simp
        rw [compL_map cellD (fun c => !decide (c ∈ f b)) cellD left (fun c hc => ⟨_, rfl, by simp [view_at hbf], fun _ => by simp⟩)]
        simp
      obtain ⟨z5, z6, z7, l', hrec⟩ := ih N (found ++ [b]) (left.filter fun c => !decide (c ∈ f b)) (.fz (encB (some (m, b)))) y6 y7 (by omega) (by omega) (by simp; omega) (fun c hc => h4 c (List.mem_filter.mp hc).1)
      refine ⟨z5, z6, z7, l', ?_⟩
      unfold whileN
      have hc3 : b_grown_3 [.fz hd, .fz ls, .fz (viewD fs f), .fz (.tup (found.map cellD)), .fz (.lst (left.map cellD)), x5, x6, x7, .no] = .ok true := by
        unfold b_grown_3
        simp
        omega
      have hg : growV fs f (n + 1) found left = growV fs f n (found ++ [b]) (left.filter fun c => !decide (c ∈ f b)) := by
        show (if left = [] then found else match fs.foldl (bestV f left) none with
          | some (_, b) => growV fs f n (found ++ [b]) (left.filter fun c => !decide (c ∈ f b))
          | none => found) = _
        rw [if_neg hz, hb]
      rw [hc3, hg]
      simp only [hbody]
      exact hrec
theorem floor_sees {g : Hall} (ok : g.Ok) {c : Cell} (h : c ∈ floorsL g) : c ∈ seenL g c := by
  refine seen_mem.mpr ⟨h, ?_⟩
  rw [sees_self ok, free_iff]
  have := (mem_floors.mp h).2
  omega
def leftL (g : Hall) (ls : List Cell) : List Cell := (floorsL g).filter fun c => !decide (c ∈ coverL g ls)
def grownL (g : Hall) (ls : List Cell) : List Cell := growV (floorsL g) (seenL g) 64 ls (leftL g ls)
theorem floors_len64 (g : Hall) (ok : g.Ok) : (floorsL g).length ≤ 64 := by
  have a1 : (floorsL g).length ≤ (cellsL g).length := List.length_filter_le _ _
  have a2 := cellsL_len g
  have : g.h * g.w ≤ 8 * 8 := Nat.mul_le_mul ok.h8 ok.w8
  omega
theorem e_grown {g : Hall} (ok : g.Ok) {ls : List Cell} (hl : ∀ l ∈ ls, l ∈ floorsL g) (hn : ls.length ≤ 800) : m_grown [hallD g, .tup (ls.map cellD)] = .ok (.tup ((grownL g ls).map cellD)) := by
  have h64 := floors_len64 g ok
  have hlen : (leftL g ls).length ≤ 64 := Nat.le_trans (List.length_filter_le _ _) h64
  obtain ⟨y5, y6, y7, l', hw⟩ := grown_loop (fs := floorsL g) (f := seenL g) (hd := hallD g) (ls := .tup (ls.map cellD)) (fun c hc => floor_sees ok hc) (e_floors ok) 64 10000 ls (leftL g ls) .no .no .no hlen (by decide) (by omega) (fun c hc => (List.mem_filter.mp hc).1)
  show outOf (b_grown (rho0 9 [hallD g, .tup (ls.map cellD)])) = _
  simp [rho0]
  unfold b_grown
  ((first | (refine (congrArg outOf (q_set (d := ?_) ?_)).trans ?_; rotate_left; focus (simp [ok]; try exact rfl)) | (refine (congrArg outOf (q_drop (d := ?_) ?_)).trans ?_; rotate_left; focus (simp [ok]; try exact rfl)) | (refine (congrArg outOf (q_new (d := ?_) ?_)).trans ?_; rotate_left; focus (simp [ok]; try exact rfl)) | (refine (congrArg outOf (q_par (x := ?_) (y := ?_) ?_)).trans ?_; rotate_left 2; focus (simp [ok]; try exact ⟨rfl, rfl⟩)) | (refine (congrArg outOf (q_unp (d := ?_) (ρ' := ?_) ?_ ?_)).trans ?_; rotate_left 2; focus (simp [ok]; try exact rfl); focus (simp [ok]; try exact rfl)) | (refine (congrArg outOf (q_pass ?_)).trans ?_; focus (simp [ok]; done)) | (refine (congrArg outOf (q_ret (d := ?_) ?_)).trans ?_; rotate_left; focus (simp [ok]; try exact rfl))); try simp only [List.set_cons_succ, List.set_cons_zero])
  ((first | (refine (congrArg outOf (q_set (d := ?_) ?_)).trans ?_; rotate_left; focus (simp []; try exact rfl)) | (refine (congrArg outOf (q_drop (d := ?_) ?_)).trans ?_; rotate_left; focus (simp []; try exact rfl)) | (refine (congrArg outOf (q_new (d := ?_) ?_)).trans ?_; rotate_left; focus (simp []; try exact rfl)) | (refine (congrArg outOf (q_par (x := ?_) (y := ?_) ?_)).trans ?_; rotate_left 2; focus (simp []; try exact ⟨rfl, rfl⟩)) | (refine (congrArg outOf (q_unp (d := ?_) (ρ' := ?_) ?_ ?_)).trans ?_; rotate_left 2; focus (simp []; try exact rfl); focus (simp []; try exact rfl)) | (refine (congrArg outOf (q_pass ?_)).trans ?_; focus (simp []; done)) | (refine (congrArg outOf (q_ret (d := ?_) ?_)).trans ?_; rotate_left; focus (simp []; try exact rfl))); try simp only [List.set_cons_succ, List.set_cons_zero])
  ((first | (refine (congrArg outOf (q_set (d := ?_) ?_)).trans ?_; rotate_left; focus (simp [ok]; try exact rfl)) | (refine (congrArg outOf (q_drop (d := ?_) ?_)).trans ?_; rotate_left; focus (simp [ok]; try exact rfl)) | (refine (congrArg outOf (q_new (d := ?_) ?_)).trans ?_; rotate_left; focus (simp [ok]; try exact rfl)) | (refine (congrArg outOf (q_par (x := ?_) (y := ?_) ?_)).trans ?_; rotate_left 2; focus (simp [ok]; try exact ⟨rfl, rfl⟩)) | (refine (congrArg outOf (q_unp (d := ?_) (ρ' := ?_) ?_ ?_)).trans ?_; rotate_left 2; focus (simp [ok]; try exact rfl); focus (simp [ok]; try exact rfl)) | (refine (congrArg outOf (q_pass ?_)).trans ?_; focus (simp [ok]; done)) | (refine (congrArg outOf (q_ret (d := ?_) ?_)).trans ?_; rotate_left; focus (simp [ok]; try exact rfl))); try simp only [List.set_cons_succ, List.set_cons_zero])
  · rw [compL_map cellD (fun c => !decide (c ∈ coverL g ls)) cellD (floorsL g) (fun c hc => ⟨_, rfl, by simp [e_covered_by ok hl], fun _ => by simp⟩)]
    exact rfl
  simp only [List.set_cons_succ, List.set_cons_zero]
  refine (congrArg outOf (q_seq (x := sWhile 10000 b_grown_3 b_grown_2) hw)).trans ?_
  ((first | (refine (congrArg outOf (q_set (d := ?_) ?_)).trans ?_; rotate_left; focus (simp []; try exact rfl)) | (refine (congrArg outOf (q_drop (d := ?_) ?_)).trans ?_; rotate_left; focus (simp []; try exact rfl)) | (refine (congrArg outOf (q_new (d := ?_) ?_)).trans ?_; rotate_left; focus (simp []; try exact rfl)) | (refine (congrArg outOf (q_par (x := ?_) (y := ?_) ?_)).trans ?_; rotate_left 2; focus (simp []; try exact ⟨rfl, rfl⟩)) | (refine (congrArg outOf (q_unp (d := ?_) (ρ' := ?_) ?_ ?_)).trans ?_; rotate_left 2; focus (simp []; try exact rfl); focus (simp []; try exact rfl)) | (refine (congrArg outOf (q_pass ?_)).trans ?_; focus (simp []; done)) | (refine (congrArg outOf (q_ret (d := ?_) ?_)).trans ?_; rotate_left; focus (simp []; try exact rfl))); try simp only [List.set_cons_succ, List.set_cons_zero])
  rfl
theorem e_stepwise {g : Hall} (ok : g.Ok) : m_stepwise [hallD g] = .ok (.tup ((grownL g []).map cellD)) := by
  have := e_grown ok (ls := []) (fun l h => by cases h) (by decide)
  rw [List.map_nil] at this
  simp [m_stepwise, runB, rho0, b_stepwise, this]
end Lw

set_option Elab.async false
set_option linter.all false
set_option maxRecDepth 100000
set_option maxHeartbeats 1000000
namespace Lw
open PySem PySem.Spec PyProof.Rows L2 DL
/-! ### the laws' own floors -/
theorem enumD_map {α : Type} (enc : α → D) (xs : List α) : enumD (xs.map enc) = xs.zipIdx.map fun p => .tup [.int (p.2 : Nat), enc p.1] := by
  unfold enumD
  rw [List.zipIdx_map, List.map_map]
  rfl
theorem zipIdx_range {α : Type} (l : List α) (x0 : α) : l.zipIdx = (List.range l.length).map fun i => (l.getD i x0, i) := by
  apply List.ext_getElem?
  intro i
  rw [List.getElem?_zipIdx, List.getElem?_map]
  by_cases h : i < l.length
  · rw [List.getElem?_eq_getElem h, List.getElem?_range h]
    simp [List.getD_eq_getElem?_getD, h]
  · rw [List.getElem?_eq_none (by omega), List.getElem?_eq_none (by simp; omega)]
    rfl
theorem itemsOf_str {l : List Nat} (h : l.length ≤ 1000) : itemsOf (.str (mkS l)) = some (l.map fun c => D.str (mkS [c])) := by
  show (if (mkS l).cps.size ≤ sizeLine then some ((mkS l).cps.toList.map fun c => D.str ⟨#[c]⟩) else none) = _
  have : (mkS l).cps.size = l.length := mkS_len l
  rw [this, if_pos (few h), mkS_cps]
  rfl
def rowFloors (g : Hall) (r : Nat) : List Cell := (rowCells g.w r).filter (isFloor g)
theorem floors_flat (g : Hall) : floorsL g = (List.range g.h).flatMap (rowFloors g) := by
  unfold floorsL cellsL rowFloors
  rw [List.filter_flatMap]
@[simp] theorem e_law_floors {g : Hall} (ok : g.Ok) : m__law_floors [hallD g] = .ok (.lst ((floorsL g).map cellD)) := by
  have h8 := ok.h8
  have w8 := ok.w8
  show outOf (b__law_floors (rho0 6 [hallD g])) = _
  simp [rho0]
  unfold b__law_floors
  ((first | (refine (congrArg outOf (q_set (d := ?_) ?_)).trans ?_; rotate_left; focus (simp []; try exact rfl)) | (refine (congrArg outOf (q_drop (d := ?_) ?_)).trans ?_; rotate_left; focus (simp []; try exact rfl)) | (refine (congrArg outOf (q_new (d := ?_) ?_)).trans ?_; rotate_left; focus (simp []; try exact rfl)) | (refine (congrArg outOf (q_par (x := ?_) (y := ?_) ?_)).trans ?_; rotate_left 2; focus (simp []; try exact ⟨rfl, rfl⟩)) | (refine (congrArg outOf (q_unp (d := ?_) (ρ' := ?_) ?_ ?_)).trans ?_; rotate_left 2; focus (simp []; try exact rfl); focus (simp []; try exact rfl)) | (refine (congrArg outOf (q_pass ?_)).trans ?_; focus (simp []; done)) | (refine (congrArg outOf (q_ret (d := ?_) ?_)).trans ?_; rotate_left; focus (simp []; try exact rfl))); try simp only [List.set_cons_succ, List.set_cons_zero])
  have hen : enumO [rowsD g.rows] = some (g.rows.zipIdx.map fun p => .tup [.int (p.2 : Nat), .str (mkS p.1)]) := by
    rw [enumO_eq]
    show some (enumD (g.rows.map fun r => D.str (mkS r))) = _
    rw [enumD_map]
  obtain ⟨ρ', h1, h2⟩ := forL_ix0 (t := .tp [2, 3]) (body := b__law_floors_1) (fun p : List Nat × Nat => D.tup [.int (p.2 : Nat), .str (mkS p.1)])
    (fun i ρ => ∃ x2 x3, ρ = [.fz (hallD g), .fz (.lst (((List.range i).flatMap (rowFloors g)).map cellD)), x2, x3, .no, .no]) g.rows.zipIdx [.fz (hallD g), .fz (.lst []), .no, .no, .no, .no] ⟨.no, .no, rfl⟩ (by
      rintro i ⟨l, k⟩ ρ hi ⟨x2, x3, rfl⟩
      rw [List.getElem?_zipIdx] at hi
      obtain ⟨l', hl', e⟩ := Option.map_eq_some_iff.mp hi
      cases e
      obtain ⟨hlt, hl2⟩ := List.getElem?_eq_some_iff.mp hl'
      have hrow : g.row (i : Int) = l := by
        unfold Hall.row
        rw [List.getD_eq_getElem?_getD, Int.toNat_natCast, hl']
        rfl
      have hlen : l.length = g.w := ok.same l (List.mem_of_getElem? hl')
      refine ⟨_, [.fz (hallD g), .fz (.lst (((List.range (i + 1)).flatMap (rowFloors g)).map cellD)), .fz (.int ((0 + i : Nat) : Int)), .fz (.str (mkS l)), .no, .no], rfl, .inl ?_, ⟨_, _, rfl⟩⟩
      unfold b__law_floors_1
      simp [itemsOf_str (l := l) (by omega)]
      rw [enumD_map, compL_map (fun p : Nat × Nat => D.tup [.int (p.2 : Nat), .str (mkS [p.1])]) (fun p => decide (p.1 = 46)) (fun p => cellD ((i : Int), (p.2 : Int))) l.zipIdx (fun p hp => ⟨_, rfl, by simp, fun _ => by simp [cellD]⟩)]
      have e1 : (l.zipIdx.filter fun p => decide (p.1 = 46)).map (fun p => cellD ((i : Int), (p.2 : Int))) = (rowFloors g i).map cellD := by
        unfold rowFloors rowCells
        rw [zipIdx_range l 0, List.filter_map, List.filter_map, List.map_map, List.map_map, hlen]
        congr 1
        refine List.filter_congr fun c hc => ?_
        unfold isFloor Hall.at
        simp only [Function.comp, Int.toNat_natCast, hrow]
        rw [Bool.eq_iff_iff]
        simp
      simp only [e1]
      simp
      rw [dAdd_lst (by
        rw [List.length_map, List.length_map]
        have a1 := flatMap_len_le (w := g.w) (f := rowFloors g) (fun i => by
          unfold rowFloors
          refine Nat.le_trans (List.length_filter_le _ _) ?_
          simp [rowCells]) i
        have a2 : (rowFloors g i).length ≤ g.w := by
          unfold rowFloors
          refine Nat.le_trans (List.length_filter_le _ _) ?_
          simp [rowCells]
        have : i * g.w ≤ 8 * 8 := Nat.mul_le_mul (by unfold Hall.h at h8; omega) w8
        omega)]
      simp [List.range_succ, List.flatMap_append])
  obtain ⟨x2, x3, rfl⟩ := h2
  refine (congrArg outOf (q_for (ds := g.rows.zipIdx.map fun p => .tup [.int (p.2 : Nat), .str (mkS p.1)]) (by simp [hen]) h1)).trans ?_
  ((first | (refine (congrArg outOf (q_set (d := ?_) ?_)).trans ?_; rotate_left; focus (simp []; try exact rfl)) | (refine (congrArg outOf (q_drop (d := ?_) ?_)).trans ?_; rotate_left; focus (simp []; try exact rfl)) | (refine (congrArg outOf (q_new (d := ?_) ?_)).trans ?_; rotate_left; focus (simp []; try exact rfl)) | (refine (congrArg outOf (q_par (x := ?_) (y := ?_) ?_)).trans ?_; rotate_left 2; focus (simp []; try exact ⟨rfl, rfl⟩)) | (refine (congrArg outOf (q_unp (d := ?_) (ρ' := ?_) ?_ ?_)).trans ?_; rotate_left 2; focus (simp []; try exact rfl); focus (simp []; try exact rfl)) | (refine (congrArg outOf (q_pass ?_)).trans ?_; focus (simp []; done)) | (refine (congrArg outOf (q_ret (d := ?_) ?_)).trans ?_; rotate_left; focus (simp []; try exact rfl))); try simp only [List.set_cons_succ, List.set_cons_zero])
  rw [floors_flat]
  rfl
def someL (g : Hall) (n : Int) : List Cell := ((floorsL g).zipIdx.filter fun p => decide (drawN n (p.2 : Nat) / 16 % 4 = 0)).map (·.1)
theorem e_law_some {g : Hall} (ok : g.Ok) (n : Int) : m__law_some [hallD g, .int n] = .ok (.tup ((someL g n).map cellD)) := by
  simp [m__law_some, runB, rho0, b__law_some, ok, enumD_map]
  rw [compL_map (fun p : Cell × Nat => D.tup [.int (p.2 : Nat), cellD p.1]) (fun p => decide (drawN n (p.2 : Nat) / 16 % 4 = 0)) (fun p => cellD p.1) (floorsL g).zipIdx (fun p hp => ⟨_, rfl, by simp, fun _ => by simp⟩)]
  simp [someL, Function.comp_def]
theorem someL_sub (g : Hall) (n : Int) : (someL g n).Sublist (floorsL g) := by
  unfold someL
  have h1 : (((floorsL g).zipIdx.filter fun p => decide (drawN n (p.2 : Nat) / 16 % 4 = 0)).map (·.1)).Sublist ((floorsL g).zipIdx.map (·.1)) := List.filter_sublist.map _
  rwa [List.zipIdx_map_fst] at h1
theorem someL_mem {g : Hall} {n : Int} : ∀ l ∈ someL g n, l ∈ floorsL g := fun l h => (someL_sub g n).subset h
theorem rising_some (g : Hall) (n : Int) : Rising (someL g n) := (rising_floors g).sublist (someL_sub g n)
theorem some_len (g : Hall) (ok : g.Ok) (n : Int) : (someL g n).length ≤ 64 := Nat.le_trans (someL_sub g n).length_le (floors_len64 g ok)
end Lw

set_option Elab.async false
set_option linter.all false
set_option maxRecDepth 100000
set_option maxHeartbeats 1000000
namespace Lw
open PySem PySem.Spec PyProof.Rows L2 DL
/-! ### texts joined -/
theorem strsOf_map {α : Type} (f : α → List Nat) (xs : List α) : strsOf (xs.map fun x => .str (mkS (f x))) = some (xs.map fun x => mkS (f x)) := by
  induction xs with
  | nil => rfl
  | cons x xs ih => simp [strsOf, ih]
theorem join_flat : ∀ ls : List (List Nat), Txt.join (mkS []) (ls.map mkS) = mkS ls.flatten := by
  have key : ∀ (ls : List (List Nat)) (a : Array Nat), (ls.map mkS).foldl (fun acc p => acc ++ (mkS []).cps ++ p.cps) a = a ++ ls.flatten.toArray := by
    intro ls
    induction ls with
    | nil => simp
    | cons l ls ih =>
      intro a
      rw [List.map_cons, List.foldl_cons, ih]
      simp [mkS]
  intro ls
  cases ls with
  | nil => rfl
  | cons l ls =>
    show (⟨((ls.map mkS)).foldl (fun acc p => acc ++ (mkS []).cps ++ p.cps) (mkS l).cps⟩ : Str) = _
    rw [key]
    simp [mkS]
theorem joinG_L {α : Type} (f : α → List Nat) (xs : List α) (h : (xs.map fun x => (f x).length).sum ≤ 10000) : joinG (mkS []) (.lst (xs.map fun x => .str (mkS (f x)))) = some (.str (mkS (xs.flatMap f))) := by
  show (strsOf (xs.map fun x => .str (mkS (f x)))).bind (fun ys => if (ys.map (·.length)).sum + ys.length * (mkS []).length ≤ 16777216 then some (D.str (Txt.join (mkS []) ys)) else none) = _
  rw [strsOf_map, Option.bind_some]
  have e : (xs.map fun x => mkS (f x)) = (xs.map f).map mkS := by rw [List.map_map]; rfl
  rw [e, join_flat, if_pos (by
    rw [List.map_map, List.map_map]
    have : (xs.map (((fun s : Str => s.length) ∘ mkS) ∘ f)) = xs.map fun x => (f x).length := by
      refine List.map_congr_left fun x _ => ?_
      simp
    rw [this]
    simp
    omega)]
  rw [List.flatMap_def]
theorem sum_ones {α : Type} (xs : List α) : (xs.map fun _ => 1).sum = xs.length := by
  induction xs with
  | nil => rfl
  | cons x xs ih => simp [ih]; omega
theorem joinG_1 {α : Type} (f : α → Nat) (xs : List α) (h : xs.length ≤ 10000) : joinG (mkS []) (.lst (xs.map fun x => .str (mkS [f x]))) = some (.str (mkS (xs.map f))) := by
  rw [joinG_L (fun x => [f x]) xs (by simpa [sum_ones] using h)]
  have : xs.flatMap (fun x => [f x]) = xs.map f := by
    induction xs with
    | nil => rfl
    | cons x xs ih => rw [List.flatMap_cons, ih (by simp at h; omega)]; rfl
  rw [this]
/-! ### halls turned -/
def mirG (g : Hall) : Hall := ⟨g.rows.map List.reverse, g.far⟩
def turG (g : Hall) : Hall := ⟨(List.range g.w).map fun c => g.rows.reverse.map fun r => r.getD c 0, g.far⟩
def mirC (g : Hall) (c : Cell) : Cell := (c.1, g.w - 1 - c.2)
def turC (g : Hall) (c : Cell) : Cell := (c.2, g.h - 1 - c.1)
theorem row_get {g : Hall} {i : Nat} (h : i < g.h) : g.rows[i]? = some (g.row i) := by
  unfold Hall.h at h
  unfold Hall.row
  rw [List.getD_eq_getElem?_getD]
  simp [List.getElem?_eq_getElem h]
theorem row_mem {g : Hall} {i : Nat} (h : i < g.h) : g.row i ∈ g.rows := List.mem_of_getElem? (row_get h)
section
variable {g : Hall}
theorem mirG_h : (mirG g).h = g.h := by
  unfold mirG Hall.h
  simp
theorem mirG_row (ok : g.Ok) {i : Int} (h0 : 0 ≤ i) (h1 : i < g.h) : (mirG g).row i = (g.row i).reverse := by
  obtain ⟨n, rfl⟩ := Int.eq_ofNat_of_zero_le h0
  have hn : n < g.h := by omega
  have e := row_get hn
  show ((g.rows.map List.reverse).getD (n : Int).toNat []) = _
  rw [List.getD_eq_getElem?_getD, List.getElem?_map, Int.toNat_natCast, e]
  rfl
theorem mirG_w (ok : g.Ok) : (mirG g).w = g.w := by
  unfold Hall.w
  rw [mirG_row ok (by decide) (by have := ok.h1; omega), List.length_reverse]
theorem mirG_ok (ok : g.Ok) : (mirG g).Ok := by
  refine ⟨by rw [mirG_h]; exact ok.h1, by rw [mirG_h]; exact ok.h8, by rw [mirG_w ok]; exact ok.w1, by rw [mirG_w ok]; exact ok.w8, fun r hr => ?_, fun r hr c hc => ?_, ok.far0, ok.far9⟩
  · obtain ⟨q, hq, rfl⟩ := List.mem_map.mp (show r ∈ g.rows.map List.reverse from hr)
    rw [List.length_reverse, mirG_w ok]
    exact ok.same q hq
  · obtain ⟨q, hq, rfl⟩ := List.mem_map.mp (show r ∈ g.rows.map List.reverse from hr)
    exact ok.signs q hq c (List.mem_reverse.mp hc)
theorem turG_h : (turG g).h = g.w := by
  unfold turG
  show (List.map _ _).length = _
  simp
theorem turG_row {i : Int} (h0 : 0 ≤ i) (h1 : i < g.w) : (turG g).row i = g.rows.reverse.map fun r => r.getD i.toNat 0 := by
  unfold turG
  show (List.map _ (List.range g.w)).getD i.toNat [] = _
  rw [List.getD_eq_getElem?_getD, List.getElem?_map, List.getElem?_range (by omega)]
  rfl
theorem turG_w (ok : g.Ok) : (turG g).w = g.h := by
  show ((turG g).row 0).length = _
  rw [turG_row (by decide) (by have := ok.w1; omega), List.length_map, List.length_reverse]
  rfl
theorem turG_ok (ok : g.Ok) : (turG g).Ok := by
  refine ⟨by rw [turG_h]; exact ok.w1, by rw [turG_h]; exact ok.w8, by rw [turG_w ok]; exact ok.h1, by rw [turG_w ok]; exact ok.h8, fun r hr => ?_, fun r hr c hc => ?_, ok.far0, ok.far9⟩
  · obtain ⟨q, hq, rfl⟩ := List.mem_map.mp (show r ∈ (List.range g.w).map _ from hr)
    rw [turG_w ok, List.length_map, List.length_reverse]
    rfl
  · obtain ⟨q, hq, rfl⟩ := List.mem_map.mp (show r ∈ (List.range g.w).map _ from hr)
    obtain ⟨r', h1, rfl⟩ := List.mem_map.mp hc
    have h2 : r' ∈ g.rows := List.mem_reverse.mp h1
    have hl := ok.same r' h2
    have hq' := List.mem_range.mp hq
    refine ok.signs r' h2 _ ?_
    rw [List.getD_eq_getElem?_getD, List.getElem?_eq_getElem (by omega)]
    exact List.getElem_mem _
theorem mirC_ins (ok : g.Ok) (c : Cell) : (mirG g).ins (mirC g c) = g.ins c := by
  rw [Bool.eq_iff_iff, Hall.ins_iff, Hall.ins_iff, mirG_h, mirG_w ok]
  unfold mirC
  dsimp only
  omega
theorem turC_ins (ok : g.Ok) (c : Cell) : (turG g).ins (turC g c) = g.ins c := by
  rw [Bool.eq_iff_iff, Hall.ins_iff, Hall.ins_iff, turG_h, turG_w ok]
  unfold turC
  dsimp only
  omega
theorem mirC_at (ok : g.Ok) {c : Cell} (h : g.ins c = true) : (mirG g).at (mirC g c) = g.at c := by
  obtain ⟨a, b, d, e⟩ := Hall.ins_iff.mp h
  unfold Hall.at mirC
  dsimp only
  rw [mirG_row ok a b]
  have hl := ok.rowlen a b
  rw [List.getD_eq_getElem?_getD, List.getD_eq_getElem?_getD, List.getElem?_reverse (by omega)]
  congr 2
  omega
theorem turC_at (ok : g.Ok) {c : Cell} (h : g.ins c = true) : (turG g).at (turC g c) = g.at c := by
  obtain ⟨a, b, d, e⟩ := Hall.ins_iff.mp h
  unfold Hall.at turC
  dsimp only
  rw [turG_row d e, List.getD_eq_getElem?_getD, List.getElem?_map, List.getElem?_reverse (by unfold Hall.h at b ⊢; omega)]
  have : g.rows.length - 1 - ((g.h : Int) - 1 - c.1).toNat = c.1.toNat := by unfold Hall.h at b ⊢; omega
  rw [this, row_get (by omega)]
  simp [Int.toNat_of_nonneg a]
/-! the mirrors -/
@[simp] theorem e_mirrored (ok : g.Ok) : m_mirrored [hallD g] = .ok (hallD (mirG g)) := by
  simp [m_mirrored, runB, rho0, b_mirrored, rowsD]
  rw [compL_all (fun r : List Nat => D.str (mkS r)) (fun r => .str (mkS r.reverse)) g.rows fun r hr => ⟨_, rfl, by
    have := ok.same r hr
    have := ok.w8
    show Res.bind (.ok (D.str (mkS r))) (fun x => Res.of (dRev x)) = _
    show Res.of (if (mkS r).length ≤ sizeLine then some (D.str (revS (mkS r))) else none) = _
    rw [if_pos (few (by rw [mkS_len]; omega))]
    rfl⟩]
  simp [hallD, mirG, rowsD, Function.comp_def]
@[simp] theorem e_turned (ok : g.Ok) : m_turned [hallD g] = .ok (hallD (turG g)) := by
  have hw := ok.w8
  have hh := ok.h8
  simp [m_turned, runB, rho0, b_turned, ok.row0, ok.wide]
  rw [rng1_nat (by omega)]
  simp only [of_some, bind_ok]
  rw [compL_all (fun (i : Nat) => D.int (i : Int)) (fun c => .str (mkS (g.rows.reverse.map fun r => r.getD c 0))) (List.range g.w) fun c hc => ⟨_, rfl, by
    have hc' := List.mem_range.mp hc
    simp [rowsD]
    rw [← List.map_reverse, compL_all (fun r : List Nat => D.str (mkS r)) (fun r => .str (mkS [r.getD c 0])) g.rows.reverse fun r hr => ⟨_, rfl, by
      have h1 := ok.same r (List.mem_reverse.mp hr)
      simp
      rw [dIx_str (by omega) (by omega) (by omega)]
      simp⟩]
    simp only [bind_ok]
    rw [joinG_1 (fun r : List Nat => r.getD c 0) g.rows.reverse (by rw [List.length_reverse]; unfold Hall.h at hh; omega)]
    simp⟩]
  simp [hallD, turG, rowsD, Function.comp_def]
@[simp] theorem e_cell_mirrored (ok : g.Ok) (c : Cell) : m_cell_mirrored [hallD g, cellD c] = if g.ins c = true then .ok (cellD (mirC g c)) else .err "NoCell" := by
  simp [m_cell_mirrored, runB, rho0, b_cell_mirrored, ok.row0, ok.wide, ok]
  by_cases h : g.ins c = true <;> simp [h, mirC, cellD]
@[simp] theorem e_cell_turned (ok : g.Ok) (c : Cell) : m_cell_turned [hallD g, cellD c] = if g.ins c = true then .ok (cellD (turC g c)) else .err "NoCell" := by
  simp [m_cell_turned, runB, rho0, b_cell_turned, ok]
  by_cases h : g.ins c = true <;> simp [h, turC, cellD]
end
/-! equality of halls -/
theorem enc_hall (n : Nat) : Enc (n + 3) hallD := by
  have h1 := ((enc_str (n + 1)).tup)
  refine ⟨fun g => ?_, fun a b => ?_⟩
  · unfold hallD
    rw [lv_tup]
    have := h1.lvl g.rows
    simp [lv_int]
    exact this
  · unfold hallD
    rw [eqN_tup]
    have := h1.eq a.rows b.rows
    have e : eqN (n + 2) (rowsD a.rows) (rowsD b.rows) = decide (a.rows = b.rows) := this
    show (eqN (n + 2) (rowsD a.rows) (rowsD b.rows) && (eqN (n + 2) (.int a.far) (.int b.far) && true)) = _
    rw [e, eqN_int]
    obtain ⟨ra, fa⟩ := a
    obtain ⟨rb, fb⟩ := b
    by_cases c1 : ra = rb <;> by_cases c2 : fa = fb <;> simp [c1, c2]
@[simp] theorem dEq_hall (a b : Hall) : dEq (hallD a) (hallD b) = some (.bl (decide (a = b))) := (enc_hall 61).dEq a b
@[simp] theorem dNe_hall (a b : Hall) : dNe (hallD a) (hallD b) = some (.bl (!decide (a = b))) := (enc_hall 61).dNe a b
/-! like halls -/
def fourL (g : Hall) : List Hall := [g, turG g, turG (turG g), turG (turG (turG g))]
def eightL (g : Hall) : List Hall := fourL g ++ fourL (mirG g)
end Lw

set_option Elab.async false
set_option linter.all false
set_option maxRecDepth 100000
set_option maxHeartbeats 1000000
namespace Lw
open PySem PySem.Spec PyProof.Rows L2 DL
/-! ### told and refused -/
theorem told_fold (d : D) : D.tup [.str "told", d] = toldD d := rfl
theorem ref_fold (k : Int) : D.tup [.str "refused", .int k] = refD k := rfl
theorem Enc.told {α : Type} [DecidableEq α] {n : Nat} {enc : α → D} (h : Enc n enc) : Enc (n + 1) (fun a => toldD (enc a)) where
  lvl := fun a => by
    unfold toldD
    rw [lv_tup]
    simp [lv_str, h.lvl a]
  eq := fun a b => by
    unfold toldD
    rw [eqN_tup]
    show (eqN n (.str "told") (.str "told") && (eqN n (enc a) (enc b) && true)) = _
    rw [h.eq, eqN_str]
    simp
theorem enc_ref (n : Nat) : Enc (n + 1) refD where
  lvl := fun a => by
    unfold refD
    rw [lv_tup]
    simp [lv_str, lv_int]
  eq := fun a b => by
    unfold refD
    rw [eqN_tup]
    show (eqN n (.str "refused") (.str "refused") && (eqN n (.int a) (.int b) && true)) = _
    rw [eqN_int, eqN_str]
    by_cases h : a = b <;> simp [h]
@[simp] theorem dNe_ref (a b : Int) : dNe (refD a) (refD b) = some (.bl (!decide (a = b))) := (enc_ref 63).dNe a b
@[simp] theorem dEq_ref (a b : Int) : dEq (refD a) (refD b) = some (.bl (decide (a = b))) := (enc_ref 63).dEq a b
@[simp] theorem dNe_toldC (a b : Cell) : dNe (toldD (cellD a)) (toldD (cellD b)) = some (.bl (!decide (a = b))) := (enc_cell 62).told.dNe a b
theorem eqN_tr (n : Nat) (d : D) (k : Int) : eqN (n + 1) (toldD d) (refD k) = false := by
  unfold toldD refD
  rw [eqN_tup]
  show (eqN n (.str "told") (.str "refused") && _) = _
  rw [eqN_str]
  have : (("told" : Str) == ("refused" : Str)) = false := by decide +kernel
  rw [this]
  rfl
/-! ### the laws' own turning, like halls -/
theorem rev_range {α : Type} (l : List α) (x0 : α) : (List.range l.length).map (fun i => l.getD (l.length - 1 - i) x0) = l.reverse := by
  apply List.ext_getElem?
  intro i
  rw [List.getElem?_map]
  by_cases h : i < l.length
  · rw [List.getElem?_range h, List.getElem?_reverse h]
    simp [List.getD_eq_getElem?_getD, List.getElem?_eq_getElem (show l.length - 1 - i < l.length by omega)]
  · rw [List.getElem?_eq_none (by simpa using h), List.getElem?_eq_none (by simpa using h)]
    rfl
theorem rev_range_map {α β : Type} (l : List α) (x0 : α) (f : α → β) : (List.range l.length).map (fun i => f (l.getD (l.length - 1 - i) x0)) = l.reverse.map f := by
  rw [← rev_range l x0, List.map_map]
  rfl
section
variable {g : Hall}
@[simp] theorem e_law_by0 (ok : g.Ok) : m__law_by [hallD g, .int 0] = .ok (hallD (mirG g)) := by
  have hw := ok.w8
  simp [m__law_by, runB, rho0, b__law_by, ok.row0, ok.wide]
  simp [rowsD]
  rw [compL_all (fun r : List Nat => D.str (mkS r)) (fun r => .str (mkS r.reverse)) g.rows fun r hr => ⟨_, rfl, by
    have h1 := ok.same r hr
    simp
    rw [rng1_nat (by omega)]
    simp only [of_some, bind_ok]
    rw [compL_all (fun (i : Nat) => D.int (i : Int)) (fun i => .str (mkS [r.getD (g.w - 1 - i) 0])) (List.range g.w) fun c hc => ⟨_, rfl, by
      have hc' := List.mem_range.mp hc
      simp
      rw [dIx_str (by omega) (by omega) (by omega)]
      have : ((g.w : Int) - 1 - c).toNat = g.w - 1 - c := by omega
      rw [this]
      simp⟩]
    simp only [bind_ok]
    rw [joinG_1 (fun i => r.getD (g.w - 1 - i) 0) (List.range g.w) (by simp; omega)]
    rw [← h1, rev_range r 0]
    rfl⟩]
  simp [hallD, mirG, rowsD, Function.comp_def]
@[simp] theorem e_law_by1 (ok : g.Ok) : m__law_by [hallD g, .int 1] = .ok (hallD (turG g)) := by
  have hw := ok.w8
  have hh := ok.h8
  simp [m__law_by, runB, rho0, b__law_by, ok.row0, ok.wide]
  rw [rng1_nat (by omega)]
  simp only [of_some, sbind_ok]
  obtain ⟨ρ', h1, h2⟩ := forL_ix0 (t := .nm 4) (body := b__law_by_1) (fun (i : Nat) => D.int (i : Int))
    (fun i ρ => ∃ x4 x7, ρ = [.fz (hallD g), .fz (.int 1), .fz (rowsD g.rows), .ow (.lst ((List.range i).map fun c => D.str (mkS (g.rows.reverse.map fun r => r.getD c 0)))), x4, .fz (.int g.h), .fz (.int g.w), x7, .no])
    (List.range g.w) [.fz (hallD g), .fz (.int 1), .fz (rowsD g.rows), .ow (.lst []), .no, .fz (.int g.h), .fz (.int g.w), .no, .no] ⟨_, _, rfl⟩ (by
      rintro i x ρ hi ⟨x4, x7, rfl⟩
      obtain ⟨rfl, hil⟩ := range_get hi
      refine ⟨_, _, rfl, .inl (sApp_ok (ds := (List.range x).map fun c => D.str (mkS (g.rows.reverse.map fun r => r.getD c 0))) (d := D.str (mkS (g.rows.reverse.map fun r => r.getD x 0))) rfl ?_ (by simp; omega)), ⟨.fz (.int x), x7, ?_⟩⟩
      · simp
        rw [rng1_nat (by omega)]
        simp only [of_some, bind_ok]
        rw [compL_all (fun (i : Nat) => D.int (i : Int)) (fun i => .str (mkS [(g.rows.getD (g.h - 1 - i) []).getD x 0])) (List.range g.h) fun c hc => ⟨_, rfl, by
          have hc' := List.mem_range.mp hc
          have h3 : (0 : Int) ≤ (g.h : Int) - 1 - c := by omega
          have h4 : (g.h : Int) - 1 - c < g.h := by omega
          simp [ok.row h3 h4]
          rw [dIx_str (by rw [ok.rowlen h3 h4]; omega) (by omega) (by rw [ok.rowlen h3 h4]; omega)]
          have : ((g.h : Int) - 1 - c).toNat = g.h - 1 - c := by omega
          unfold Hall.row
          rw [this]
          simp⟩]
        simp only [bind_ok]
        rw [joinG_1 (fun i => (g.rows.getD (g.h - 1 - i) []).getD x 0) (List.range g.h) (by simp; omega)]
        have := rev_range_map g.rows [] (fun r => r.getD x 0)
        unfold Hall.h
        rw [this]
        simp
      · simp [List.range_succ])
  obtain ⟨x4, x7, rfl⟩ := h2
  rw [h1]
  simp [hallD, turG, rowsD, Function.comp_def]
theorem likeLoop (ok : g.Ok) {a : D} {o : Hall} (x3 : DL.Slot) : (o ∈ fourL g → forL (.nm 3) b_are_like_1 ((List.range 4).map fun (i : Nat) => D.int (i : Int)) [.fz a, .fz (hallD o), .fz (hallD g), x3] = .rt (.bl true)) ∧
    (o ∉ fourL g → ∃ y2 y3, forL (.nm 3) b_are_like_1 ((List.range 4).map fun (i : Nat) => D.int (i : Int)) [.fz a, .fz (hallD o), .fz (hallD g), x3] = .nx [.fz a, .fz (hallD o), y2, y3]) := by
  have ok1 := turG_ok ok
  have ok2 := turG_ok ok1
  have ok3 := turG_ok ok2
  have step : ∀ (q : Hall) (x : DL.Slot), q.Ok → b_are_like_1 [.fz a, .fz (hallD o), .fz (hallD q), x] = if q = o then .rt (.bl true) else .nx [.fz a, .fz (hallD o), .fz (hallD (turG q)), x] := fun q x okq => by
    unfold b_are_like_1
    by_cases h : q = o
    · simp [h]
    · simp [h, okq]
  have e : (List.range 4).map (fun (i : Nat) => D.int (i : Int)) = [.int 0, .int 1, .int 2, .int 3] := rfl
  rw [e]
  unfold fourL
  simp only [forL, asg_nm, List.set_cons_succ, List.set_cons_zero]
  constructor
  · intro h
    rw [step g _ ok]
    by_cases c1 : g = o
    · rw [if_pos c1]
    · rw [if_neg c1]
      dsimp only
      simp only [List.set_cons_succ, List.set_cons_zero]
      rw [step _ _ ok1]
      by_cases c2 : turG g = o
      · rw [if_pos c2]
      · rw [if_neg c2]
        dsimp only
        simp only [List.set_cons_succ, List.set_cons_zero]
        rw [step _ _ ok2]
        by_cases c3 : turG (turG g) = o
        · rw [if_pos c3]
        · rw [if_neg c3]
          dsimp only
          simp only [List.set_cons_succ, List.set_cons_zero]
          rw [step _ _ ok3]
          by_cases c4 : turG (turG (turG g)) = o
          · rw [if_pos c4]
          · simp only [List.mem_cons, List.not_mem_nil, or_false] at h
            exact (h.elim (fun z => c1 z.symm) fun h => h.elim (fun z => c2 z.symm) fun h => h.elim (fun z => c3 z.symm) fun z => c4 z.symm).elim
  · intro h
    simp only [List.mem_cons, List.not_mem_nil, or_false, not_or] at h
    obtain ⟨c1, c2, c3, c4⟩ := h
    rw [step g _ ok, if_neg (Ne.symm c1)]
    dsimp only
    simp only [List.set_cons_succ, List.set_cons_zero]
    rw [step _ _ ok1, if_neg (Ne.symm c2)]
    dsimp only
    simp only [List.set_cons_succ, List.set_cons_zero]
    rw [step _ _ ok2, if_neg (Ne.symm c3)]
    dsimp only
    simp only [List.set_cons_succ, List.set_cons_zero]
    rw [step _ _ ok3, if_neg (Ne.symm c4)]
    exact ⟨_, _, rfl⟩
@[simp] theorem e_are_like (ok : g.Ok) (o : Hall) : m_are_like [hallD g, hallD o] = .ok (.bl (decide (o ∈ eightL g))) := by
  have okm := mirG_ok ok
  have r4 : rng1 [.int 4] = some ((List.range 4).map fun (i : Nat) => D.int (i : Int)) := rng1_nat (n := 4) (by decide)
  simp [m_are_like, runB, rho0, b_are_like, ok]
  unfold eightL
  obtain ⟨a1, a2⟩ := likeLoop ok (a := hallD g) (o := o) .no
  by_cases c1 : o ∈ fourL g
  · simp [forL, b_are_like_2, r4, a1 c1, c1]
  · obtain ⟨y2, y3, e1⟩ := a2 c1
    obtain ⟨b1, b2⟩ := likeLoop okm (a := hallD g) (o := o) y3
    by_cases c2 : o ∈ fourL (mirG g)
    · simp [forL, b_are_like_2, r4, e1, b1 c2, c2]
    · obtain ⟨z2, z3, e2⟩ := b2 c2
      simp [forL, b_are_like_2, r4, e1, e2, c1, c2]
end
end Lw

set_option Elab.async false
set_option linter.all false
set_option maxRecDepth 100000
set_option maxHeartbeats 1000000
namespace Lw
open PySem PySem.Spec PyProof.Rows L2 DL
/-! ### covering, thinning -/
theorem cover_mono {g : Hall} {ls ms : List Cell} (h : ∀ l ∈ ls, l ∈ ms) {c : Cell} (hc : c ∈ coverL g ls) : c ∈ coverL g ms := by
  obtain ⟨h1, l, h2, h3⟩ := mem_cover.mp hc
  exact mem_cover.mpr ⟨h1, l, h l h2, h3⟩
theorem cover_congr {g : Hall} {ls ms : List Cell} (h : ∀ l, l ∈ ls ↔ l ∈ ms) : coverL g ls = coverL g ms :=
  Rising.ext (rising_cover g ls) (rising_cover g ms) fun c => ⟨cover_mono fun l => (h l).mp, cover_mono fun l => (h l).mpr⟩
theorem cover_self {g : Hall} (ok : g.Ok) {ls : List Cell} (hl : ∀ l ∈ ls, l ∈ floorsL g) {c : Cell} (hc : c ∈ ls) : c ∈ coverL g ls := mem_cover.mpr ⟨hl c hc, c, hc, (seen_mem.mp (floor_sees ok (hl c hc))).2⟩
theorem cover_nil (g : Hall) : coverL g [] = [] := by
  rw [List.eq_nil_iff_forall_not_mem]
  intro c h
  obtain ⟨_, l, h2, _⟩ := mem_cover.mp h
  cases h2
def unseenL (g : Hall) (ls : List Cell) : List Cell := (floorsL g).filter fun c => !decide (c ∈ coverL g ls)
@[simp] theorem e_unseen {g : Hall} (ok : g.Ok) {ls : List Cell} (hl : ∀ l ∈ ls, l ∈ floorsL g) : m_unseen [hallD g, .tup (ls.map cellD)] = .ok (.tup ((unseenL g ls).map cellD)) := by
  simp [m_unseen, runB, rho0, b_unseen, e_covered ok hl, ok]
  rw [compL_map cellD (fun c => !decide (c ∈ coverL g ls)) cellD (floorsL g) fun c hc => ⟨_, rfl, by simp, fun _ => by simp⟩]
  rfl
/-- one step of the thinning -/
def thinS (g : Hall) (found : List Cell) (one : Cell) : List Cell := if coverL g (withoutL found one) = coverL g found then withoutL found one else found
def thinL (g : Hall) (ls : List Cell) : List Cell := ls.reverse.foldl (thinS g) ls
theorem thinS_sub {g : Hall} {found : List Cell} {one : Cell} : (thinS g found one).Sublist found := by
  unfold thinS
  split
  · exact List.filter_sublist
  · exact List.Sublist.refl _
theorem thinS_cover {g : Hall} {found : List Cell} {one : Cell} : coverL g (thinS g found one) = coverL g found := by
  unfold thinS
  split
  · assumption
  · rfl
theorem thin_fold {g : Hall} : ∀ (os found : List Cell), (os.foldl (thinS g) found).Sublist found ∧ coverL g (os.foldl (thinS g) found) = coverL g found ∧
    ∀ x ∈ os, x ∈ os.foldl (thinS g) found → coverL g (withoutL (os.foldl (thinS g) found) x) ≠ coverL g found
  | [], found => ⟨List.Sublist.refl _, rfl, fun x h => by cases h⟩
  | o :: os, found => by
    obtain ⟨h1, h2, h3⟩ := thin_fold (g := g) os (thinS g found o)
    rw [List.foldl_cons]
    refine ⟨h1.trans thinS_sub, h2.trans thinS_cover, fun x hx hm => ?_⟩
    rcases List.mem_cons.mp hx with rfl | hx
    · have hxt := h1.subset hm
      intro e
      have hne : coverL g (withoutL found x) ≠ coverL g found := fun z => by
        unfold thinS at hxt
        rw [if_pos z] at hxt
        exact (mem_without.mp hxt).2 rfl
      refine hne (Rising.ext (rising_cover _ _) (rising_cover _ _) fun c => ⟨cover_mono fun l hl => (mem_without.mp hl).1, fun hc => ?_⟩)
      rw [← e] at hc
      exact cover_mono (fun l hl => mem_without.mpr ⟨(h1.trans thinS_sub).subset (mem_without.mp hl).1, (mem_without.mp hl).2⟩) hc
    · rw [← thinS_cover (g := g) (found := found) (one := o)]
      exact h3 x hx hm
theorem thin_sub (g : Hall) (ls : List Cell) : (thinL g ls).Sublist ls := (thin_fold ls.reverse ls).1
theorem thin_cover (g : Hall) (ls : List Cell) : coverL g (thinL g ls) = coverL g ls := (thin_fold ls.reverse ls).2.1
theorem thin_needless (g : Hall) (ls : List Cell) : needlessL g (thinL g ls) = [] := by
  rw [List.eq_nil_iff_forall_not_mem]
  intro x hx
  unfold needlessL at hx
  obtain ⟨h1, h2⟩ := List.mem_filter.mp hx
  have := (thin_fold (g := g) ls.reverse ls).2.2 x (List.mem_reverse.mpr ((thin_sub g ls).subset h1)) h1
  refine this ?_
  have e := of_decide_eq_true h2
  exact e.trans (thin_cover g ls)
theorem thin_id {g : Hall} {ls : List Cell} (h : needlessL g ls = []) : thinL g ls = ls := by
  have key : ∀ os : List Cell, (∀ x ∈ os, x ∈ ls) → os.foldl (thinS g) ls = ls := by
    intro os
    induction os with
    | nil => exact fun _ => rfl
    | cons o os ih =>
      intro hs
      have : thinS g ls o = ls := by
        unfold thinS
        rw [if_neg]
        intro e
        have : o ∈ needlessL g ls := by
          unfold needlessL
          exact List.mem_filter.mpr ⟨hs o (List.mem_cons_self ..), decide_eq_true e⟩
        rw [h] at this
        cases this
      rw [List.foldl_cons, this]
      exact ih fun x hx => hs x (List.mem_cons_of_mem _ hx)
  exact key _ fun x hx => List.mem_reverse.mp hx
theorem e_thinned {g : Hall} (ok : g.Ok) {ls : List Cell} (hl : ∀ l ∈ ls, l ∈ floorsL g) : m_thinned [hallD g, .tup (ls.map cellD)] = .ok (.tup ((thinL g ls).map cellD)) := by
  show outOf (b_thinned (rho0 5 [hallD g, .tup (ls.map cellD)])) = _
  simp [rho0]
  unfold b_thinned
  ((first | (refine (congrArg outOf (q_set (d := ?_) ?_)).trans ?_; rotate_left; focus (simp [ok]; try exact rfl)) | (refine (congrArg outOf (q_drop (d := ?_) ?_)).trans ?_; rotate_left; focus (simp [ok]; try exact rfl)) | (refine (congrArg outOf (q_new (d := ?_) ?_)).trans ?_; rotate_left; focus (simp [ok]; try exact rfl)) | (refine (congrArg outOf (q_par (x := ?_) (y := ?_) ?_)).trans ?_; rotate_left 2; focus (simp [ok]; try exact ⟨rfl, rfl⟩)) | (refine (congrArg outOf (q_unp (d := ?_) (ρ' := ?_) ?_ ?_)).trans ?_; rotate_left 2; focus (simp [ok]; try exact rfl); focus (simp [ok]; try exact rfl)) | (refine (congrArg outOf (q_pass ?_)).trans ?_; focus (simp [ok]; done)) | (refine (congrArg outOf (q_ret (d := ?_) ?_)).trans ?_; rotate_left; focus (simp [ok]; try exact rfl))); try simp only [List.set_cons_succ, List.set_cons_zero])
  ((first | (refine (congrArg outOf (q_set (d := ?_) ?_)).trans ?_; rotate_left; focus (simp []; try exact rfl)) | (refine (congrArg outOf (q_drop (d := ?_) ?_)).trans ?_; rotate_left; focus (simp []; try exact rfl)) | (refine (congrArg outOf (q_new (d := ?_) ?_)).trans ?_; rotate_left; focus (simp []; try exact rfl)) | (refine (congrArg outOf (q_par (x := ?_) (y := ?_) ?_)).trans ?_; rotate_left 2; focus (simp []; try exact ⟨rfl, rfl⟩)) | (refine (congrArg outOf (q_unp (d := ?_) (ρ' := ?_) ?_ ?_)).trans ?_; rotate_left 2; focus (simp []; try exact rfl); focus (simp []; try exact rfl)) | (refine (congrArg outOf (q_pass ?_)).trans ?_; focus (simp []; done)) | (refine (congrArg outOf (q_ret (d := ?_) ?_)).trans ?_; rotate_left; focus (simp []; try exact rfl))); try simp only [List.set_cons_succ, List.set_cons_zero])
  obtain ⟨ρ', h1, h2⟩ := forL_st (t := .nm 4) (body := b_thinned_1) cellD (fun found ρ => (∀ l ∈ found, l ∈ floorsL g) ∧ ∃ x4, ρ = [.fz (hallD g), .fz (.tup (ls.map cellD)), .fz (viewD (floorsL g) (seenL g)), .fz (.tup (found.map cellD)), x4]) (thinS g) ls.reverse ls
    [.fz (hallD g), .fz (.tup (ls.map cellD)), .fz (viewD (floorsL g) (seenL g)), .fz (.tup (ls.map cellD)), .no] ⟨hl, _, rfl⟩ (by
      rintro x hx found ρ ⟨hf, x4, rfl⟩
      have hw : ∀ l ∈ withoutL found x, l ∈ floorsL g := fun l h => hf l (mem_without.mp h).1
      refine ⟨_, [.fz (hallD g), .fz (.tup (ls.map cellD)), .fz (viewD (floorsL g) (seenL g)), .fz (.tup ((thinS g found x).map cellD)), .fz (cellD x)], rfl, .inl ?_, fun l h => hf l (thinS_sub.subset h), _, rfl⟩
      unfold b_thinned_1 thinS
      by_cases c : coverL g (withoutL found x) = coverL g found
      · simp [e_covered_by ok hw, e_covered_by ok hf, c]
      · simp [e_covered_by ok hw, e_covered_by ok hf, c])
  obtain ⟨_, x4, rfl⟩ := h2
  refine (congrArg outOf (q_for (ds := ls.reverse.map cellD) (by simp) h1)).trans ?_
  exact (congrArg outOf (q_ret (d := .tup ((thinL g ls).map cellD)) rfl)).trans rfl
/-! ### step by step: the gains -/
theorem growV_acc {fs : List Cell} {f : Cell → List Cell} : ∀ (n : Nat) (found left : List Cell), growV fs f n found left = found ++ growV fs f n [] left
  | 0, found, left => by simp [growV]
  | n + 1, found, left => by
    unfold growV
    by_cases c : left = []
    · simp [c]
    · rw [if_neg c, if_neg c]
      cases e : fs.foldl (bestV f left) none with
      | none => simp
      | some p =>
        obtain ⟨m, b⟩ := p
        dsimp only
        rw [growV_acc n (found ++ [b]), growV_acc n ([] ++ [b])]
        simp
/-- what the first k leave in the dark -/
def darkV (f : Cell → List Cell) (left : List Cell) (bs : List Cell) : List Cell := left.filter fun c => !(bs.any fun b => decide (c ∈ f b))
theorem darkV_nil (f : Cell → List Cell) (left : List Cell) : darkV f left [] = left := by
  unfold darkV
  simp
theorem darkV_cons (f : Cell → List Cell) (left : List Cell) (b : Cell) (bs : List Cell) : darkV f left (b :: bs) = darkV f (left.filter fun c => !decide (c ∈ f b)) bs := by
  unfold darkV
  rw [List.filter_filter]
  refine List.filter_congr fun c _ => ?_
  simp only [List.any_cons]
  cases decide (c ∈ f b) <;> cases bs.any fun b => decide (c ∈ f b) <;> rfl
/-- all that is wanted of the row that is found -/
theorem grow_steps {fs : List Cell} {f : Cell → List Cell} (hs : ∀ c ∈ fs, c ∈ f c) : ∀ (n : Nat) (left : List Cell), left.length ≤ n → (∀ c ∈ left, c ∈ fs) →
    (∀ b ∈ growV fs f n [] left, b ∈ fs) ∧ darkV f left (growV fs f n [] left) = [] ∧
    ∀ k b, (growV fs f n [] left)[k]? = some b → 1 ≤ cntV f (darkV f left ((growV fs f n [] left).take k)) b ∧ ∀ c ∈ fs, cntV f (darkV f left ((growV fs f n [] left).take k)) c ≤ cntV f (darkV f left ((growV fs f n [] left).take k)) b
  | 0, left, hn, hl => by
    have : left = [] := List.eq_nil_of_length_eq_zero (by omega)
    subst this
    exact ⟨fun b h => (by cases h), rfl, fun k b h => by simp [growV] at h⟩
  | n + 1, left, hn, hl => by
    by_cases c : left = []
    · have e : growV fs f (n + 1) [] left = [] := by
        unfold growV
        rw [if_pos c]
      rw [e, c]
      exact ⟨fun b h => (by cases h), rfl, fun k b h => by simp at h⟩
    · obtain ⟨x, hx⟩ : ∃ x, x ∈ left := List.exists_mem_of_ne_nil left c
      have hfs : fs ≠ [] := fun z => by
        have := hl x hx
        rw [z] at this
        cases this
      obtain ⟨p, ep⟩ := Option.isSome_iff_exists.mp (bestV_isSome (f := f) (left := left) fs none (.inr hfs))
      obtain ⟨m, b⟩ := p
      obtain ⟨⟨b1, b2⟩, b3, _⟩ := bestV_some (f := f) (left := left) fs none (fun m d e => by cases e) m b ep
      have hb : b ∈ fs := by
        rcases b2 with q | q
        · exact q
        · cases q
      have hpos : 1 ≤ m := by
        have h1 := b3 x (hl x hx)
        have h2 : 1 ≤ cntV f left x := by
          unfold cntV
          exact List.length_pos_of_mem (a := x) (List.mem_filter.mpr ⟨hs x (hl x hx), by simpa using hx⟩)
        omega
      have hdec : (left.filter fun c => !decide (c ∈ f b)).length < left.length := by
        rw [b1] at hpos
        unfold cntV at hpos
        obtain ⟨o, ho⟩ := List.exists_mem_of_length_pos hpos
        obtain ⟨o1, o2⟩ := List.mem_filter.mp ho
        have o2' : o ∈ left := by simpa using o2
        have hle := List.length_filter_le (fun c => !decide (c ∈ f b)) left
        rcases Nat.lt_or_ge (left.filter fun c => !decide (c ∈ f b)).length left.length with z | z
        · exact z
        · have e := List.filter_sublist.eq_of_length_le (l₁ := left.filter fun c => !decide (c ∈ f b)) z
          rw [← e] at o2'
          have := (List.mem_filter.mp o2').2
          simp [o1] at this
      obtain ⟨i1, i2, i3⟩ := grow_steps hs n (left.filter fun c => !decide (c ∈ f b)) (by omega) fun c hc => hl c (List.mem_filter.mp hc).1
      have e : growV fs f (n + 1) [] left = b :: growV fs f n [] (left.filter fun c => !decide (c ∈ f b)) := by
        show (if left = [] then [] else match fs.foldl (bestV f left) none with
          | some (_, b) => growV fs f n ([] ++ [b]) (left.filter fun c => !decide (c ∈ f b))
          | none => []) = _
        rw [if_neg c, ep]
        dsimp only
        rw [growV_acc]
        rfl
      rw [e]
      refine ⟨fun d hd => ?_, ?_, fun k d hk => ?_⟩
      · rcases List.mem_cons.mp hd with rfl | hd
        · exact hb
        · exact i1 d hd
      · rw [darkV_cons]
        exact i2
      · cases k with
        | zero =>
          simp at hk
          subst hk
          rw [List.take_zero, darkV_nil]
          exact ⟨by omega, fun c hc => by rw [← b1]; exact b3 c hc⟩
        | succ k =>
          rw [List.take_succ_cons, darkV_cons]
          exact i3 k d (by simpa using hk)
theorem rising_dark {g : Hall} {f : Cell → List Cell} {left bs : List Cell} (h : Rising left) : Rising (darkV f left bs) := h.filter _
/-- found step by step -/
def stepL (g : Hall) : List Cell := grownL g []
theorem left_nil (g : Hall) : leftL g [] = floorsL g := by
  unfold leftL
  rw [cover_nil]
  simp
theorem step_steps {g : Hall} (ok : g.Ok) : (∀ b ∈ stepL g, b ∈ floorsL g) ∧ darkV (seenL g) (floorsL g) (stepL g) = [] ∧
    ∀ k b, (stepL g)[k]? = some b → 1 ≤ cntV (seenL g) (darkV (seenL g) (floorsL g) ((stepL g).take k)) b ∧ ∀ c ∈ floorsL g, cntV (seenL g) (darkV (seenL g) (floorsL g) ((stepL g).take k)) c ≤ cntV (seenL g) (darkV (seenL g) (floorsL g) ((stepL g).take k)) b := by
  have := grow_steps (fs := floorsL g) (f := seenL g) (fun c hc => floor_sees ok hc) 64 (floorsL g) (floors_len64 g ok) fun c hc => hc
  unfold stepL grownL
  rw [left_nil]
  exact this
theorem mem_dark {g : Hall} {bs : List Cell} {c : Cell} : c ∈ darkV (seenL g) (floorsL g) bs ↔ c ∈ floorsL g ∧ c ∉ coverL g bs := by
  unfold darkV
  rw [List.mem_filter, mem_cover]
  simp only [Bool.not_eq_true', List.any_eq_false, decide_eq_true_eq, seen_mem, not_and, not_exists]
  constructor
  · rintro ⟨h1, h2⟩
    exact ⟨h1, fun _ l hl hs => h2 l hl h1 hs⟩
  · rintro ⟨h1, h2⟩
    exact ⟨h1, fun l hl _ hs => h2 h1 l hl hs⟩
theorem filter_parts {α : Type} (p : α → Bool) (l : List α) : (l.filter p).length + (l.filter fun x => !p x).length = l.length := by
  induction l with
  | nil => rfl
  | cons x l ih =>
    cases h : p x <;> simp [h] <;> omega
theorem cover_dark (g : Hall) (bs : List Cell) : (coverL g bs).length + (darkV (seenL g) (floorsL g) bs).length = (floorsL g).length := by
  rw [← filter_parts (fun c => decide (c ∈ coverL g bs)) (floorsL g)]
  have e1 : (floorsL g).filter (fun c => decide (c ∈ coverL g bs)) = coverL g bs := Rising.ext ((rising_floors g).filter _) (rising_cover g bs) fun c => by
    rw [List.mem_filter]
    constructor
    · rintro ⟨_, h⟩
      simpa using h
    · intro h
      exact ⟨(mem_cover.mp h).1, by simpa using h⟩
  have e2 : ((floorsL g).filter fun c => !decide (c ∈ coverL g bs)) = darkV (seenL g) (floorsL g) bs := Rising.ext ((rising_floors g).filter _) (rising_dark (g := g) (rising_floors g)) fun c => by
    rw [List.mem_filter, mem_dark]
    simp
  rw [e1, e2]
theorem dark_snoc {f : Cell → List Cell} {left bs : List Cell} {b : Cell} : darkV f left (bs ++ [b]) = (darkV f left bs).filter fun c => !decide (c ∈ f b) := by
  unfold darkV
  rw [List.filter_filter]
  refine List.filter_congr fun c _ => ?_
  simp only [List.any_append, List.any_cons, List.any_nil, Bool.or_false]
  cases decide (c ∈ f b) <;> cases bs.any fun b => decide (c ∈ f b) <;> rfl
theorem gain_eq {g : Hall} {bs : List Cell} {b : Cell} : (coverL g (bs ++ [b])).length = (coverL g bs).length + cntV (seenL g) (darkV (seenL g) (floorsL g) bs) b := by
  have h1 := cover_dark g bs
  have h2 := cover_dark g (bs ++ [b])
  rw [dark_snoc] at h2
  have h3 := filter_parts (fun c => decide (c ∈ seenL g b)) (darkV (seenL g) (floorsL g) bs)
  have h4 : ((darkV (seenL g) (floorsL g) bs).filter fun c => decide (c ∈ seenL g b)) = (seenL g b).filter fun o => decide (o ∈ darkV (seenL g) (floorsL g) bs) := Rising.ext ((rising_dark (g := g) (rising_floors g)).filter _) ((rising_seen g b).filter _) fun c => by
    rw [List.mem_filter, List.mem_filter]
    simp
    exact And.comm
  rw [h4] at h3
  unfold cntV
  omega
theorem cnt_mono {f : Cell → List Cell} {l m : List Cell} (h : ∀ c ∈ l, c ∈ m) (b : Cell) : cntV f l b ≤ cntV f m b := by
  unfold cntV
  rw [← List.countP_eq_length_filter, ← List.countP_eq_length_filter]
  refine List.countP_mono_left fun o _ ho => ?_
  simp at ho ⊢
  exact h o ho
theorem dark_less {f : Cell → List Cell} {left bs bs' : List Cell} (h : ∀ b ∈ bs, b ∈ bs') {c : Cell} (hc : c ∈ darkV f left bs') : c ∈ darkV f left bs := by
  unfold darkV at *
  obtain ⟨h1, h2⟩ := List.mem_filter.mp hc
  refine List.mem_filter.mpr ⟨h1, ?_⟩
  simp only [Bool.not_eq_true', List.any_eq_false] at h2 ⊢
  exact fun b hb => h2 b (h b hb)
theorem step_nodup {g : Hall} (ok : g.Ok) : (stepL g).Nodup := by
  obtain ⟨_, _, h⟩ := step_steps ok
  refine List.pairwise_iff_getElem.mpr fun i j hi hj hij e => ?_
  have h1 := (h j _ (List.getElem?_eq_getElem hj)).1
  have h0 : cntV (seenL g) (darkV (seenL g) (floorsL g) ((stepL g).take j)) (stepL g)[j] = 0 := by
    unfold cntV
    rw [List.length_eq_zero_iff, List.filter_eq_nil_iff]
    intro o ho hd
    have hd' : o ∈ darkV (seenL g) (floorsL g) ((stepL g).take j) := by simpa using hd
    unfold darkV at hd'
    have h3 := (List.mem_filter.mp hd').2
    simp only [Bool.not_eq_true', List.any_eq_false, decide_eq_true_eq] at h3
    refine h3 (stepL g)[i] ?_ (e ▸ ho)
    refine List.mem_of_getElem? (i := i) ?_
    rw [List.getElem?_take_of_lt hij, List.getElem?_eq_getElem hi]
  omega
theorem step_unseen {g : Hall} (ok : g.Ok) : unseenL g (stepL g) = [] := by
  have h := (step_steps ok).2.1
  rw [List.eq_nil_iff_forall_not_mem]
  intro c hc
  unfold unseenL at hc
  obtain ⟨h1, h2⟩ := List.mem_filter.mp hc
  have : c ∈ darkV (seenL g) (floorsL g) (stepL g) := mem_dark.mpr ⟨h1, by simpa using h2⟩
  rw [h] at this
  cases this
/-- from one to the next -/
theorem step_falls {g : Hall} (ok : g.Ok) {k : Nat} {b b' : Cell} (h : (stepL g)[k]? = some b) (h' : (stepL g)[k + 1]? = some b') :
    cntV (seenL g) (darkV (seenL g) (floorsL g) ((stepL g).take (k + 1))) b' ≤ cntV (seenL g) (darkV (seenL g) (floorsL g) ((stepL g).take k)) b := by
  obtain ⟨h1, _, h2⟩ := step_steps ok
  refine Nat.le_trans (cnt_mono (fun c hc => dark_less (fun d hd => ?_) hc) b') ((h2 k b h).2 b' (h1 b' (List.mem_of_getElem? h')))
  exact (List.take_sublist_take_left (Nat.le_succ k)).subset hd
end Lw

set_option Elab.async false
set_option linter.all false
set_option maxRecDepth 100000
set_option maxHeartbeats 1000000
namespace Lw
open PySem PySem.Spec PyProof.Rows L2 DL
/-! ### lookers or not -/
theorem isi_tt (ds : List D) : dIsi "tuple" (.tup ds) = some (.bl true) := by
  have : kitB "tuple" "tuple" = some true := by decide +kernel
  show (kitB "tuple" "tuple").map D.bl = _
  rw [this]
  rfl
theorem isi_ii (i : Int) : dIsi "int" (.int i) = some (.bl true) := by
  have : kitB "int" "int" = some true := by decide +kernel
  show (kitB "int" "int").map D.bl = _
  rw [this]
  rfl
theorem isi_bi (i : Int) : dIsi "bool" (.int i) = some (.bl false) := by
  have : kitB "int" "bool" = some false := by decide +kernel
  show (kitB "int" "bool").map D.bl = _
  rw [this]
  rfl
@[simp] theorem e_is_whole (i a b : Int) : m_is_whole [.int i, .int a, .int b] = .ok (.bl (decide (a ≤ i) && decide (i ≤ b))) := by
  simp [m_is_whole, runB, rho0, b_is_whole, isi_ii, isi_bi]
  by_cases h : a ≤ i <;> simp [h]
def cellB (c : Cell) : Bool := (decide (0 ≤ c.1) && decide (c.1 ≤ 8)) && (decide (0 ≤ c.2) && decide (c.2 ≤ 8))
theorem dNe_i (i j : Int) : dNe (.int i) (.int j) = some (.bl (!decide (i = j))) := dNe_int i j
@[simp] theorem e_is_cell (c : Cell) : m_is_cell [cellD c] = .ok (.bl (cellB c)) := by
  have e : cellD c = D.tup [.int c.1, .int c.2] := rfl
  simp [m_is_cell, runB, rho0, b_is_cell, e, isi_tt]
  unfold cellB
  by_cases h1 : 0 ≤ c.1 <;> by_cases h2 : c.1 ≤ 8 <;> simp [h1, h2]
def ltB (a b : Cell) : Bool := decide (a.1 < b.1) || (decide (a.1 = b.1) && decide (a.2 < b.2))
theorem ltB_iff {a b : Cell} : ltB a b = true ↔ ltC a b := by
  unfold ltB ltC
  simp
@[simp] theorem dLt_cell (a b : Cell) : dLt (cellD a) (cellD b) = some (.bl (ltB a b)) := by
  show some (D.bl (HT.lexLt [a.1, a.2] [b.1, b.2])) = _
  congr 2
  rw [HT.lexLt_cons, HT.lexLt_cons]
  unfold ltB
  by_cases h1 : a.1 = b.1
  · rw [if_pos h1]
    by_cases h2 : a.2 = b.2
    · simp [h1, h2, HT.lexLt]
    · simp [h1, h2]
  · simp [h1]
theorem sIx_m1 (n : Nat) (d : Nat) (h : 1 ≤ n) : HT.sIx n d (some (-1)) = n - 1 := by
  unfold HT.sIx
  simp
  omega
theorem sIx_1 (n d : Nat) (h : 1 ≤ n) : HT.sIx n d (some 1) = 1 := sIx_in (by decide) (by omega)
def adjB : List Cell → Bool
  | a :: b :: r => ltB a b && adjB (b :: r)
  | _ => true
theorem adj_zip : ∀ ls : List Cell, ((ls.dropLast).zip (ls.drop 1)).all (fun p => ltB p.1 p.2) = adjB ls
  | [] => rfl
  | [a] => rfl
  | a :: b :: r => by
    have ih := adj_zip (b :: r)
    simp only [List.dropLast_cons₂, List.drop_succ_cons, List.drop_zero, List.zip_cons_cons, List.all_cons, adjB] at ih ⊢
    rw [← ih]
theorem adj_rising : ∀ {ls : List Cell}, adjB ls = true ↔ Rising ls
  | [] => by simp [adjB]
  | [a] => by simp [adjB]
  | a :: b :: r => by
    have ih := adj_rising (ls := b :: r)
    unfold adjB
    rw [Bool.and_eq_true, ltB_iff, ih]
    constructor
    · rintro ⟨h1, h2⟩
      refine List.pairwise_cons.mpr ⟨fun c hc => ?_, h2⟩
      rcases List.mem_cons.mp hc with rfl | hc
      · exact h1
      · exact ltC_tr h1 ((List.pairwise_cons.mp h2).1 c hc)
    · intro h
      exact ⟨(List.pairwise_cons.mp h).1 b (List.mem_cons_self ..), (List.pairwise_cons.mp h).2⟩
def lookB (g : Hall) (ls : List Cell) : Bool := (ls.all fun c => decide (c ∈ floorsL g)) && adjB ls
theorem e_are_lookers {g : Hall} (ok : g.Ok) (ls : List Cell) (hl : ls.length ≤ 1000) : m_are_lookers [hallD g, .tup (ls.map cellD)] = .ok (.bl (lookB g ls)) := by
  show outOf (b_are_lookers (rho0 5 [hallD g, .tup (ls.map cellD)])) = _
  simp [rho0]
  unfold b_are_lookers lookB
  have fl : ∀ c ∈ floorsL g, cellB c = true := fun c hc => by
    obtain ⟨a, b, d, e⟩ := Hall.ins_iff.mp (mem_floors.mp hc).1
    have := ok.h8
    have := ok.w8
    unfold cellB
    simp
    omega
  have t1 : eT (eCall dAll (aCons (eComp (iVal (eVar 1)) (.nm 2) tYes' (eFn m_is_cell (aCons (eVar 2) aNil)) [2]) aNil)) [.fz (hallD g), .fz (.tup (ls.map cellD)), .no, .no, .no] = .ok (ls.all cellB) := by
    simp
    rw [compL_all cellD (fun c => .bl (cellB c)) ls fun c hc => ⟨_, rfl, by simp⟩]
    simp [dAll_map]
  have t2 : eT (eCall dAll (aCons (eComp (iVal (eVar 1)) (.nm 2) tYes' (e2 dIn (eVar 2) (eFn m_floors (aCons (eVar 0) aNil))) [2]) aNil)) [.fz (hallD g), .fz (.tup (ls.map cellD)), .no, .no, .no] = .ok (ls.all fun c => decide (c ∈ floorsL g)) := by
    simp
    rw [compL_all cellD (fun c => .bl (decide (c ∈ floorsL g))) ls fun c hc => ⟨_, rfl, by simp [ok]⟩]
    simp [dAll_map]
  cases c1 : ls.all cellB with
  | false =>
    rw [c1] at t1
    have c2 : (ls.all fun c => decide (c ∈ floorsL g)) = false := by
      rw [List.all_eq_false] at c1 ⊢
      obtain ⟨x, h1, h2⟩ := c1
      exact ⟨x, h1, fun h => h2 (fl x (by simpa using h))⟩
    rw [c2, sSeq_eq, q_yes1 (by simp only [tor_eq, tnot_eq, t1]; simp [isi_tt])]
    rfl
  | true =>
    rw [c1] at t1
    rw [q_pass (by simp only [tor_eq, tnot_eq, t1]; simp [isi_tt])]
    cases c2 : (ls.all fun c => decide (c ∈ floorsL g)) with
    | false =>
      rw [c2] at t2
      rw [sSeq_eq, q_yes1 (by simp only [tnot_eq, t2]; rfl)]
      rfl
    | true =>
      rw [c2] at t2
      rw [q_pass (by simp only [tnot_eq, t2]; rfl)]
      refine (congrArg outOf (q_ret (d := .bl (adjB ls)) ?_)).trans rfl
      simp
      have e1 : cutD (ls.map cellD) none (some (-1)) = ls.dropLast.map cellD := by
        unfold DL.cutD
        cases ls with
        | nil => rfl
        | cons a r =>
          rw [List.length_map, sIx_m1 _ _ (by simp), sIx_no, List.drop_zero, Nat.sub_zero, ← List.map_take, List.dropLast_eq_take]
      have e2 : cutD (ls.map cellD) (some 1) none = (ls.drop 1).map cellD := by
        unfold DL.cutD
        cases ls with
        | nil => rfl
        | cons a r =>
          rw [List.length_map, sIx_1 _ _ (by simp), sIx_no, List.take_of_length_le (by simp), ← List.map_drop]
      rw [e1, e2]
      have hz : zipO [.tup (ls.dropLast.map cellD), .tup ((ls.drop 1).map cellD)] = some (((ls.dropLast).zip (ls.drop 1)).map fun p => .tup [cellD p.1, cellD p.2]) := by
        show (if (ls.dropLast.map cellD).length ≤ sizeLine then some (zipD (ls.dropLast.map cellD) ((ls.drop 1).map cellD)) else none) = _
        rw [if_pos (few (by simp; omega))]
        unfold zipD
        rw [List.zip_map, List.map_map]
        rfl
      rw [hz]
      simp only [of_some, bind_ok]
      rw [compL_all (fun p : Cell × Cell => D.tup [cellD p.1, cellD p.2]) (fun p => .bl (ltB p.1 p.2)) ((ls.dropLast).zip (ls.drop 1)) fun p hp => ⟨_, rfl, by simp⟩]
      simp only [bind_ok]
      rw [dAll_map, adj_zip]
      rfl
theorem lookB_true {g : Hall} {ls : List Cell} (h1 : ∀ l ∈ ls, l ∈ floorsL g) (h2 : Rising ls) : lookB g ls = true := by
  unfold lookB
  rw [adj_rising.mpr h2, Bool.and_true, List.all_eq_true]
  intro l hl
  simpa using h1 l hl
/-! ### sets of cells -/
theorem sort_cells (l : List Cell) : dSort [.tup (l.map cellD)] = some (.lst ((sortP l).map cellD)) := by
  rw [dSort_tup]
  have := pairsOf_map l
  rw [show (l.map cellD) = l.map tupP from rfl, this]
  rfl
theorem setOf_cells (f : List Cell → D) (l : List Cell) (hb : ∀ c ∈ l, 0 ≤ c.1 ∧ c.1 < 64 ∧ 0 ≤ c.2 ∧ c.2 < 64) (hl : (ddP l).length ≤ 62) : dSetOf f [.tup (l.map cellD)] = some (f (ddP l)) ∧ dSetOf f [.lst (l.map cellD)] = some (f (ddP l)) := by
  have h1 : (l.all inB64 && decide ((ddP l).length ≤ 62)) = true := by
    rw [Bool.and_eq_true, List.all_eq_true]
    refine ⟨fun c hc => ?_, by simpa using hl⟩
    obtain ⟨a, b, d, e⟩ := hb c hc
    unfold inB64
    simp
    omega
  have key : ∀ d, seqD d = some (l.map cellD) → dSetOf f [d] = some (f (ddP l)) := fun d e => by
    show (seqD d).bind (fun ds => (pairsOf ds).bind fun ps => if (ps.all inB64 && decide ((ddP ps).length ≤ 62)) = true then some (f (ddP ps)) else none) = _
    rw [e, Option.bind_some, show (l.map cellD) = l.map tupP from rfl, pairsOf_map, Option.bind_some, if_pos h1]
  exact ⟨key _ rfl, key _ rfl⟩
theorem ddP_id {l : List Cell} (h : l.Nodup) : ddP l = l := by
  induction l with
  | nil => rfl
  | cons x r ih =>
    obtain ⟨h1, h2⟩ := List.nodup_cons.mp h
    unfold ddP
    rw [ih h2, if_neg h1]
end Lw

set_option Elab.async false
set_option linter.all false
set_option maxRecDepth 100000
set_option maxHeartbeats 1000000
namespace Lw
open PySem PySem.Spec PyProof.Rows L2 DL
/-! ### halls alike -/
theorem hall_ext {a b : Hall} (oa : a.Ok) (ob : b.Ok) (hh : a.h = b.h) (hw : a.w = b.w) (hf : a.far = b.far) (h : ∀ c, a.ins c = true → a.at c = b.at c) : a = b := by
  have hr : a.rows = b.rows := by
    apply List.ext_getElem?
    intro i
    by_cases hi : i < a.h
    · rw [row_get hi, row_get (show i < b.h by omega)]
      congr 1
      have la := ok_len oa hi
      have lb := ok_len ob (show i < b.h by omega)
      apply List.ext_getElem?
      intro j
      by_cases hj : j < a.w
      · have hc : a.ins ((i : Int), (j : Int)) = true := Hall.ins_iff.mpr ⟨by simp, by simpa using hi, by simp, by simpa using hj⟩
        have := h _ hc
        unfold Hall.at at this
        simp only [Int.toNat_natCast, List.getD_eq_getElem?_getD] at this
        rw [List.getElem?_eq_getElem (by omega), List.getElem?_eq_getElem (by omega)] at this ⊢
        simpa using this
      · rw [List.getElem?_eq_none (by omega), List.getElem?_eq_none (by omega)]
    · unfold Hall.h at hi hh
      rw [List.getElem?_eq_none (by omega), List.getElem?_eq_none (by omega)]
  cases a
  cases b
  simp at hr hf
  simp [hr, hf]
where ok_len {g : Hall} (ok : g.Ok) {i : Nat} (h : i < g.h) : (g.row i).length = g.w := ok.rowlen (by omega) (by omega)
/-- a hall's cells as another's -/
structure Iso (g g' : Hall) (t : Cell → Cell) : Prop where
  ins : ∀ c, g.ins c = true → g'.ins (t c) = true
  sur : ∀ d, g'.ins d = true → ∃ c, g.ins c = true ∧ t c = d
  at_ : ∀ c, g.ins c = true → g'.at (t c) = g.at c
  dist : ∀ a b, dist2 (t a) (t b) = dist2 a b
  far : g'.far = g.far
theorem dist_zero {a b : Cell} : dist2 a b = 0 ↔ a = b := by
  unfold dist2
  have h1 := sq_nonneg (a.1 - b.1)
  have h2 := sq_nonneg (a.2 - b.2)
  constructor
  · intro h
    have e1 : (a.1 - b.1) * (a.1 - b.1) = 0 := by omega
    have e2 : (a.2 - b.2) * (a.2 - b.2) = 0 := by omega
    have f1 : a.1 - b.1 = 0 := by rcases Int.mul_eq_zero.mp e1 with z | z <;> exact z
    have f2 : a.2 - b.2 = 0 := by rcases Int.mul_eq_zero.mp e2 with z | z <;> exact z
    exact Prod.ext (by omega) (by omega)
  · intro h
    subst h
    simp
theorem Iso.inj {g g' : Hall} {t : Cell → Cell} (i : Iso g g' t) {a b : Cell} (h : t a = t b) : a = b := by
  rw [← dist_zero, ← i.dist, h, dist_zero]
theorem Iso.refl (g : Hall) : Iso g g id := ⟨fun _ h => h, fun d h => ⟨d, h, rfl⟩, fun _ _ => rfl, fun _ _ => rfl, rfl⟩
theorem Iso.trans {g g' g'' : Hall} {t u : Cell → Cell} (i : Iso g g' t) (j : Iso g' g'' u) : Iso g g'' (fun c => u (t c)) where
  ins := fun c h => j.ins _ (i.ins c h)
  sur := fun d h => by
    obtain ⟨e, h1, rfl⟩ := j.sur d h
    obtain ⟨c, h2, rfl⟩ := i.sur e h1
    exact ⟨c, h2, rfl⟩
  at_ := fun c h => (j.at_ _ (i.ins c h)).trans (i.at_ c h)
  dist := fun a b => (j.dist _ _).trans (i.dist a b)
  far := j.far.trans i.far
theorem sq_flip (x y : Int) : (x - y) * (x - y) = (y - x) * (y - x) := by
  have : x - y = -(y - x) := by omega
  rw [this, Int.neg_mul_neg]
theorem iso_mir {g : Hall} (ok : g.Ok) : Iso g (mirG g) (mirC g) where
  ins := fun c h => (mirC_ins ok c).trans h
  sur := fun d h => by
    refine ⟨mirC g d, ?_, ?_⟩
    · rw [Hall.ins_iff] at h ⊢
      rw [mirG_h, mirG_w ok] at h
      unfold mirC
      dsimp only
      omega
    · unfold mirC
      exact Prod.ext rfl (by dsimp only; omega)
  at_ := fun c h => mirC_at ok h
  dist := fun a b => by
    unfold dist2 mirC
    dsimp only
    have : (g.w : Int) - 1 - a.2 - ((g.w : Int) - 1 - b.2) = b.2 - a.2 := by omega
    rw [this, sq_flip b.2 a.2]
  far := rfl
theorem iso_tur {g : Hall} (ok : g.Ok) : Iso g (turG g) (turC g) where
  ins := fun c h => (turC_ins ok c).trans h
  sur := fun d h => by
    refine ⟨((g.h : Int) - 1 - d.2, d.1), ?_, ?_⟩
    · rw [Hall.ins_iff] at h ⊢
      rw [turG_h, turG_w ok] at h
      dsimp only
      omega
    · unfold turC
      exact Prod.ext rfl (by dsimp only; omega)
  at_ := fun c h => turC_at ok h
  dist := fun a b => by
    unfold dist2 turC
    dsimp only
    have : (g.h : Int) - 1 - a.1 - ((g.h : Int) - 1 - b.1) = b.1 - a.1 := by omega
    rw [this, sq_flip b.1 a.1]
    omega
  far := rfl
/-! turning round -/
section
variable {g : Hall} (ok : g.Ok)
include ok
theorem tur4 : turG (turG (turG (turG g))) = g := by
  have o1 := turG_ok ok
  have o2 := turG_ok o1
  have o3 := turG_ok o2
  have o4 := turG_ok o3
  refine (hall_ext ok o4 (by rw [turG_h, turG_w o2, turG_h, turG_w ok]) (by rw [turG_w o3, turG_h, turG_w o1, turG_h]) rfl fun c hc => ?_).symm
  have i1 := (turC_ins ok c).trans hc
  have i2 := (turC_ins o1 _).trans i1
  have i3 := (turC_ins o2 _).trans i2
  have e := turC_at o3 i3
  rw [turC_at o2 i2, turC_at o1 i1, turC_at ok hc] at e
  rw [← e]
  congr 1
  unfold turC
  simp only [turG_h, turG_w ok, turG_w o1, turG_w o2]
  exact Prod.ext (by dsimp only; omega) (by dsimp only; omega)
theorem mir2 : mirG (mirG g) = g := by
  have o1 := mirG_ok ok
  have o2 := mirG_ok o1
  refine (hall_ext ok o2 (by rw [mirG_h, mirG_h]) (by rw [mirG_w o1, mirG_w ok]) rfl fun c hc => ?_).symm
  have i1 := (mirC_ins ok c).trans hc
  have e := mirC_at o1 i1
  rw [mirC_at ok hc] at e
  rw [← e]
  congr 1
  unfold mirC
  simp only [mirG_w ok]
  exact Prod.ext rfl (by dsimp only; omega)
/-- mirrored behind a turn -/
theorem mirtur_cell (c : Cell) : mirC (turG g) (turC g c) = turC (turG (turG (mirG g))) (turC (turG (mirG g)) (turC (mirG g) (mirC g c))) := by
  have o1 := mirG_ok ok
  have o2 := turG_ok o1
  have o3 := turG_ok o2
  unfold turC mirC
  simp only [turG_h, turG_w ok, turG_w o1, turG_w o2, mirG_h, mirG_w ok]
  exact Prod.ext (by first | (dsimp only; omega) | rfl) (by first | (dsimp only; omega) | rfl)
theorem mirtur : mirG (turG g) = turG (turG (turG (mirG g))) := by
  have o1 := mirG_ok ok
  have o2 := turG_ok o1
  have o3 := turG_ok o2
  have p1 := turG_ok ok
  refine hall_ext (mirG_ok p1) (turG_ok o3) (by rw [mirG_h, turG_h, turG_h, turG_w o2, turG_h, mirG_w ok]) (by rw [mirG_w p1, turG_w ok, turG_w o3, turG_h, turG_w o1, mirG_h]) rfl fun d hd => ?_
  obtain ⟨c', h1, rfl⟩ := (iso_mir p1).sur d hd
  obtain ⟨c, h2, rfl⟩ := (iso_tur ok).sur c' h1
  rw [mirC_at p1 h1, turC_at ok h2, mirtur_cell ok c]
  have i1 := (mirC_ins ok c).trans h2
  have i2 := (turC_ins o1 _).trans i1
  have i3 := (turC_ins o2 _).trans i2
  rw [turC_at o3 i3, turC_at o2 i2, turC_at o1 i1, mirC_at ok h2]
/-- each of the eight has the hall among its eight -/
theorem eight_back {q : Hall} (h : q ∈ eightL g) : g ∈ eightL q := by
  have o1 := turG_ok ok
  have o2 := turG_ok o1
  have o3 := turG_ok o2
  have m0 := mirG_ok ok
  have m1 := turG_ok m0
  have m2 := turG_ok m1
  have m3 := turG_ok m2
  have t4 := tur4 ok
  have s4 := tur4 m0
  have mm := mir2 ok
  have e1 := mirtur m0
  have e2 := mirtur m1
  have e3 := mirtur m2
  rw [mm] at e1
  rw [e1, t4] at e2
  rw [e2] at e3
  unfold eightL fourL at h ⊢
  simp only [List.cons_append, List.nil_append, List.mem_cons, List.not_mem_nil, or_false] at h ⊢
  rcases h with rfl | rfl | rfl | rfl | rfl | rfl | rfl | rfl
  · exact .inl rfl
  · exact .inr (.inr (.inr (.inl t4.symm)))
  · exact .inr (.inr (.inl t4.symm))
  · exact .inr (.inl t4.symm)
  · exact .inr (.inr (.inr (.inr (.inl mm.symm))))
  · rw [e1]
    exact .inr (.inr (.inr (.inr (.inr (.inl t4.symm)))))
  · rw [e2]
    exact .inr (.inr (.inr (.inr (.inr (.inr (.inl t4.symm))))))
  · rw [e3, t4]
    exact .inr (.inr (.inr (.inr (.inr (.inr (.inr t4.symm))))))
theorem eight_iso {q : Hall} (h : q ∈ eightL g) : q.Ok ∧ ∃ t, Iso g q t := by
  have o1 := turG_ok ok
  have o2 := turG_ok o1
  have o3 := turG_ok o2
  have m0 := mirG_ok ok
  have m1 := turG_ok m0
  have m2 := turG_ok m1
  have m3 := turG_ok m2
  have i1 := iso_tur ok
  have i2 := i1.trans (iso_tur o1)
  have i3 := i2.trans (iso_tur o2)
  have j0 := iso_mir ok
  have j1 := j0.trans (iso_tur m0)
  have j2 := j1.trans (iso_tur m1)
  have j3 := j2.trans (iso_tur m2)
  unfold eightL fourL at h
  simp only [List.cons_append, List.nil_append, List.mem_cons, List.not_mem_nil, or_false] at h
  rcases h with rfl | rfl | rfl | rfl | rfl | rfl | rfl | rfl
  · exact ⟨ok, _, Iso.refl _⟩
  · exact ⟨o1, _, i1⟩
  · exact ⟨o2, _, i2⟩
  · exact ⟨o3, _, i3⟩
  · exact ⟨m0, _, j0⟩
  · exact ⟨m1, _, j1⟩
  · exact ⟨m2, _, j2⟩
  · exact ⟨m3, _, j3⟩
end
/-- as many floor cells -/
theorem iso_floors {g g' : Hall} {t : Cell → Cell} (i : Iso g g' t) : (floorsL g').length = (floorsL g).length := by
  have p : ((floorsL g).map t).Perm (floorsL g') := by
    refine (List.perm_ext_iff_of_nodup ?_ (rising_floors g').nodup).mpr fun d => ?_
    · exact List.pairwise_map.mpr ((rising_floors g).nodup.imp fun h e => h (i.inj e))
    · rw [List.mem_map, mem_floors]
      constructor
      · rintro ⟨c, hc, rfl⟩
        obtain ⟨h1, h2⟩ := mem_floors.mp hc
        exact ⟨i.ins c h1, (i.at_ c h1).trans h2⟩
      · rintro ⟨h1, h2⟩
        obtain ⟨c, h3, rfl⟩ := i.sur d h1
        exact ⟨c, mem_floors.mpr ⟨h3, (i.at_ c h3).symm.trans h2⟩, rfl⟩
  have := p.length_eq
  rwa [List.length_map, eq_comm] at this
end Lw

set_option Elab.async false
set_option linter.all false
set_option maxRecDepth 100000
set_option maxHeartbeats 1000000
namespace Lw
open PySem PySem.Spec PyProof.Rows L2 DL
/-! ### ways through a hall: neighbours, parts -/
def four (c : Cell) : List Cell := [(c.1 + -1, c.2 + 0), (c.1 + 0, c.2 + -1), (c.1 + 0, c.2 + 1), (c.1 + 1, c.2 + 0)]
def okC (g : Hall) (c : Cell) : Bool := g.ins c && free g c
def nbrL (g : Hall) (c : Cell) : List Cell := (four c).filter (okC g)
@[simp] theorem e_neighbours {g : Hall} (ok : g.Ok) (c : Cell) : m_neighbours [hallD g, cellD c] = .ok (.lst ((nbrL g c).map cellD)) := by
  show outOf (b_neighbours (rho0 6 [hallD g, cellD c])) = _
  simp [rho0]
  unfold b_neighbours
  refine (congrArg outOf (q_set (d := .lst ((four c).map cellD)) ?_)).trans ?_
  · simp [compL, four, cellD]
  simp only [List.set_cons_succ, List.set_cons_zero]
  refine (congrArg outOf (q_ret (d := .lst ((nbrL g c).map cellD)) ?_)).trans rfl
  simp
  rw [compL_map cellD (okC g) cellD (four c) fun d hd => ⟨_, rfl, by
    cases h : g.ins d with
    | true => simp [ok, h, okC]
    | false => simp [ok, h, okC], fun _ => by simp⟩]
  rfl
theorem mem_nbr {g : Hall} {c d : Cell} : d ∈ nbrL g c ↔ okC g d = true ∧ dist2 c d = 1 := by
  unfold nbrL
  rw [List.mem_filter]
  have key : d ∈ four c ↔ dist2 c d = 1 := by
    unfold four dist2
    simp only [List.mem_cons, List.not_mem_nil, or_false, Prod.ext_iff]
    constructor
    · intro h
      have : (c.1 - d.1 = 0 ∧ (c.2 - d.2 = 1 ∨ c.2 - d.2 = -1)) ∨ (c.2 - d.2 = 0 ∧ (c.1 - d.1 = 1 ∨ c.1 - d.1 = -1)) := by omega
      rcases this with ⟨q1, q2 | q2⟩ | ⟨q1, q2 | q2⟩ <;> rw [q1, q2] <;> decide
    · intro h
      have p1 := sq_nonneg (c.1 - d.1)
      have p2 := sq_nonneg (c.2 - d.2)
      have q1 := sq_lt3 (x := c.1 - d.1) (by omega)
      have q2 := sq_lt3 (x := c.2 - d.2) (by omega)
      rcases q1 with q1 | q1 | q1 <;> rcases q2 with q2 | q2 | q2 <;> rw [q1, q2] at h <;> first | (exact absurd h (by decide)) | omega
  rw [key]
  exact And.comm
inductive Reach (g : Hall) (a : Cell) : Cell → Prop
  | refl : Reach g a a
  | step {b c : Cell} : Reach g a b → c ∈ nbrL g b → Reach g a c
theorem Reach.trans {g : Hall} {a b c : Cell} (h : Reach g a b) (k : Reach g b c) : Reach g a c := by
  induction k with
  | refl => exact h
  | step _ m ih => exact ih.step m
theorem Reach.ok {g : Hall} {a b : Cell} (h : Reach g a b) (ha : okC g a = true) : okC g b = true := by
  cases h with
  | refl => exact ha
  | step _ m => exact (mem_nbr.mp m).1
theorem dist2_flip (a b : Cell) : dist2 a b = dist2 b a := dist2_comm a b
theorem Reach.symm {g : Hall} {a b : Cell} (h : Reach g a b) (ha : okC g a = true) : Reach g b a := by
  induction h with
  | refl => exact .refl
  | @step b c hb m ih =>
    have hb' := hb.ok ha
    have : b ∈ nbrL g c := mem_nbr.mpr ⟨hb', by rw [dist2_flip]; exact (mem_nbr.mp m).2⟩
    exact (Reach.step .refl this).trans ih
/-! what part_of computes: found and to do -/
def addN (s : List Cell × List Cell) (o : Cell) : List Cell × List Cell := if o ∈ s.1 then s else (s.1 ++ [o], s.2 ++ [o])
def partStep (g : Hall) (s : List Cell × List Cell) : List Cell × List Cell := match s.2.getLast? with
  | some c => (nbrL g c).foldl addN (s.1, s.2.dropLast)
  | none => s
def partRun (g : Hall) : Nat → List Cell × List Cell → List Cell × List Cell
  | 0, s => s
  | n + 1, s => if s.2 = [] then s else partRun g n (partStep g s)
structure PInv (g : Hall) (a : Cell) (s : List Cell × List Cell) : Prop where
  nd : s.1.Nodup
  ndt : s.2.Nodup
  start : a ∈ s.1
  sub : ∀ c ∈ s.2, c ∈ s.1
  reach : ∀ c ∈ s.1, Reach g a c
  clos : ∀ c ∈ s.1, c ∉ s.2 → ∀ d ∈ nbrL g c, d ∈ s.1
theorem addN_fold : ∀ (os : List Cell) (s : List Cell × List Cell), s.1.Nodup → s.2.Nodup → (∀ c ∈ s.2, c ∈ s.1) →
    (os.foldl addN s).1.Nodup ∧ (os.foldl addN s).2.Nodup ∧ (∀ c ∈ (os.foldl addN s).2, c ∈ (os.foldl addN s).1) ∧ (∀ c, c ∈ (os.foldl addN s).1 ↔ c ∈ s.1 ∨ c ∈ os) ∧ (∀ c, c ∈ (os.foldl addN s).1 → c ∉ (os.foldl addN s).2 → c ∈ s.1 ∧ c ∉ s.2) ∧
    (os.foldl addN s).1.length + s.2.length = (os.foldl addN s).2.length + s.1.length
  | [], s, h1, h2, h3 => ⟨h1, h2, h3, fun c => by simp, fun c h4 h5 => ⟨h4, h5⟩, Nat.add_comm _ _⟩
  | o :: os, s, h1, h2, h3 => by
    rw [List.foldl_cons]
    by_cases c0 : o ∈ s.1
    · have e : addN s o = s := if_pos c0
      rw [e]
      obtain ⟨a1, a2, a3, a4, a5, a6⟩ := addN_fold os s h1 h2 h3
      refine ⟨a1, a2, a3, fun c => ?_, a5, a6⟩
      rw [a4, List.mem_cons]
      constructor
      · rintro (z | z)
        · exact .inl z
        · exact .inr (.inr z)
      · rintro (z | rfl | z)
        · exact .inl z
        · exact .inl c0
        · exact .inr z
    · have e : addN s o = (s.1 ++ [o], s.2 ++ [o]) := if_neg c0
      have c1 : o ∉ s.2 := fun z => c0 (h3 o z)
      have n1 : (s.1 ++ [o]).Nodup := List.nodup_append.mpr ⟨h1, by simp, fun a ha b hb ab => by
        simp at hb
        rw [ab, hb] at ha
        exact c0 ha⟩
      have n2 : (s.2 ++ [o]).Nodup := List.nodup_append.mpr ⟨h2, by simp, fun a ha b hb ab => by
        simp at hb
        rw [ab, hb] at ha
        exact c1 ha⟩
      rw [e]
      obtain ⟨a1, a2, a3, a4, a5, a6⟩ := addN_fold os (s.1 ++ [o], s.2 ++ [o]) n1 n2 (fun c hc => by
        rcases List.mem_append.mp hc with z | z
        · exact List.mem_append_left _ (h3 c z)
        · exact List.mem_append_right _ z)
      refine ⟨a1, a2, a3, fun c => ?_, fun c h4 h5 => ?_, ?_⟩
      · rw [a4]
        simp
        constructor
        · rintro ((z | z) | z)
          · exact .inl z
          · exact .inr (.inl z)
          · exact .inr (.inr z)
        · rintro (z | z | z)
          · exact .inl (.inl z)
          · exact .inl (.inr z)
          · exact .inr z
      · obtain ⟨b1, b2⟩ := a5 c h4 h5
        simp at b1 b2
        rcases b1 with z | z
        · exact ⟨z, b2.1⟩
        · exact (b2.2 z).elim
      · simp at a6
        omega
theorem part_step {g : Hall} {a : Cell} {s : List Cell × List Cell} (h : PInv g a s) (hne : s.2 ≠ []) : PInv g a (partStep g s) ∧ (partStep g s).2.length + s.1.length + 1 = (partStep g s).1.length + s.2.length := by
  obtain ⟨c, hc⟩ : ∃ c, s.2.getLast? = some c := ⟨s.2.getLast hne, List.getLast?_eq_some_getLast hne⟩
  have hcm : c ∈ s.2 := List.mem_of_getLast? hc
  have hsplit : s.2 = s.2.dropLast ++ [c] := by
    rw [List.getLast?_eq_some_getLast hne] at hc
    cases hc
    exact (List.dropLast_concat_getLast hne).symm
  have hnd : s.2.dropLast.Nodup := h.ndt.sublist (List.dropLast_sublist _)
  have hcn : c ∉ s.2.dropLast := fun z => by
    have := h.ndt
    rw [hsplit] at this
    exact (List.nodup_append.mp this).2.2 c z c (by simp) rfl
  have e : partStep g s = (nbrL g c).foldl addN (s.1, s.2.dropLast) := by
    unfold partStep
    rw [hc]
  obtain ⟨a1, a2, a3, a4, a5, a6⟩ := addN_fold (nbrL g c) (s.1, s.2.dropLast) h.nd hnd (fun d hd => h.sub d ((List.dropLast_sublist _).subset hd))
  have hl : s.2.length = s.2.dropLast.length + 1 := by
    rw [List.length_dropLast]
    have := List.length_pos_of_mem hcm
    omega
  rw [e]
  refine ⟨⟨a1, a2, (a4 a).mpr (.inl h.start), a3, fun d hd => ?_, fun d hd hdn x hx => ?_⟩, ?_⟩
  · rcases (a4 d).mp hd with z | z
    · exact h.reach d z
    · exact (h.reach c (h.sub c hcm)).step z
  · obtain ⟨b1, b2⟩ := a5 d hd hdn
    by_cases z : d = c
    · subst z
      exact (a4 x).mpr (.inr hx)
    · refine (a4 x).mpr (.inl (h.clos d b1 ?_ x hx))
      rw [hsplit, List.mem_append]
      rintro (q | q)
      · exact b2 q
      · exact z (by simpa using q)
  · dsimp only at a6
    omega
/-- it ends, closed -/
theorem part_run {g : Hall} {a : Cell} (ha : okC g a = true) : ∀ (n : Nat) (s : List Cell × List Cell), PInv g a s → s.2.length + ((cellsL g).length - s.1.length) ≤ n → PInv g a (partRun g n s) ∧ (partRun g n s).2 = []
  | 0, s, h, hn => by
    refine ⟨h, ?_⟩
    exact List.eq_nil_of_length_eq_zero (by show s.2.length = 0; omega)
  | n + 1, s, h, hn => by
    unfold partRun
    by_cases c : s.2 = []
    · rw [if_pos c]
      exact ⟨h, c⟩
    · rw [if_neg c]
      obtain ⟨h1, h2⟩ := part_step h c
      have bound : ∀ {s : List Cell × List Cell}, PInv g a s → s.1.length ≤ (cellsL g).length := fun {s} h => nodup_len h.nd fun x hx => by
        have := (h.reach x hx).ok ha
        unfold okC at this
        exact mem_cells.mpr (Bool.and_eq_true_iff.mp this).1
      have b1 := bound h1
      have b2 := bound h
      exact part_run ha n _ h1 (by omega)
def partL (g : Hall) (a : Cell) : List Cell := sortP (partRun g 200 ([a], [a])).1
theorem pinv0 (g : Hall) (a : Cell) : PInv g a ([a], [a]) := ⟨by simp, by simp, by simp, fun c h => h, fun c h => by
  simp at h
  subst h
  exact .refl, fun c h1 h2 => (h2 h1).elim⟩
theorem cells_len64 {g : Hall} (ok : g.Ok) : (cellsL g).length ≤ 64 := by
  rw [cellsL_len]
  have : g.h * g.w ≤ 8 * 8 := Nat.mul_le_mul ok.h8 ok.w8
  omega
theorem part_spec {g : Hall} (ok : g.Ok) {a : Cell} (ha : okC g a = true) : Rising (partL g a) ∧ ∀ c, c ∈ partL g a ↔ Reach g a c := by
  obtain ⟨h, he⟩ := part_run ha 200 ([a], [a]) (pinv0 g a) (by have := cells_len64 ok; simp; omega)
  refine ⟨sortP_rising h.nd, fun c => ?_⟩
  unfold partL
  rw [mem_sortP]
  constructor
  · exact h.reach c
  · intro r
    induction r with
    | refl => exact h.start
    | step _ m ih => exact h.clos _ ih (by rw [he]; intro z; cases z) _ m
end Lw

set_option Elab.async false
set_option linter.all false
set_option maxRecDepth 100000
set_option maxHeartbeats 1000000
namespace Lw
open PySem PySem.Spec PyProof.Rows L2 DL
/-! ### part_of, parts: the mirrors -/
def ρP (hd a : D) (s : List Cell × List Cell) (x4 : DL.Slot) : Rho := [.fz hd, .fz a, .ow (keysD s.1), .ow (.lst (s.2.map cellD)), x4]
theorem part_inner {hd a : D} (os : List Cell) (s : List Cell × List Cell) (x4 : DL.Slot) (h1 : s.1.length + os.length ≤ 800) (h2 : s.2.length + os.length ≤ 800) : ∃ y4, forL (.nm 4) b_part_of_1 (os.map cellD) (ρP hd a s x4) = .nx (ρP hd a (os.foldl addN s) y4) := by
  have len : ∀ (os : List Cell) (s : List Cell × List Cell), (os.foldl addN s).1.length ≤ s.1.length + os.length ∧ (os.foldl addN s).2.length ≤ s.2.length + os.length := by
    intro os
    induction os with
    | nil => intro s; simp
    | cons o os ih =>
      intro s
      rw [List.foldl_cons]
      have := ih (addN s o)
      have e : (addN s o).1.length ≤ s.1.length + 1 ∧ (addN s o).2.length ≤ s.2.length + 1 := by
        unfold addN
        split <;> simp
      simp
      omega
  obtain ⟨ρ', e1, y4, rfl⟩ := forL_ix0 (t := .nm 4) (body := b_part_of_1) cellD (fun i ρ => ∃ y4, ρ = ρP hd a ((os.take i).foldl addN s) y4) os (ρP hd a s x4) ⟨x4, rfl⟩ (by
    rintro i o ρ hi ⟨y4, rfl⟩
    have hlt : i < os.length := (List.getElem?_eq_some_iff.mp hi).1
    have et : (os.take (i + 1)).foldl addN s = addN ((os.take i).foldl addN s) o := by
      rw [List.take_succ, hi]
      simp
    have hb := len (os.take i) s
    rw [List.length_take] at hb
    generalize (os.take i).foldl addN s = u at et hb
    refine ⟨_, _, rfl, .inl ?_, ⟨.fz (cellD o), rfl⟩⟩
    rw [et]
    show b_part_of_1 [.fz hd, .fz a, .ow (keysD u.1), .ow (.lst (u.2.map cellD)), .fz (cellD o)] = _
    have hin : dNotIn (cellD o) (keysD u.1) = some (.bl (!decide (o ∈ u.1))) := by
      unfold dNotIn keysD
      rw [inB_dicC]
      simp
    unfold b_part_of_1 addN
    by_cases c : o ∈ u.1
    · rw [if_pos c, q_no1 (by simp [hin, c])]
      rfl
    · rw [if_neg c, q_yes1 (by simp [hin, c])]
      rw [q_seq (sPut_keys (ks := u.1) (c := o) rfl (by simp) (by simp) (by omega))]
      have ea : addC u.1 o = u.1 ++ [o] := by
        unfold addC
        rw [if_neg c]
      rw [ea]
      rw [sApp_ok (ds := u.2.map cellD) (d := cellD o) rfl (by simp) (by simp; omega)]
      simp [ρP])
  exact ⟨y4, by rw [e1, List.take_length]⟩
theorem nbr_len (g : Hall) (c : Cell) : (nbrL g c).length ≤ 4 := List.length_filter_le _ _
theorem part_loop {g : Hall} (ok : g.Ok) {a : Cell} (ha : okC g a = true) : ∀ (n N : Nat) (s : List Cell × List Cell) (x4 : DL.Slot), PInv g a s → s.2.length + ((cellsL g).length - s.1.length) ≤ n → n < N →
    ∃ y4, whileN b_part_of_3 b_part_of_2 N (ρP (hallD g) (cellD a) s x4) = .nx (ρP (hallD g) (cellD a) (partRun g n s) y4) := by
  have bound : ∀ {s : List Cell × List Cell}, PInv g a s → s.1.length ≤ 64 ∧ s.2.length ≤ 64 := fun {s} h => by
    have b1 := nodup_len h.nd fun x hx => by
      have := (h.reach x hx).ok ha
      unfold okC at this
      exact mem_cells.mpr (Bool.and_eq_true_iff.mp this).1
    have b2 := nodup_len h.ndt h.sub
    have := cells_len64 ok
    omega
  have test : ∀ (s : List Cell × List Cell) (x4 : DL.Slot), b_part_of_3 (ρP (hallD g) (cellD a) s x4) = .ok (decide (s.2 ≠ [])) := fun s x4 => by
    unfold b_part_of_3 ρP
    simp
    cases s.2 <;> simp
  intro n
  induction n with
  | zero =>
    intro N s x4 h hn hN
    have e : s.2 = [] := List.eq_nil_of_length_eq_zero (by omega)
    obtain ⟨M, rfl⟩ : ∃ M, N = M + 1 := ⟨N - 1, by omega⟩
    refine ⟨x4, ?_⟩
    unfold whileN
    rw [test]
    simp [e, partRun]
  | succ n ih =>
    intro N s x4 h hn hN
    obtain ⟨M, rfl⟩ : ∃ M, N = M + 1 := ⟨N - 1, by omega⟩
    unfold whileN partRun
    rw [test]
    by_cases c : s.2 = []
    · refine ⟨x4, ?_⟩
      simp [c]
    · have hl : s.2.getLast? = some (s.2.getLast c) := List.getLast?_eq_some_getLast c
      obtain ⟨h1, h2⟩ := part_step h c
      have b0 := bound h
      have b1 := bound h1
      have b1' := nodup_len h1.nd fun x hx => by
        have := (h1.reach x hx).ok ha
        unfold okC at this
        exact mem_cells.mpr (Bool.and_eq_true_iff.mp this).1
      have b0' := nodup_len h.nd fun x hx => by
        have := (h.reach x hx).ok ha
        unfold okC at this
        exact mem_cells.mpr (Bool.and_eq_true_iff.mp this).1
      obtain ⟨y4, e1⟩ := part_inner (hd := hallD g) (a := cellD a) (nbrL g (s.2.getLast c)) (s.1, s.2.dropLast) x4 (by have := nbr_len g (s.2.getLast c); dsimp only; omega) (by have := nbr_len g (s.2.getLast c); simp; omega)
      have eb : b_part_of_2 (ρP (hallD g) (cellD a) s x4) = .nx (ρP (hallD g) (cellD a) (partStep g s) y4) := by
        unfold b_part_of_2 sForPop
        have ep : popR 3 (ρP (hallD g) (cellD a) s x4) = some (cellD (s.2.getLast c), ρP (hallD g) (cellD a) (s.1, s.2.dropLast) x4) := by
          unfold popR ρP
          simp only [List.getElem?_cons_succ, List.getElem?_cons_zero, List.getLast?_map, hl, Option.map_some, List.set_cons_succ, List.set_cons_zero, List.map_dropLast]
        have e0 : eVar 0 (ρP (hallD g) (cellD a) s x4) = .ok (hallD g) := rfl
        rw [e0, sbind_ok, ep]
        dsimp only
        rw [e_neighbours ok, sbind_ok]
        dsimp only
        rw [e1]
        unfold partStep
        rw [hl]
      rw [if_neg c, eb]
      obtain ⟨z4, e2⟩ := ih M (partStep g s) y4 h1 (by omega) (by omega)
      refine ⟨z4, ?_⟩
      simp only [sbind_ok]
      rw [if_pos (by simp [c])]
      exact e2
@[simp] theorem e_part_of {g : Hall} (ok : g.Ok) {a : Cell} (ha : okC g a = true) : m_part_of [hallD g, cellD a] = .ok (.tup ((partL g a).map cellD)) := by
  show outOf (b_part_of (rho0 5 [hallD g, cellD a])) = _
  simp [rho0]
  unfold b_part_of
  refine (congrArg outOf (q_new (d := keysD [a]) (by simp [eD1, keysD, dicC]))).trans ?_
  simp only [List.set_cons_succ, List.set_cons_zero]
  refine (congrArg outOf (q_new (d := .lst ([a].map cellD)) (by simp))).trans ?_
  simp only [List.set_cons_succ, List.set_cons_zero]
  obtain ⟨y4, e⟩ := part_loop ok ha 200 10000 ([a], [a]) .no (pinv0 g a) (by have := cells_len64 ok; simp; omega) (by decide)
  refine (congrArg outOf (q_seq (x := sWhile 10000 b_part_of_3 b_part_of_2) e)).trans ?_
  refine (congrArg outOf q_frz).trans ?_
  refine (congrArg outOf q_frz).trans ?_
  unfold ρP
  simp only [frz_s, frz_0]
  refine (congrArg outOf (q_ret (d := .tup ((partL g a).map cellD)) ?_)).trans rfl
  have q : dSort [keysD (partRun g 200 ([a], [a])).1] = some (.lst ((partL g a).map cellD)) := by
    unfold keysD
    show dSort [.dic _] = _
    rw [dSort_dic, keysP_dicC]
    simp [partL, Function.comp_def]
    exact fun _ _ _ => rfl
  simp [q]
/-! parts -/
def partsS (g : Hall) (acc : List (List Cell)) (c : Cell) : List (List Cell) := if free g c = true ∧ (acc.any fun p => decide (c ∈ p)) = false then acc ++ [partL g c] else acc
def partsL (g : Hall) : List (List Cell) := (cellsL g).foldl (partsS g) []
def partD (p : List Cell) : D := .tup (p.map cellD)
@[simp] theorem e_parts {g : Hall} (ok : g.Ok) : m_parts [hallD g] = .ok (.tup ((partsL g).map partD)) := by
  show outOf (b_parts (rho0 4 [hallD g])) = _
  simp [rho0]
  unfold b_parts
  ((first | (refine (congrArg outOf (q_set (d := ?_) ?_)).trans ?_; rotate_left; focus (simp []; try exact rfl)) | (refine (congrArg outOf (q_drop (d := ?_) ?_)).trans ?_; rotate_left; focus (simp []; try exact rfl)) | (refine (congrArg outOf (q_new (d := ?_) ?_)).trans ?_; rotate_left; focus (simp []; try exact rfl)) | (refine (congrArg outOf (q_par (x := ?_) (y := ?_) ?_)).trans ?_; rotate_left 2; focus (simp []; try exact ⟨rfl, rfl⟩)) | (refine (congrArg outOf (q_unp (d := ?_) (ρ' := ?_) ?_ ?_)).trans ?_; rotate_left 2; focus (simp []; try exact rfl); focus (simp []; try exact rfl)) | (refine (congrArg outOf (q_pass ?_)).trans ?_; focus (simp []; done)) | (refine (congrArg outOf (q_ret (d := ?_) ?_)).trans ?_; rotate_left; focus (simp []; try exact rfl))); try simp only [List.set_cons_succ, List.set_cons_zero])
  have len : ∀ (cs : List Cell) (acc : List (List Cell)), (cs.foldl (partsS g) acc).length ≤ acc.length + cs.length := by
    intro cs
    induction cs with
    | nil => intro acc; simp
    | cons c cs ih =>
      intro acc
      rw [List.foldl_cons]
      have := ih (partsS g acc c)
      have e : (partsS g acc c).length ≤ acc.length + 1 := by
        unfold partsS
        split <;> simp
      simp
      omega
  have h64 := cells_len64 ok
  obtain ⟨ρ', e1, x2, x3, rfl⟩ := forL_ix0 (t := .nm 2) (body := b_parts_1) cellD (fun i ρ => ∃ x2 x3, ρ = [.fz (hallD g), .ow (.lst (((((cellsL g).take i).foldl (partsS g) [])).map partD)), x2, x3]) (cellsL g) [.fz (hallD g), .ow (.lst []), .no, .no] ⟨.no, .no, rfl⟩ (by
    rintro i c ρ hi ⟨x2, x3, rfl⟩
    have hc := mem_cells.mp (List.mem_of_getElem? hi)
    have hlt : i < (cellsL g).length := (List.getElem?_eq_some_iff.mp hi).1
    have et : ((cellsL g).take (i + 1)).foldl (partsS g) [] = partsS g (((cellsL g).take i).foldl (partsS g) []) c := by
      rw [List.take_succ, hi]
      simp
    have hb := len ((cellsL g).take i) []
    rw [List.length_take, List.length_nil] at hb
    generalize ((cellsL g).take i).foldl (partsS g) [] = u at et hb
    refine ⟨_, _, rfl, .inl ?_, ⟨.fz (cellD c), x3, rfl⟩⟩
    rw [et]
    show b_parts_1 [.fz (hallD g), .ow (.lst (u.map partD)), .fz (cellD c), x3] = _
    have ht : tand (eT (eFn m_is_free (aCons (eVar 0) (aCons (eVar 2) aNil)))) (tnot (eT (eCall dAny (aCons (eComp (iOwn (eOwn 1)) (.nm 3) tYes' (e2 dIn (eVar 2) (eVar 3)) [3]) aNil)))) [.fz (hallD g), .ow (.lst (u.map partD)), .fz (cellD c), x3] = .ok (free g c && !(u.any fun p => decide (c ∈ p))) := by
      simp [ok, hc]
      rw [compL_all partD (fun p => .bl (decide (c ∈ p))) u fun p hp => ⟨_, rfl, by simp [partD]⟩]
      simp [dAny_map]
      cases free g c <;> simp
    unfold b_parts_1 partsS
    by_cases z : free g c = true ∧ (u.any fun p => decide (c ∈ p)) = false
    · rw [if_pos z, q_yes1 (ht.trans (by rw [z.1, z.2]; rfl)), sApp_ok (ds := u.map partD) (d := partD (partL g c)) rfl (by
        have : okC g c = true := by unfold okC; rw [hc, z.1]; rfl
        simp [e_part_of ok this, partD]) (by simp; omega)]
      simp
    · rw [if_neg z, q_no1 (ht.trans (by
        congr 1
        cases f1 : free g c with
        | false => rfl
        | true =>
          cases f2 : (u.any fun p => decide (c ∈ p)) with
          | true => rfl
          | false => exact (z ⟨f1, f2⟩).elim))]
      rfl)
  rw [List.take_length] at e1
  refine (congrArg outOf (q_for (ds := (cellsL g).map cellD) (by simp [ok]) e1)).trans ?_
  refine (congrArg outOf q_frz).trans ?_
  simp only [frz_s, frz_0]
  refine (congrArg outOf (q_ret (d := .tup ((partsL g).map partD)) ?_)).trans rfl
  simp [partsL]
theorem part_eq {g : Hall} (ok : g.Ok) {a c : Cell} (ha : okC g a = true) (h : Reach g a c) : partL g c = partL g a := by
  have hc := h.ok ha
  refine Rising.ext (part_spec ok hc).1 (part_spec ok ha).1 fun d => ?_
  rw [(part_spec ok hc).2, (part_spec ok ha).2]
  exact ⟨fun k => h.trans k, fun k => (h.symm ha).trans k⟩
theorem parts_spec {g : Hall} (ok : g.Ok) : (partsL g).Nodup ∧ ∀ p, p ∈ partsL g ↔ ∃ a, okC g a = true ∧ p = partL g a := by
  have key : ∀ (cs : List Cell) (done : List Cell) (acc : List (List Cell)), (∀ c ∈ cs, g.ins c = true) → acc.Nodup → (∀ p ∈ acc, ∃ a, okC g a = true ∧ p = partL g a) → (∀ a ∈ done, okC g a = true → partL g a ∈ acc) →
      (cs.foldl (partsS g) acc).Nodup ∧ (∀ p ∈ cs.foldl (partsS g) acc, ∃ a, okC g a = true ∧ p = partL g a) ∧ ∀ a, (a ∈ done ∨ a ∈ cs) → okC g a = true → partL g a ∈ cs.foldl (partsS g) acc := by
    intro cs
    induction cs with
    | nil => exact fun done acc _ h1 h2 h3 => ⟨h1, h2, fun a ha hk => h3 a (ha.elim id fun z => by cases z) hk⟩
    | cons c cs ih =>
      intro done acc hi h1 h2 h3
      rw [List.foldl_cons]
      have step : (partsS g acc c).Nodup ∧ (∀ p ∈ partsS g acc c, ∃ a, okC g a = true ∧ p = partL g a) ∧ ∀ a ∈ c :: done, okC g a = true → partL g a ∈ partsS g acc c := by
        unfold partsS
        by_cases z : free g c = true ∧ (acc.any fun p => decide (c ∈ p)) = false
        · have hok : okC g c = true := by
            unfold okC
            rw [hi c (List.mem_cons_self ..), z.1]
            rfl
          rw [if_pos z]
          have hno : ∀ p ∈ acc, c ∉ p := fun p hp hc => by
            have := List.any_eq_false.mp z.2 p hp
            simp [hc] at this
          have hself : c ∈ partL g c := ((part_spec ok hok).2 c).mpr .refl
          refine ⟨List.nodup_append.mpr ⟨h1, by simp, fun a ha b hb e => ?_⟩, fun p hp => ?_, fun a ha hk => ?_⟩
          · simp at hb
            subst hb
            subst e
            exact hno _ ha hself
          · rcases List.mem_append.mp hp with q | q
            · exact h2 p q
            · exact ⟨c, hok, by simpa using q⟩
          · rcases List.mem_cons.mp ha with rfl | ha
            · exact List.mem_append_right _ (by simp)
            · exact List.mem_append_left _ (h3 a ha hk)
        · rw [if_neg z]
          refine ⟨h1, h2, fun a ha hk => ?_⟩
          rcases List.mem_cons.mp ha with rfl | ha
          · have hf : free g a = true := by
              unfold okC at hk
              exact (Bool.and_eq_true_iff.mp hk).2
            cases q : (acc.any fun p => decide (a ∈ p)) with
            | false => exact (z ⟨hf, q⟩).elim
            | true =>
              obtain ⟨p, hp, hm⟩ := List.any_eq_true.mp q
              obtain ⟨b, hb, rfl⟩ := h2 p hp
              have hr := ((part_spec ok hb).2 a).mp (by simpa using hm)
              rw [part_eq ok hb hr]
              exact hp
          · exact h3 a ha hk
      obtain ⟨s1, s2, s3⟩ := step
      obtain ⟨r1, r2, r3⟩ := ih (c :: done) (partsS g acc c) (fun d hd => hi d (List.mem_cons_of_mem _ hd)) s1 s2 s3
      refine ⟨r1, r2, fun a ha hk => r3 a ?_ hk⟩
      rcases ha with ha | ha
      · exact .inl (List.mem_cons_of_mem _ ha)
      · rcases List.mem_cons.mp ha with rfl | ha
        · exact .inl (List.mem_cons_self ..)
        · exact .inr ha
  obtain ⟨k1, k2, k3⟩ := key (cellsL g) [] [] (fun c hc => mem_cells.mp hc) (by simp) (fun p h => by cases h) (fun a h => by cases h)
  refine ⟨k1, fun p => ⟨k2 p, ?_⟩⟩
  rintro ⟨a, ha, rfl⟩
  have : g.ins a = true := by
    unfold okC at ha
    exact (Bool.and_eq_true_iff.mp ha).1
  exact k3 a (.inr (mem_cells.mpr this)) ha
/-! turned parts -/
section
variable {g g' : Hall} {t : Cell → Cell} (i : Iso g g' t)
include i
theorem iso_free {c : Cell} (h : g.ins c = true) : free g' (t c) = free g c := by
  unfold free
  rw [i.at_ c h]
theorem iso_ok {c : Cell} (h : g.ins c = true) : okC g' (t c) = okC g c := by
  unfold okC
  rw [i.ins c h, h, iso_free i h]
theorem okC_ins {g : Hall} {c : Cell} (h : okC g c = true) : g.ins c = true := by
  unfold okC at h
  exact (Bool.and_eq_true_iff.mp h).1
theorem iso_reach {a c : Cell} (ha : okC g a = true) (h : Reach g a c) : Reach g' (t a) (t c) := by
  induction h with
  | refl => exact .refl
  | @step b c hb m ih =>
    obtain ⟨m1, m2⟩ := mem_nbr.mp m
    exact ih.step (mem_nbr.mpr ⟨by rw [iso_ok i (okC_ins i m1)]; exact m1, by rw [i.dist]; exact m2⟩)
theorem iso_reach' {a : Cell} (ha : okC g a = true) {e : Cell} (h : Reach g' (t a) e) : ∃ c, e = t c ∧ Reach g a c := by
  induction h with
  | refl => exact ⟨a, rfl, .refl⟩
  | @step b c hb m ih =>
    obtain ⟨b', rfl, hr⟩ := ih
    obtain ⟨m1, m2⟩ := mem_nbr.mp m
    obtain ⟨c', h1, rfl⟩ := i.sur c (okC_ins i m1)
    rw [iso_ok i h1] at m1
    rw [i.dist] at m2
    exact ⟨c', rfl, hr.step (mem_nbr.mpr ⟨m1, m2⟩)⟩
theorem iso_part (ok : g.Ok) (ok' : g'.Ok) {a : Cell} (ha : okC g a = true) : partL g' (t a) = sortP ((partL g a).map t) := by
  have ha' : okC g' (t a) = true := by
    rw [iso_ok i (okC_ins i ha)]
    exact ha
  have hn : ((partL g a).map t).Nodup := List.pairwise_map.mpr ((part_spec ok ha).1.nodup.imp fun h e => h (i.inj e))
  refine Rising.ext (part_spec ok' ha').1 (sortP_rising hn) fun d => ?_
  rw [(part_spec ok' ha').2, mem_sortP, List.mem_map]
  constructor
  · intro h
    obtain ⟨c, rfl, hr⟩ := iso_reach' i ha h
    exact ⟨c, ((part_spec ok ha).2 c).mpr hr, rfl⟩
  · rintro ⟨c, hc, rfl⟩
    exact iso_reach i ha (((part_spec ok ha).2 c).mp hc)
theorem iso_parts (ok : g.Ok) (ok' : g'.Ok) : ((partsL g).map fun p => sortP (p.map t)).Perm (partsL g') := by
  obtain ⟨n1, m1⟩ := parts_spec ok
  obtain ⟨n2, m2⟩ := parts_spec ok'
  refine (List.perm_ext_iff_of_nodup ?_ n2).mpr fun q => ?_
  · refine List.pairwise_map.mpr (List.Pairwise.imp_of_mem (fun {p p'} hp hp' hne e => hne ?_) n1)
    obtain ⟨a, ha, rfl⟩ := (m1 p).mp hp
    obtain ⟨b, hb, rfl⟩ := (m1 p').mp hp'
    refine Rising.ext (part_spec ok ha).1 (part_spec ok hb).1 fun c => ?_
    have key : ∀ (p : List Cell), t c ∈ sortP (p.map t) ↔ c ∈ p := fun p => by
      rw [mem_sortP, List.mem_map]
      exact ⟨fun ⟨d, h1, h2⟩ => by rw [← i.inj h2]; exact h1, fun h => ⟨c, h, rfl⟩⟩
    have e' : sortP ((partL g a).map t) = sortP ((partL g b).map t) := e
    rw [← key, e', key]
  · rw [List.mem_map, m2]
    constructor
    · rintro ⟨p, hp, rfl⟩
      obtain ⟨a, ha, rfl⟩ := (m1 p).mp hp
      refine ⟨t a, by rw [iso_ok i (okC_ins i ha)]; exact ha, (iso_part i ok ok' ha).symm⟩
    · rintro ⟨b, hb, rfl⟩
      obtain ⟨a, h1, rfl⟩ := i.sur b (okC_ins i hb)
      rw [iso_ok i h1] at hb
      exact ⟨partL g a, (m1 _).mpr ⟨a, hb, rfl⟩, (iso_part i ok ok' hb).symm⟩
theorem iso_parts_len (ok : g.Ok) (ok' : g'.Ok) : (partsL g').length = (partsL g).length := by
  have := (iso_parts i ok ok').length_eq
  rwa [List.length_map, eq_comm] at this
theorem iso_parts_lens (ok : g.Ok) (ok' : g'.Ok) : ((partsL g').map List.length).Perm ((partsL g).map List.length) := by
  have := (iso_parts i ok ok').map List.length
  rw [List.map_map] at this
  have e : (List.length ∘ fun p : List Cell => sortP (p.map t)) = List.length := by
    funext p
    show (sortP (p.map t)).length = p.length
    rw [(sortB_perm leP (p.map t)).length_eq, List.length_map]
  rw [e] at this
  exact this.symm
end
end Lw

set_option Elab.async false
set_option linter.all false
set_option maxRecDepth 100000
set_option maxHeartbeats 1000000
namespace Lw
open PySem PySem.Spec PyProof.Rows L2 DL
/-! ### all that is free, in order; the parts are all of it -/
def freeL (g : Hall) : List Cell := (cellsL g).filter (free g)
def rowFree (g : Hall) (r : Nat) : List Cell := (rowCells g.w r).filter (free g)
theorem free_flat (g : Hall) : freeL g = (List.range g.h).flatMap (rowFree g) := by
  unfold freeL cellsL rowFree
  rw [List.filter_flatMap]
theorem rising_free (g : Hall) : Rising (freeL g) := (rising_cells g).filter _
theorem mem_free {g : Hall} {c : Cell} : c ∈ freeL g ↔ okC g c = true := by
  unfold freeL okC
  rw [List.mem_filter, mem_cells, Bool.and_eq_true]
theorem free_len64 {g : Hall} (ok : g.Ok) : (freeL g).length ≤ 64 := Nat.le_trans (List.length_filter_le _ _) (cells_len64 ok)
theorem rowFree_len (g : Hall) (i : Nat) : (rowFree g i).length ≤ g.w := by
  unfold rowFree
  refine Nat.le_trans (List.length_filter_le _ _) ?_
  simp [rowCells]
theorem parts_flat {g : Hall} (ok : g.Ok) : (partsL g).flatten.Nodup ∧ ∀ c, c ∈ (partsL g).flatten ↔ okC g c = true := by
  obtain ⟨nd, mem⟩ := parts_spec ok
  refine ⟨?_, fun c => ?_⟩
  · refine List.pairwise_flatten.mpr ⟨fun p hp => ?_, ?_⟩
    · obtain ⟨a, ha, rfl⟩ := (mem p).mp hp
      exact (part_spec ok ha).1.nodup
    · refine List.Pairwise.imp_of_mem (fun {p q} hp hq hne => ?_) nd
      intro x hx y hy e
      subst e
      obtain ⟨a, ha, rfl⟩ := (mem p).mp hp
      obtain ⟨b, hb, rfl⟩ := (mem q).mp hq
      have r1 := (part_spec ok ha).2 x |>.mp hx
      have r2 := (part_spec ok hb).2 x |>.mp hy
      exact hne ((part_eq ok ha r1).symm.trans (part_eq ok hb r2))
  · rw [List.mem_flatten]
    constructor
    · rintro ⟨p, hp, hc⟩
      obtain ⟨a, ha, rfl⟩ := (mem p).mp hp
      exact ((part_spec ok ha).2 c |>.mp hc).ok ha
    · intro hc
      exact ⟨partL g c, (mem _).mpr ⟨c, hc, rfl⟩, (part_spec ok hc).2 c |>.mpr .refl⟩
theorem sort_parts {g : Hall} (ok : g.Ok) : sortP (partsL g).flatten = freeL g := by
  obtain ⟨nd, mem⟩ := parts_flat ok
  exact sortP_eq nd (rising_free g) fun c => by rw [mem, mem_free]
theorem parts_len64 {g : Hall} (ok : g.Ok) : (partsL g).flatten.length ≤ 64 := by
  have := (sortB_perm leP (partsL g).flatten).length_eq
  have e := sort_parts ok
  unfold sortP at e
  rw [e] at this
  have := free_len64 ok
  omega
theorem in_dotO' {g : Hall} (ok : g.Ok) {c : Cell} (h : g.ins c = true) : dIn (.str (mkS [g.at c])) (.str ".o") = some (.bl (free g c)) := by
  rw [show (".o" : Str) = mkS [46, 111] by decide +kernel]
  unfold dIn
  rw [in_str1]
  have : decide (g.at c ∈ [46, 111]) = free g c := by
    rw [Bool.eq_iff_iff, free_iff, decide_eq_true_eq]
    simp only [List.mem_cons, List.not_mem_nil, or_false]
    rcases ok.at_ok h with z | z | z | z <;> rw [z] <;> decide
  rw [this]
  rfl
theorem dotO_code (k : Nat) : dIn (.str (mkS [k])) (.str ".o") = some (.bl (decide (k = 46 ∨ k = 111))) := by
  rw [show (".o" : Str) = mkS [46, 111] by decide +kernel]
  unfold dIn
  rw [in_str1]
  have : decide (k ∈ [46, 111]) = decide (k = 46 ∨ k = 111) := by
    rw [Bool.eq_iff_iff]
    simp
  rw [this]
  rfl
theorem e_law_are_all {g : Hall} (ok : g.Ok) : m__law_are_all [hallD g, .tup ((partsL g).map partD)] = .ok (.bl true) := by
  have h8 := ok.h8
  have w8 := ok.w8
  have p64 := parts_len64 ok
  have sp := sort_parts ok
  generalize partsL g = ps at *
  show outOf (b__law_are_all (rho0 9 [hallD g, .tup (ps.map partD)])) = _
  simp [rho0]
  unfold b__law_are_all
  ((first | (refine (congrArg outOf (q_set (d := ?_) ?_)).trans ?_; rotate_left; focus (simp []; try exact rfl)) | (refine (congrArg outOf (q_drop (d := ?_) ?_)).trans ?_; rotate_left; focus (simp []; try exact rfl)) | (refine (congrArg outOf (q_new (d := ?_) ?_)).trans ?_; rotate_left; focus (simp []; try exact rfl)) | (refine (congrArg outOf (q_par (x := ?_) (y := ?_) ?_)).trans ?_; rotate_left 2; focus (simp []; try exact ⟨rfl, rfl⟩)) | (refine (congrArg outOf (q_unp (d := ?_) (ρ' := ?_) ?_ ?_)).trans ?_; rotate_left 2; focus (simp []; try exact rfl); focus (simp []; try exact rfl)) | (refine (congrArg outOf (q_pass ?_)).trans ?_; focus (simp []; done)) | (refine (congrArg outOf (q_ret (d := ?_) ?_)).trans ?_; rotate_left; focus (simp []; try exact rfl))); try simp only [List.set_cons_succ, List.set_cons_zero])
  generalize hP : ps.map partD = PD at *
  obtain ⟨ρ', h1, y3, rfl⟩ := forL_ix0 (t := .nm 3) (body := b__law_are_all_1) partD (fun i ρ => ∃ y3, ρ = [.fz (hallD g), .fz (.tup PD), .fz (.tup ((ps.take i).flatten.map cellD)), y3, .no, .no, .no, .no, .no]) ps
    [.fz (hallD g), .fz (.tup PD), .fz (.tup []), .no, .no, .no, .no, .no, .no] ⟨.no, rfl⟩ (by
      rintro i p ρ hi ⟨y3, rfl⟩
      have et : ps.take (i + 1) = ps.take i ++ [p] := by rw [List.take_succ, hi]; rfl
      have le : ((ps.take i).flatten ++ p).length ≤ 64 := by
        have e1 : (ps.take (i + 1)).flatten.length ≤ ps.flatten.length := by
          conv => rhs; rw [← List.take_append_drop (i + 1) ps]
          rw [List.flatten_append, List.length_append]
          omega
        rw [et, List.flatten_append, List.flatten_singleton] at e1
        exact Nat.le_trans e1 p64
      refine ⟨_, [.fz (hallD g), .fz (.tup PD), .fz (.tup ((ps.take (i + 1)).flatten.map cellD)), .fz (partD p), .no, .no, .no, .no, .no], rfl, .inl ?_, ⟨_, rfl⟩⟩
      unfold b__law_are_all_1
      refine q_set1 ?_
      have da : dAdd (.tup ((ps.take i).flatten.map cellD)) (.tup (p.map cellD)) = some (.tup ((ps.take (i + 1)).flatten.map cellD)) := by
        rw [dAdd_tup (by rw [List.length_map, List.length_map]; rw [List.length_append] at le; omega), ← List.map_append, et, List.flatten_append]
        simp
      have epd : partD p = .tup (p.map cellD) := rfl
      rw [epd]
      generalize (ps.take i).flatten.map cellD = A at *
      generalize (ps.take (i + 1)).flatten.map cellD = B at *
      generalize p.map cellD = C at *
      simp [da])
  rw [hP] at h1
  refine (congrArg outOf (q_for (ds := PD) (by simp) h1)).trans ?_
  rw [List.take_length]
  ((first | (refine (congrArg outOf (q_set (d := ?_) ?_)).trans ?_; rotate_left; focus (simp []; try exact rfl)) | (refine (congrArg outOf (q_drop (d := ?_) ?_)).trans ?_; rotate_left; focus (simp []; try exact rfl)) | (refine (congrArg outOf (q_new (d := ?_) ?_)).trans ?_; rotate_left; focus (simp []; try exact rfl)) | (refine (congrArg outOf (q_par (x := ?_) (y := ?_) ?_)).trans ?_; rotate_left 2; focus (simp []; try exact ⟨rfl, rfl⟩)) | (refine (congrArg outOf (q_unp (d := ?_) (ρ' := ?_) ?_ ?_)).trans ?_; rotate_left 2; focus (simp []; try exact rfl); focus (simp []; try exact rfl)) | (refine (congrArg outOf (q_pass ?_)).trans ?_; focus (simp []; done)) | (refine (congrArg outOf (q_ret (d := ?_) ?_)).trans ?_; rotate_left; focus (simp []; try exact rfl))); try simp only [List.set_cons_succ, List.set_cons_zero])
  have hen : enumO [rowsD g.rows] = some (g.rows.zipIdx.map fun p => .tup [.int (p.2 : Nat), .str (mkS p.1)]) := by
    rw [enumO_eq]
    show some (enumD (g.rows.map fun r => D.str (mkS r))) = _
    rw [enumD_map]
  have sc := sort_cells ps.flatten
  rw [sp] at sc
  generalize ps.flatten.map cellD = EV at *
  obtain ⟨ρ', h1, h2⟩ := forL_ix0 (t := .tp [5, 6]) (body := b__law_are_all_2) (fun p : List Nat × Nat => D.tup [.int (p.2 : Nat), .str (mkS p.1)])
    (fun i ρ => ∃ x2 x3, ρ = [.fz (hallD g), .fz (.tup PD), .fz (.tup EV), y3, .fz (.lst (((List.range i).flatMap (rowFree g)).map cellD)), x2, x3, .no, .no]) g.rows.zipIdx [.fz (hallD g), .fz (.tup PD), .fz (.tup EV), y3, .fz (.lst []), .no, .no, .no, .no] ⟨.no, .no, rfl⟩ (by
      rintro i ⟨l, k⟩ ρ hi ⟨x2, x3, rfl⟩
      rw [List.getElem?_zipIdx] at hi
      obtain ⟨l', hl', e⟩ := Option.map_eq_some_iff.mp hi
      cases e
      obtain ⟨hlt, hl2⟩ := List.getElem?_eq_some_iff.mp hl'
      have hrow : g.row (i : Int) = l := by
        unfold Hall.row
        rw [List.getD_eq_getElem?_getD, Int.toNat_natCast, hl']
        rfl
      have hlen : l.length = g.w := ok.same l (List.mem_of_getElem? hl')
      refine ⟨_, [.fz (hallD g), .fz (.tup PD), .fz (.tup EV), y3, .fz (.lst (((List.range (i + 1)).flatMap (rowFree g)).map cellD)), .fz (.int ((0 + i : Nat) : Int)), .fz (.str (mkS l)), .no, .no], rfl, .inl ?_, ⟨_, _, rfl⟩⟩
      unfold b__law_are_all_2
      simp [itemsOf_str (l := l) (by omega)]
      rw [enumD_map, compL_map (fun p : Nat × Nat => D.tup [.int (p.2 : Nat), .str (mkS [p.1])]) (fun p => decide (p.1 = 46 ∨ p.1 = 111)) (fun p => cellD ((i : Int), (p.2 : Int))) l.zipIdx (fun p hp => ⟨_, rfl, by simp [dotO_code], fun _ => by simp [cellD]⟩)]
      have e1 : (l.zipIdx.filter fun p => decide (p.1 = 46 ∨ p.1 = 111)).map (fun p => cellD ((i : Int), (p.2 : Int))) = (rowFree g i).map cellD := by
        unfold rowFree rowCells
        rw [zipIdx_range l 0, List.filter_map, List.filter_map, List.map_map, List.map_map, hlen]
        congr 1
        refine List.filter_congr fun c hc => ?_
        have hin : g.ins ((i : Int), (c : Int)) = true := by
          rw [Hall.ins_iff]
          have := List.mem_range.mp hc
          have : i < g.h := hlt
          exact ⟨by omega, by omega, by omega, by omega⟩
        have ha : g.at ((i : Int), (c : Int)) = l.getD c 0 := by
          unfold Hall.at
          simp only [Int.toNat_natCast, hrow]
        have key : decide (g.at ((i : Int), (c : Int)) = 46 ∨ g.at ((i : Int), (c : Int)) = 111) = free g ((i : Int), (c : Int)) := by
          rw [Bool.eq_iff_iff, free_iff, decide_eq_true_eq]
          rcases ok.at_ok hin with z | z | z | z <;> rw [z] <;> decide
        rw [ha] at key
        exact key
      simp only [e1]
      simp
      rw [dAdd_lst (by
        rw [List.length_map, List.length_map]
        have a1 := flatMap_len_le (w := g.w) (f := rowFree g) (rowFree_len g) i
        have a2 : (rowFree g i).length ≤ g.w := rowFree_len g i
        have : i * g.w ≤ 8 * 8 := Nat.mul_le_mul (by unfold Hall.h at h8; omega) w8
        omega)]
      simp [List.range_succ, List.flatMap_append])
  obtain ⟨x2, x3, rfl⟩ := h2
  refine (congrArg outOf (q_for (ds := g.rows.zipIdx.map fun p => .tup [.int (p.2 : Nat), .str (mkS p.1)]) (by simp [hen]) h1)).trans ?_
  have ef : (List.range g.rows.zipIdx.length).flatMap (rowFree g) = freeL g := by
    rw [free_flat, List.length_zipIdx]
    rfl
  rw [ef]
  refine (congrArg outOf (q_ret (d := .bl true) ?_)).trans rfl
  have := dEq_cellsL (freeL g) (freeL g)
  rw [decide_eq_true rfl] at this
  generalize (freeL g).map cellD = FD at *
  simp only [e2_eq, eCall_eq, aCons_eq, aNil_eq, eVar_s, eVar_0, bind_ok, of_some, sc, this]
end Lw

set_option Elab.async false
set_option linter.all false
set_option maxRecDepth 100000
set_option maxHeartbeats 1000000
namespace Lw
open PySem PySem.Spec PyProof.Rows L2 DL
/-! ### sets of at most 64 cells -/
theorem set64_cells (f : List Cell → D) (l : List Cell) (hl : (ddP l).length ≤ 64) : dSet64 f [.tup (l.map cellD)] = some (f (ddP l)) ∧ dSet64 f [.lst (l.map cellD)] = some (f (ddP l)) := by
  have key : ∀ d, seqD d = some (l.map cellD) → dSet64 f [d] = some (f (ddP l)) := fun d e => by
    show (seqD d).bind (fun ds => (pairsOf ds).bind fun ps => if decide ((ddP ps).length ≤ 64) = true then some (f (ddP ps)) else none) = _
    rw [e, Option.bind_some, show (l.map cellD) = l.map tupP from rfl, pairsOf_map, Option.bind_some, if_pos (decide_eq_true hl)]
  exact ⟨key _ rfl, key _ rfl⟩
theorem sort64_cells {l : List Cell} (hl : (ddP l).length ≤ 64) : dSort64 [.tup (l.map cellD)] = some (.lst ((sortP (ddP l)).map cellD)) := (set64_cells _ l hl).1
theorem len64_cells {l : List Cell} (hl : (ddP l).length ≤ 64) : dLen64 [.tup (l.map cellD)] = some (.int (ddP l).length) := (set64_cells _ l hl).1
theorem ddP_le : ∀ l : List Cell, (ddP l).length ≤ l.length
  | [] => Nat.le_refl _
  | x :: r => by
    have := ddP_le r
    unfold ddP
    split <;> simp <;> omega
end Lw

set_option Elab.async false
set_option linter.all false
namespace Lw
open PySem PySem.Spec PyProof.Rows L2 DL
def b_costs_to_1 : Rho → SR := (sSeq (sSet 8 (eTup (aCons (e2 dAdd (e2 dIx (e2 dIx (eOwn 4) (eVar 6)) (eC (.int 0))) (e2 dIx (eVar 3) (eVar 7))) (aCons (e2 dAdd (e2 dIx (e2 dIx (eOwn 4) (eVar 6)) (eC (.int 1))) (eC (.int 1))) aNil)))) (sIf (tor (eT (e2 dNotIn (eVar 7) (eOwn 4))) (eT (e2 dLt (eVar 8) (e2 dIx (eOwn 4) (eVar 7))))) (sSeq (sPut 4 (eVar 7) (eVar 8)) (sIf (eT (e2 dNotIn (eVar 7) (eOwn 5))) (sApp 5 (eVar 7)) sNil)) sNil))
def b_costs_to_2 : Rho → SR := (sSeq (sSet 6 (eMinKey (eOwn 5) (e2 dIx (eOwn 4) (eVar 9)))) (sSeq (sRem 5 (eVar 6)) (sFor (iVal (eFn m_neighbours (aCons (eVar 0) (aCons (eVar 6) aNil)))) (.nm 7) b_costs_to_1)))
def b_costs_to_3 : Rho → Res Bool := (eT (e2 dGt (eCall dLen (aCons (eOwn 5) aNil)) (eC (.int 0))))
def b_costs_to : Rho → SR := (sSeq (sSet 3 (eCall dDict (aCons (eComp (iVal (eFn m_part_of (aCons (eVar 0) (aCons (eVar 2) aNil)))) (.nm 6) tYes' (eTup (aCons (eVar 6) (aCons (eCall dInt (aCons (eFn m_is_seen (aCons (eVar 0) (aCons (eVar 1) (aCons (eVar 6) aNil)))) aNil)) aNil))) [6]) aNil))) (sSeq (sNew 4 (eD1 (eVar 2) (eTup (aCons (e2 dIx (eVar 3) (eVar 2)) (aCons (eC (.int 1)) aNil))))) (sSeq (sNew 5 (eLst (aCons (eVar 2) aNil))) (sSeq (sWhile 10000 b_costs_to_3 b_costs_to_2) (sFrz 4 (sFrz 5 (sRet (eVar 4))))))))
def m_costs_to : List D → Res D := runB 3 9 b_costs_to
def b_slyest_1 : Rho → SR := (sIf (tor (tnot (eT (eFn m_is_inside (aCons (eVar 0) (aCons (eVar 4) aNil))))) (tnot (eT (eFn m_is_free (aCons (eVar 0) (aCons (eVar 4) aNil)))))) (sRaise "NoCell") sNil)
def b_slyest_2 : Rho → SR := (sSeq (sSet 7 (e2 dIx (eVar 6) (e1 dNeg (eC (.int 1))))) (sSeq (sSet 8 (eCall dInt (aCons (eFn m_is_seen (aCons (eVar 0) (aCons (eVar 1) (aCons (eVar 7) aNil)))) aNil))) (sSeq (sSet 9 (eTup (aCons (e2 dSub (e2 dIx (e2 dIx (eVar 5) (eVar 7)) (eC (.int 0))) (eVar 8)) (aCons (e2 dSub (e2 dIx (e2 dIx (eVar 5) (eVar 7)) (eC (.int 1))) (eC (.int 1))) aNil)))) (sSet 6 (e2 dAdd (eVar 6) (eTup (aCons (e2 dIx (eComp (iVal (eFn m_neighbours (aCons (eVar 0) (aCons (eVar 7) aNil)))) (.nm 4) (eT (e2 dEq (e2 dIx (eVar 5) (eVar 4)) (eVar 9))) (eVar 4) [4]) (eC (.int 0))) aNil)))))))
def b_slyest_3 : Rho → Res Bool := (eT (e2 dNe (e2 dIx (eVar 6) (e1 dNeg (eC (.int 1)))) (eVar 3)))
def b_slyest : Rho → SR := (sSeq (sFor (iVal (eTup (aCons (eVar 2) (aCons (eVar 3) aNil)))) (.nm 4) b_slyest_1) (sSeq (sSet 5 (eFn m_costs_to (aCons (eVar 0) (aCons (eVar 1) (aCons (eVar 3) aNil))))) (sSeq (sIf (eT (e2 dNotIn (eVar 2) (eVar 5))) (sRaise "NoWay") sNil) (sSeq (sSet 6 (eTup (aCons (eVar 2) aNil))) (sSeq (sWhile 10000 b_slyest_3 b_slyest_2) (sRet (eVar 6)))))))
def m_slyest : List D → Res D := runB 4 10 b_slyest
end Lw

set_option Elab.async false
set_option linter.all false
set_option maxRecDepth 100000
set_option maxHeartbeats 1000000
namespace Lw
open PySem PySem.Spec PyProof.Rows L2 DL
/-! ### ways: what they are worth -/
def seenB (g : Hall) (ls : List Cell) (c : Cell) : Bool := ls.any fun l => seesB g l c
def wtC (g : Hall) (ls : List Cell) (c : Cell) : Int := if seenB g ls c = true then 1 else 0
def seenN (g : Hall) (ls : List Cell) (w : List Cell) : Nat := (w.filter (seenB g ls)).length
def worthC (g : Hall) (ls : List Cell) (w : List Cell) : Cell := ((seenN g ls w : Nat), (w.length : Nat))
theorem wt_01 (g : Hall) (ls : List Cell) (c : Cell) : 0 ≤ wtC g ls c ∧ wtC g ls c ≤ 1 := by
  unfold wtC
  split <;> omega
theorem seenN_cons (g : Hall) (ls : List Cell) (c : Cell) (w : List Cell) : (seenN g ls (c :: w) : Int) = wtC g ls c + seenN g ls w := by
  unfold seenN wtC
  rw [List.filter_cons]
  split
  · simp
    omega
  · simp
theorem seenN_app (g : Hall) (ls : List Cell) (u v : List Cell) : seenN g ls (u ++ v) = seenN g ls u + seenN g ls v := by
  unfold seenN
  rw [List.filter_append, List.length_append]
theorem worth_cons (g : Hall) (ls : List Cell) (c : Cell) (w : List Cell) : worthC g ls (c :: w) = ((worthC g ls w).1 + wtC g ls c, (worthC g ls w).2 + 1) := by
  unfold worthC
  rw [seenN_cons]
  simp
  omega
theorem e_is_seen {g : Hall} (ok : g.Ok) {ls : List Cell} (hl : ∀ l ∈ ls, g.ins l = true) {c : Cell} (hc : g.ins c = true) : m_is_seen [hallD g, .tup (ls.map cellD), cellD c] = .ok (.bl (seenB g ls c)) := by
  have cc : compL (.nm 3) tYes' (eFn m_sees (aCons (eVar 0) (aCons (eVar 3) (aCons (eVar 2) aNil)))) [.fz (hallD g), .fz (.tup (ls.map cellD)), .fz (cellD c), .no] (ls.map cellD) = .ok (ls.map fun l => .bl (seesB g l c)) := by
    refine compL_all cellD (fun l => .bl (seesB g l c)) ls fun l h => ⟨_, rfl, ?_⟩
    simp [ok, hl l h, hc]
  have da : dAny [.lst (ls.map fun l => .bl (seesB g l c))] = some (.bl (seenB g ls c)) := by
    have e : blsOf (ls.map fun l => .bl (seesB g l c)) = some (ls.map fun l => seesB g l c) := by
      clear cc hl
      induction ls with
      | nil => rfl
      | cons l ls ih =>
        rw [List.map_cons, List.map_cons]
        show (blsOf (ls.map fun l => .bl (seesB g l c))).map (seesB g l c :: ·) = _
        rw [ih]
        rfl
    show (blsOf (ls.map fun l => .bl (seesB g l c))).map (fun bs => D.bl (bs.any id)) = _
    rw [e]
    unfold seenB
    simp [List.any_map, Function.comp_def]
  simp [m_is_seen, runB, rho0, b_is_seen, itemsOf, cc, da]
theorem e_seen_on {g : Hall} (ok : g.Ok) {ls : List Cell} (hl : ∀ l ∈ ls, g.ins l = true) {w : List Cell} (hw : ∀ c ∈ w, g.ins c = true) : m_seen_on [hallD g, .tup (ls.map cellD), .tup (w.map cellD)] = .ok (.int (seenN g ls w)) := by
  have cc : compL (.nm 3) (eT (eFn m_is_seen (aCons (eVar 0) (aCons (eVar 1) (aCons (eVar 3) aNil))))) (eVar 3) [.fz (hallD g), .fz (.tup (ls.map cellD)), .fz (.tup (w.map cellD)), .no] (w.map cellD) = .ok ((w.filter (seenB g ls)).map cellD) :=
    compL_map cellD (seenB g ls) cellD w fun c h => ⟨_, rfl, by simp [e_is_seen ok hl (hw c h)], fun _ => by simp⟩
  simp [m_seen_on, runB, rho0, b_seen_on, itemsOf, cc]
  rfl
theorem ok_ins {g : Hall} {c : Cell} (h : okC g c = true) : g.ins c = true := (Bool.and_eq_true_iff.mp h).1
/-! ### the order of costs -/
def leW (a b : Cell) : Prop := a.1 < b.1 ∨ (a.1 = b.1 ∧ a.2 ≤ b.2)
theorem leW_refl (a : Cell) : leW a a := .inr ⟨rfl, Int.le_refl _⟩
theorem leW_tr {a b c : Cell} (h1 : leW a b) (h2 : leW b c) : leW a c := by unfold leW at *; omega
theorem leW_not {a b : Cell} : leW a b ↔ ¬ ltC b a := by unfold leW ltC; omega
theorem leW_of {a b : Cell} (h : ltC a b) : leW a b := by unfold leW ltC at *; omega
theorem leW_anti {a b : Cell} (h1 : leW a b) (h2 : leW b a) : a = b := by
  unfold leW at *
  apply Prod.ext <;> omega
/-! ### ways -/
inductive Wy (g : Hall) : Cell → Cell → List Cell → Prop
  | one {a : Cell} : okC g a = true → Wy g a a [a]
  | step {a b c : Cell} {w : List Cell} : okC g a = true → dist2 a b = 1 → Wy g b c w → Wy g a c (a :: w)
section
variable {g : Hall} {a b c x : Cell} {u v w : List Cell}
theorem Wy.ne (h : Wy g a b w) : w ≠ [] := by cases h <;> simp
theorem Wy.head (h : Wy g a b w) : ∃ r, w = a :: r := by cases h <;> exact ⟨_, rfl⟩
theorem Wy.all (h : Wy g a b w) : ∀ x ∈ w, okC g x = true := by
  induction h with
  | one k => intro x hx; rw [List.mem_singleton.mp hx]; exact k
  | step k _ _ ih =>
    intro x hx
    rcases List.mem_cons.mp hx with rfl | hx
    · exact k
    · exact ih x hx
theorem Wy.ok1 (h : Wy g a b w) : okC g a = true := by cases h <;> assumption
theorem Wy.last (h : Wy g a b w) : w.getLast? = some b := by
  induction h with
  | one k => rfl
  | step k _ hw ih =>
    obtain ⟨r, rfl⟩ := hw.head
    rw [List.getLast?_cons_cons]
    exact ih
theorem Wy.ok2 (h : Wy g a b w) : okC g b = true := h.all b (List.mem_of_getLast? h.last)
theorem Wy.len (h : Wy g a b w) : 1 ≤ w.length := by
  obtain ⟨r, rfl⟩ := h.head
  simp
theorem Wy.app (h : Wy g a b u) (k : Wy g b c v) : Wy g a c (u ++ v.tail) := by
  induction h with
  | one q =>
    obtain ⟨r, rfl⟩ := k.head
    exact k
  | step q d _ ih => exact .step q d (ih k)
theorem Wy.snoc (h : Wy g a b w) (d : dist2 b c = 1) (k : okC g c = true) : Wy g a c (w ++ [c]) := by
  have := h.app (.step h.ok2 d (.one k))
  exact this
theorem Wy.rev (h : Wy g a b w) : Wy g b a w.reverse := by
  induction h with
  | one q => exact .one q
  | step q d hw ih =>
    rw [List.reverse_cons]
    exact ih.snoc (by rw [dist2_comm]; exact d) q
theorem Wy.take (h : Wy g a b w) : ∀ (i : Nat) (x : Cell), w[i]? = some x → Wy g a x (w.take (i + 1)) := by
  induction h with
  | one q =>
    intro i x e
    cases i with
    | zero => simp at e; subst e; exact .one q
    | succ i => simp at e
  | step q d hw ih =>
    intro i x e
    cases i with
    | zero => simp at e; subst e; exact .one q
    | succ i =>
      have := ih i x (by simpa using e)
      rw [List.take_succ_cons]
      exact .step q d this
theorem Wy.drop (h : Wy g a b w) : ∀ (i : Nat) (x : Cell), w[i]? = some x → Wy g x b (w.drop i) := by
  induction h with
  | one q =>
    intro i x e
    cases i with
    | zero => simp at e; subst e; exact .one q
    | succ i => simp at e
  | step q d hw ih =>
    intro i x e
    cases i with
    | zero => simp at e; subst e; exact .step q d hw
    | succ i => exact ih i x (by simpa using e)
theorem Wy.reach (h : Wy g a b w) : Reach g a b := by
  induction h with
  | one q => exact .refl
  | step q d hw ih => exact (Reach.step .refl (mem_nbr.mpr ⟨hw.ok1, d⟩)).trans ih
theorem wy_of_reach (ha : okC g a = true) (h : Reach g a b) : ∃ w, Wy g a b w := by
  induction h with
  | refl => exact ⟨_, .one ha⟩
  | step h m ih =>
    obtain ⟨w, hw⟩ := ih
    exact ⟨_, hw.snoc (mem_nbr.mp m).2 (mem_nbr.mp m).1⟩
/-- a way without a cell twice within a way -/
theorem Wy.simple (h : Wy g a b w) : ∃ w', Wy g a b w' ∧ w'.Nodup ∧ w'.Sublist w := by
  induction h with
  | one q => exact ⟨_, .one q, by simp, List.Sublist.refl _⟩
  | @step a b c w q d hw ih =>
    obtain ⟨w', h1, h2, h3⟩ := ih
    by_cases m : a ∈ w'
    · obtain ⟨i, hi, e⟩ := List.mem_iff_getElem.mp m
      have e : w'[i]? = some a := by rw [List.getElem?_eq_getElem hi, e]
      exact ⟨_, h1.drop i a e, h2.sublist (List.drop_sublist _ _), ((List.drop_sublist _ _).trans h3).trans (List.sublist_cons_self _ _)⟩
    · exact ⟨_, .step q d h1, List.nodup_cons.mpr ⟨m, h2⟩, h3.cons_cons a⟩
theorem worth_sub {ls : List Cell} (h : u.Sublist w) : leW (worthC g ls u) (worthC g ls w) := by
  have h1 := h.length_le
  have h2 : seenN g ls u ≤ seenN g ls w := (h.filter _).length_le
  unfold leW worthC
  dsimp only
  omega
/-- the best ways -/
def Best (g : Hall) (ls : List Cell) (a b : Cell) (w : List Cell) : Prop := Wy g a b w ∧ ∀ v, Wy g a b v → leW (worthC g ls w) (worthC g ls v)
theorem Best.nodup {ls : List Cell} (h : Best g ls a b w) : w.Nodup := by
  obtain ⟨w', h1, h2, h3⟩ := h.1.simple
  have q := h.2 w' h1
  have s := h3.length_le
  have f : seenN g ls w' ≤ seenN g ls w := (h3.filter _).length_le
  unfold leW worthC at q
  dsimp only at q
  have e : w' = w := h3.eq_of_length (by omega)
  rw [← e]
  exact h2
theorem Best.len64 {ls : List Cell} (ok : g.Ok) (h : Best g ls a b w) : w.length ≤ 64 :=
  Nat.le_trans (nodup_len h.nodup fun x hx => mem_cells.mpr (ok_ins (h.1.all x hx))) (cells_len64 ok)
theorem worth_app {ls : List Cell} (h : Wy g b c v) : worthC g ls (u ++ v.tail) = ((worthC g ls u).1 + (worthC g ls v).1 - wtC g ls b, (worthC g ls u).2 + (worthC g ls v).2 - 1) := by
  obtain ⟨r, rfl⟩ := h.head
  unfold worthC
  rw [seenN_cons, List.tail_cons, seenN_app]
  simp
  omega
theorem worth_rev {ls : List Cell} : worthC g ls w.reverse = worthC g ls w := by
  unfold worthC seenN
  rw [List.filter_reverse, List.length_reverse, List.length_reverse]
theorem seenN_le (ls : List Cell) : seenN g ls w ≤ w.length := List.length_filter_le _ _
end
end Lw

set_option Elab.async false
set_option linter.all false
set_option maxRecDepth 100000
set_option maxHeartbeats 1000000
namespace Lw
open PySem PySem.Spec PyProof.Rows L2 DL
/-! ### costs by cells -/
abbrev KV := List (Cell × Cell)
def getC (k : KV) (c : Cell) : Option Cell := (k.find? fun p => decide (p.1 = c)).map (·.2)
def putC (k : KV) (c v : Cell) : KV := if c ∈ k.map (·.1) then k.map (fun p => if p.1 = c then (p.1, v) else p) else k ++ [(c, v)]
theorem getC_cons (p : Cell × Cell) (k : KV) (c : Cell) : getC (p :: k) c = if p.1 = c then some p.2 else getC k c := by
  unfold getC
  rw [List.find?_cons]
  by_cases h : p.1 = c
  · simp [h]
  · simp [h]
theorem getC_isSome {k : KV} {c : Cell} : (getC k c).isSome = true ↔ c ∈ k.map (·.1) := by
  induction k with
  | nil => simp [getC]
  | cons p k ih =>
    rw [getC_cons, List.map_cons, List.mem_cons]
    by_cases h : p.1 = c
    · simp [h]
    · rw [if_neg h, ih]
      constructor
      · exact .inr
      · rintro (z | z)
        · exact absurd z.symm h
        · exact z
theorem getC_some {k : KV} {c v : Cell} (h : getC k c = some v) : c ∈ k.map (·.1) := getC_isSome.mp (by rw [h]; rfl)
theorem getC_none {k : KV} {c : Cell} : getC k c = none ↔ c ∉ k.map (·.1) := by
  rw [← getC_isSome]
  cases getC k c <;> simp
theorem getC_mem {k : KV} {c : Cell} (h : c ∈ k.map (·.1)) : ∃ v, getC k c = some v := Option.isSome_iff_exists.mp (getC_isSome.mpr h)
theorem getC_map (k : KV) (c v d : Cell) : getC (k.map fun p => if p.1 = c then (p.1, v) else p) d = if d = c ∧ d ∈ k.map (·.1) then some v else getC k d := by
  induction k with
  | nil => simp [getC]
  | cons p k ih =>
    rw [List.map_cons, getC_cons, ih, getC_cons]
    by_cases h1 : p.1 = c
    · rw [if_pos h1]
      dsimp only
      by_cases h2 : p.1 = d
      · rw [if_pos h2, if_pos ⟨h2.symm.trans h1, by rw [List.map_cons, h2]; exact List.mem_cons_self⟩]
      · have n : d ≠ c := fun z => h2 (h1.trans z.symm)
        rw [if_neg h2, if_neg (fun z => n z.1), if_neg (fun z => n z.1), if_neg h2]
    · rw [if_neg h1]
      by_cases h2 : p.1 = d
      · have n : d ≠ c := fun z => h1 (h2.trans z)
        rw [if_pos h2, if_neg (fun z => n z.1), if_pos h2]
      · rw [if_neg h2, if_neg h2]
        have e : (d ∈ (p :: k).map (·.1)) ↔ d ∈ k.map (·.1) := by
          rw [List.map_cons, List.mem_cons]
          exact ⟨fun z => z.resolve_left fun q => h2 q.symm, .inr⟩
        by_cases h3 : d = c ∧ d ∈ k.map (·.1)
        · rw [if_pos h3, if_pos ⟨h3.1, e.mpr h3.2⟩]
        · rw [if_neg h3, if_neg fun z => h3 ⟨z.1, e.mp z.2⟩]
theorem getC_app (k : KV) (c v d : Cell) : getC (k ++ [(c, v)]) d = (getC k d).or (if c = d then some v else none) := by
  induction k with
  | nil => simp [getC_cons, getC]
  | cons p k ih =>
    rw [List.cons_append, getC_cons, getC_cons, ih]
    by_cases h : p.1 = d <;> simp [h]
theorem getC_put (k : KV) (c v d : Cell) : getC (putC k c v) d = if d = c then some v else getC k d := by
  unfold putC
  by_cases h : c ∈ k.map (·.1)
  · rw [if_pos h, getC_map]
    by_cases e : d = c
    · rw [if_pos ⟨e, by rw [e]; exact h⟩, if_pos e]
    · rw [if_neg (fun z => e z.1), if_neg e]
  · rw [if_neg h, getC_app]
    by_cases e : d = c
    · rw [if_pos e, e, getC_none.mpr h]
      simp
    · rw [if_neg e, if_neg (fun z => e z.symm)]
      simp
theorem put_keys (k : KV) (c v : Cell) : (putC k c v).map (·.1) = if c ∈ k.map (·.1) then k.map (·.1) else k.map (·.1) ++ [c] := by
  unfold putC
  by_cases h : c ∈ k.map (·.1)
  · rw [if_pos h, if_pos h, List.map_map]
    apply List.map_congr_left
    intro p _
    dsimp only [Function.comp_def]
    split <;> rfl
  · rw [if_neg h, if_neg h, List.map_append]
    rfl
theorem put_nodup {k : KV} {c v : Cell} (h : (k.map (·.1)).Nodup) : ((putC k c v).map (·.1)).Nodup := by
  rw [put_keys]
  split
  · exact h
  · next n => exact List.nodup_append.mpr ⟨h, by simp, fun a ha b hb => by rw [List.mem_singleton.mp hb]; intro z; rw [z] at ha; exact n ha⟩
theorem mem_put {k : KV} {c v d : Cell} : d ∈ (putC k c v).map (·.1) ↔ d = c ∨ d ∈ k.map (·.1) := by
  rw [← getC_isSome, getC_put, ← getC_isSome]
  by_cases h : d = c <;> simp [h]
def costD (k : KV) : D := dicC cellD k
theorem dIx_cost {k : KV} {c v : Cell} (h : getC k c = some v) : dIx (costD k) (cellD c) = some (cellD v) := by
  unfold costD
  rw [dIx_dicC]
  unfold getC at h
  cases e : k.find? fun p => decide (p.1 = c) with
  | none => rw [e] at h; cases h
  | some p => rw [e] at h; cases h; rfl
theorem notIn_cost (k : KV) (c : Cell) : dNotIn (cellD c) (costD k) = some (.bl (!decide (c ∈ k.map (·.1)))) := by
  unfold dNotIn costD
  rw [inB_dicC]
  rfl
theorem sPut_cost {i : Nat} {sk sv : Rho → Res D} {ρ : Rho} {k : KV} {c v : Cell} (h : ρ[i]? = some (.ow (costD k))) (e1 : sk ρ = .ok (cellD c)) (e2 : sv ρ = .ok (cellD v)) (hl : k.length < 1000) : sPut i sk sv ρ = .nx (ρ.set i (.ow (costD (putC k c v)))) := by
  unfold sPut
  rw [e2]
  simp only [sbind_ok]
  rw [h]
  show (sBind (sk ρ) fun q => match keyD q with
    | some key => if (k.map fun p => (keyP p.1, cellD p.2)).length < sizeLine then SR.nx (ρ.set i (.ow (.dic (putD (k.map fun p => (keyP p.1, cellD p.2)) key (cellD v))))) else .stuck
    | none => .stuck) = _
  rw [e1]
  simp only [sbind_ok, keyD_cell]
  rw [if_pos (by rw [List.length_map]; exact Nat.lt_of_lt_of_le hl (by decide)), putD_dicC cellD k c v]
  rfl
/-! ### the least of those to do -/
theorem eraseIdx_map {α β : Type} (f : α → β) : ∀ (l : List α) (j : Nat), (l.map f).eraseIdx j = (l.eraseIdx j).map f
  | [], _ => rfl
  | _ :: _, 0 => rfl
  | x :: l, j + 1 => by
    rw [List.map_cons, List.eraseIdx_cons_succ, List.eraseIdx_cons_succ, List.map_cons, eraseIdx_map f l j]
theorem pick_ok (f : Cell → Cell) : ∀ (l : List Cell) (b : Cell), ∃ c, pickM (cellD b) (cellD (f b)) (l.map fun x => (cellD x, cellD (f x))) = some (cellD c) ∧ (c = b ∨ c ∈ l) ∧ leW (f c) (f b) ∧ ∀ t ∈ l, leW (f c) (f t)
  | [], b => ⟨b, rfl, .inl rfl, leW_refl _, fun t h => by cases h⟩
  | x :: l, b => by
    rw [List.map_cons]
    unfold pickM
    rw [dLt_cell]
    by_cases h : ltC (f x) (f b)
    · rw [ltB_iff.mpr h]
      obtain ⟨c, h1, h2, h3, h4⟩ := pick_ok f l x
      refine ⟨c, h1, .inr ?_, leW_tr h3 (leW_of h), fun t ht => ?_⟩
      · rcases h2 with rfl | h2
        · exact List.mem_cons_self
        · exact List.mem_cons_of_mem _ h2
      · rcases List.mem_cons.mp ht with rfl | ht
        · exact h3
        · exact h4 t ht
    · have : ltB (f x) (f b) = false := by
        rw [Bool.eq_false_iff]
        exact fun z => h (ltB_iff.mp z)
      rw [this]
      obtain ⟨c, h1, h2, h3, h4⟩ := pick_ok f l b
      refine ⟨c, h1, ?_, h3, fun t ht => ?_⟩
      · rcases h2 with rfl | h2
        · exact .inl rfl
        · exact .inr (List.mem_cons_of_mem _ h2)
      · rcases List.mem_cons.mp ht with rfl | ht
        · exact leW_tr h3 (leW_not.mpr h)
        · exact h4 t ht
theorem rem_idx (c : Cell) : ∀ l : List Cell, c ∈ l → ∃ j, (l.findIdx? fun y => decide (y = c)) = some j ∧ l.eraseIdx j = l.erase c
  | [], h => by cases h
  | x :: l, h => by
    rw [List.findIdx?_cons]
    by_cases e : x = c
    · exact ⟨0, by simp [e], by simp [e]⟩
    · obtain ⟨j, h1, h2⟩ := rem_idx c l (by
        rcases List.mem_cons.mp h with z | z
        · exact absurd z.symm e
        · exact z)
      refine ⟨j + 1, by simp [e, h1], ?_⟩
      rw [List.eraseIdx_cons_succ, h2, List.erase_cons_tail (by simpa using e)]
theorem remI_cells {l : List Cell} {c : Cell} (h : c ∈ l) : ∃ j, remI (l.map cellD) (cellD c) = some j ∧ (l.map cellD).eraseIdx j = (l.erase c).map cellD := by
  obtain ⟨j, h1, h2⟩ := rem_idx c l h
  refine ⟨j, ?_, by rw [← h2, eraseIdx_map]⟩
  unfold remI
  have e : (lv 64 (cellD c) && (l.map cellD).all (lv 64)) = true := by
    rw [Bool.and_eq_true, List.all_map, List.all_eq_true]
    exact ⟨lv_cell 63 c, fun x _ => lv_cell 63 x⟩
  rw [if_pos e, List.findIdx?_map, ← h1]
  congr 1
  funext y
  exact eqN_cell 63 y c
end Lw

set_option Elab.async false
set_option linter.all false
set_option maxRecDepth 100000
set_option maxHeartbeats 1000000
namespace Lw
open PySem PySem.Spec PyProof.Rows L2 DL
/-! ### the costs found step by step -/
abbrev CS := KV × List Cell
def stepW (g : Hall) (ls : List Cell) (v : Cell) (o : Cell) : Cell := (v.1 + wtC g ls o, v.2 + 1)
theorem step_lt (g : Hall) (ls : List Cell) (v : Cell) (o : Cell) : ltC v (stepW g ls v o) := by
  have := wt_01 g ls o
  unfold ltC stepW
  dsimp only
  omega
theorem step_mono {g : Hall} {ls : List Cell} {v u : Cell} (h : leW v u) (o : Cell) : leW (stepW g ls v o) (stepW g ls u o) := by
  unfold leW stepW at *
  dsimp only
  omega
theorem worth_step (g : Hall) (ls : List Cell) (c : Cell) (w : List Cell) : worthC g ls (c :: w) = stepW g ls (worthC g ls w) c := worth_cons g ls c w
structure CBase (g : Hall) (ls : List Cell) (goal : Cell) (s : CS) : Prop where
  nd : (s.1.map (·.1)).Nodup
  tnd : s.2.Nodup
  sub : ∀ t ∈ s.2, t ∈ s.1.map (·.1)
  att : ∀ c v, getC s.1 c = some v → ∃ w, Wy g c goal w ∧ worthC g ls w = v
  goal : ∃ v, getC s.1 goal = some v ∧ leW v (wtC g ls goal, 1)
structure CInv (g : Hall) (ls : List Cell) (goal : Cell) (s : CS) : Prop extends CBase g ls goal s where
  done : ∀ c v, getC s.1 c = some v → c ∉ s.2 → ∀ o ∈ nbrL g c, ∃ u, getC s.1 o = some u ∧ leW u (stepW g ls v o)
  ord : ∀ c v t u, getC s.1 c = some v → c ∉ s.2 → t ∈ s.2 → getC s.1 t = some u → leW v u
/-- amid the neighbours of c, which costs k; ps are seen to -/
structure RInv (g : Hall) (ls : List Cell) (goal c k : Cell) (ps : List Cell) (s : CS) : Prop extends CBase g ls goal s where
  at_c : getC s.1 c = some k
  out : c ∉ s.2
  done : ∀ d v, d ≠ c → getC s.1 d = some v → d ∉ s.2 → ∀ o ∈ nbrL g d, ∃ u, getC s.1 o = some u ∧ leW u (stepW g ls v o)
  low : ∀ d v, getC s.1 d = some v → d ∉ s.2 → leW v k
  high : ∀ t u, t ∈ s.2 → getC s.1 t = some u → leW k u
  ps : ∀ o ∈ ps, ∃ u, getC s.1 o = some u ∧ leW u (stepW g ls k o)
instance ltC_dec (a b : Cell) : Decidable (ltC a b) := by unfold ltC; infer_instance
def relax (g : Hall) (ls : List Cell) (k : Cell) (s : CS) (o : Cell) : CS := match getC s.1 o with
  | none => (putC s.1 o (stepW g ls k o), s.2 ++ [o])
  | some v => if ltC (stepW g ls k o) v then (putC s.1 o (stepW g ls k o), s.2) else s
theorem nbr_ne {g : Hall} {c o : Cell} (h : o ∈ nbrL g c) : o ≠ c := fun z => by
  have := (mem_nbr.mp h).2
  rw [z] at this
  unfold dist2 at this
  simp at this
theorem nbr_sym {g : Hall} {c o : Cell} (hc : okC g c = true) (h : o ∈ nbrL g c) : c ∈ nbrL g o := mem_nbr.mpr ⟨hc, by rw [dist2_comm]; exact (mem_nbr.mp h).2⟩
section
variable {g : Hall} {ls : List Cell} {goal c k : Cell} {ps : List Cell} {s : CS}
theorem RInv.put (h : RInv g ls goal c k ps s) {o : Cell} (ho : o ∈ nbrL g c) (hl : ∀ v, getC s.1 o = some v → leW (stepW g ls k o) v) {td : List Cell} (htd : td.Nodup) (hm : ∀ t, t ∈ td ↔ t ∈ s.2 ∨ t = o) :
    RInv g ls goal c k (ps ++ [o]) (putC s.1 o (stepW g ls k o), td) := by
  have no := nbr_ne ho
  obtain ⟨wc, hw, ew⟩ := h.att c k h.at_c
  have less : ∀ d v, getC s.1 d = some v → ∃ u, getC (putC s.1 o (stepW g ls k o)) d = some u ∧ leW u v := fun d v e => by
    rw [getC_put]
    by_cases q : d = o
    · rw [if_pos q]
      exact ⟨_, rfl, hl v (by rw [← q]; exact e)⟩
    · rw [if_neg q]
      exact ⟨v, e, leW_refl v⟩
  refine ⟨⟨put_nodup h.nd, htd, fun t ht => ?_, fun d v e => ?_, ?_⟩, ?_, fun z => ?_, fun d v nd e nt o' ho' => ?_, fun d v e nt => ?_, fun t u ht e => ?_, fun o' ho' => ?_⟩
  · rcases (hm t).mp ht with ht | rfl
    · exact mem_put.mpr (.inr (h.sub t ht))
    · exact mem_put.mpr (.inl rfl)
  · have e : getC (putC s.1 o (stepW g ls k o)) d = some v := e
    rw [getC_put] at e
    by_cases q : d = o
    · rw [if_pos q] at e
      cases e
      rw [q]
      exact ⟨o :: wc, .step (mem_nbr.mp ho).1 (by rw [dist2_comm]; exact (mem_nbr.mp ho).2) hw, by rw [worth_step, ew]⟩
    · rw [if_neg q] at e
      exact h.att d v e
  · obtain ⟨v, e, l⟩ := h.goal
    obtain ⟨u, e2, l2⟩ := less goal v e
    exact ⟨u, e2, leW_tr l2 l⟩
  · show getC (putC s.1 o (stepW g ls k o)) c = some k
    rw [getC_put, if_neg no.symm]
    exact h.at_c
  · rcases (hm c).mp z with z | z
    · exact h.out z
    · exact no z.symm
  · have e : getC (putC s.1 o (stepW g ls k o)) d = some v := e
    have nt : d ∉ s.2 ∧ d ≠ o := ⟨fun z => nt ((hm d).mpr (.inl z)), fun z => nt ((hm d).mpr (.inr z))⟩
    rw [getC_put, if_neg nt.2] at e
    obtain ⟨u, e1, l1⟩ := h.done d v nd e nt.1 o' ho'
    obtain ⟨u', e2, l2⟩ := less o' u e1
    exact ⟨u', e2, leW_tr l2 l1⟩
  · have e : getC (putC s.1 o (stepW g ls k o)) d = some v := e
    have nt : d ∉ s.2 ∧ d ≠ o := ⟨fun z => nt ((hm d).mpr (.inl z)), fun z => nt ((hm d).mpr (.inr z))⟩
    rw [getC_put, if_neg nt.2] at e
    exact h.low d v e nt.1
  · have e : getC (putC s.1 o (stepW g ls k o)) t = some u := e
    rw [getC_put] at e
    by_cases q : t = o
    · rw [if_pos q] at e
      cases e
      exact leW_of (step_lt g ls k o)
    · rw [if_neg q] at e
      exact h.high t u (((hm t).mp ht).resolve_right q) e
  · rcases List.mem_append.mp ho' with ho' | ho'
    · obtain ⟨u, e1, l1⟩ := h.ps o' ho'
      obtain ⟨u', e2, l2⟩ := less o' u e1
      exact ⟨u', e2, leW_tr l2 l1⟩
    · rw [List.mem_singleton.mp ho']
      refine ⟨_, ?_, leW_refl _⟩
      show getC (putC s.1 o (stepW g ls k o)) o = _
      rw [getC_put, if_pos rfl]
/-- one neighbour seen to -/
theorem RInv.relax (h : RInv g ls goal c k ps s) {o : Cell} (ho : o ∈ nbrL g c) : RInv g ls goal c k (ps ++ [o]) (relax g ls k s o) ∧ (Lw.relax g ls k s o).2.length + s.1.length = (Lw.relax g ls k s o).1.length + s.2.length ∧
    (∀ v, getC s.1 o = some v → ltC (stepW g ls k o) v → o ∈ s.2) := by
  have no := nbr_ne ho
  unfold Lw.relax
  cases e : getC s.1 o with
  | none =>
    have nk := getC_none.mp e
    have nt : o ∉ s.2 := fun z => nk (h.sub o z)
    dsimp only
    refine ⟨h.put ho (fun v z => by rw [e] at z; cases z) (List.nodup_append.mpr ⟨h.tnd, by simp, fun a ha b hb => by rw [List.mem_singleton.mp hb]; intro z; rw [z] at ha; exact nt ha⟩) (fun t => by simp), ?_, fun v z => by cases z⟩
    unfold putC
    rw [if_neg nk]
    simp
    omega
  | some v =>
    dsimp only
    by_cases q : ltC (stepW g ls k o) v
    · have ht : o ∈ s.2 := by
        by_cases z : o ∈ s.2
        · exact z
        · have l1 := h.low o v e z
          have l2 := step_lt g ls k o
          unfold leW at l1
          unfold ltC at l2 q
          omega
      rw [if_pos q]
      refine ⟨h.put ho (fun u z => by rw [e] at z; cases z; exact leW_of q) h.tnd (fun t => ⟨.inl, fun z => z.elim id fun z => by rw [z]; exact ht⟩), ?_, fun u z _ => ht⟩
      dsimp only
      unfold putC
      rw [if_pos (getC_some e), List.length_map]
      omega
    · rw [if_neg q]
      refine ⟨⟨h.toCBase, h.at_c, h.out, h.done, h.low, h.high, fun o' ho' => ?_⟩, by omega, fun u z l => by cases z; exact absurd l q⟩
      rcases List.mem_append.mp ho' with ho' | ho'
      · exact h.ps o' ho'
      · rw [List.mem_singleton.mp ho']
        exact ⟨v, e, leW_not.mpr q⟩
/-- the cell is taken out -/
theorem CInv.pop (h : CInv g ls goal s) (hc : c ∈ s.2) (hk : getC s.1 c = some k) (hmin : ∀ t u, t ∈ s.2 → getC s.1 t = some u → leW k u) : RInv g ls goal c k [] (s.1, s.2.erase c) := by
  have hm : ∀ t, t ∈ s.2.erase c ↔ t ≠ c ∧ t ∈ s.2 := fun t => h.tnd.mem_erase_iff
  refine ⟨⟨h.nd, h.tnd.erase c, fun t ht => h.sub t ((hm t).mp ht).2, h.att, h.goal⟩, hk, fun z => ((hm c).mp z).1 rfl, fun d v nd e nt => ?_, fun d v e nt => ?_, fun t u ht e => hmin t u ((hm t).mp ht).2 e, fun o ho => by cases ho⟩
  · exact h.done d v e fun z => nt ((hm d).mpr ⟨nd, z⟩)
  · by_cases q : d = c
    · subst q
      have e : getC s.1 d = some v := e
      rw [hk] at e
      cases e
      exact leW_refl _
    · exact h.ord d v c k e (fun z => nt ((hm d).mpr ⟨q, z⟩)) hc hk
theorem RInv.end_ (h : RInv g ls goal c k ps s) (hp : ∀ o ∈ nbrL g c, o ∈ ps) : CInv g ls goal s := by
  refine ⟨h.toCBase, fun d v e nt o ho => ?_, fun d v t u e nt ht e2 => leW_tr (h.low d v e nt) (h.high t u ht e2)⟩
  by_cases q : d = c
  · subst q
    rw [h.at_c] at e
    cases e
    exact h.ps o (hp o ho)
  · exact h.done d v q e nt o ho
theorem relax_all {g : Hall} {ls : List Cell} {goal c k : Cell} : ∀ (os ps : List Cell) (s : CS), RInv g ls goal c k ps s → (∀ o ∈ os, o ∈ nbrL g c) → RInv g ls goal c k (ps ++ os) (os.foldl (relax g ls k) s) ∧ (os.foldl (relax g ls k) s).2.length + s.1.length = (os.foldl (relax g ls k) s).1.length + s.2.length
  | [], ps, s, h, _ => by
    rw [List.append_nil]
    exact ⟨h, by simp; omega⟩
  | o :: os, ps, s, h, hn => by
    obtain ⟨h1, h2, _⟩ := h.relax (hn o List.mem_cons_self)
    obtain ⟨h3, h4⟩ := relax_all os (ps ++ [o]) _ h1 fun x hx => hn x (List.mem_cons_of_mem _ hx)
    rw [List.foldl_cons]
    refine ⟨by rw [List.append_assoc] at h3; exact h3, by omega⟩
theorem cinv0 (hg : okC g goal = true) : CInv g ls goal ([(goal, (wtC g ls goal, 1))], [goal]) := by
  have e : ∀ c v, getC [(goal, (wtC g ls goal, 1))] c = some v → c = goal ∧ v = (wtC g ls goal, 1) := fun c v z => by
    rw [getC_cons] at z
    by_cases q : goal = c
    · simp [q] at z
      exact ⟨q.symm, by rw [← z, q]⟩
    · simp [q, getC] at z
  refine ⟨⟨by simp, by simp, by simp, fun c v z => ?_, ⟨_, by rw [getC_cons, if_pos rfl], leW_refl _⟩⟩, fun c v z nt => ?_, fun c v t u z nt => ?_⟩
  · obtain ⟨rfl, rfl⟩ := e c v z
    refine ⟨[c], .one hg, ?_⟩
    rw [worth_cons]
    unfold worthC seenN
    simp
  · obtain ⟨rfl, rfl⟩ := e c v z
    exact absurd (List.mem_singleton.mpr rfl) nt
  · obtain ⟨rfl, rfl⟩ := e c v z
    exact absurd (List.mem_singleton.mpr rfl) nt
/-- all is done: the costs are the least -/
theorem CInv.best (h : CInv g ls goal s) (he : s.2 = []) {w : List Cell} (hw : Wy g c goal w) : ∃ v, getC s.1 c = some v ∧ leW v (worthC g ls w) := by
  induction hw with
  | @one a q =>
    obtain ⟨v, e, l⟩ := h.goal
    refine ⟨v, e, ?_⟩
    rw [worth_cons]
    unfold worthC seenN
    simpa using l
  | @step a b c' w q d hw ih =>
    obtain ⟨v, e, l⟩ := ih h
    obtain ⟨u, e2, l2⟩ := h.done b v e (by rw [he]; simp) a (mem_nbr.mpr ⟨q, by rw [dist2_comm]; exact d⟩)
    refine ⟨u, e2, leW_tr l2 ?_⟩
    rw [worth_step]
    exact step_mono l a
end
end Lw

set_option Elab.async false
set_option linter.all false
set_option maxRecDepth 100000
set_option maxHeartbeats 1000000
namespace Lw
open PySem PySem.Spec PyProof.Rows L2 DL
/-! ### costs_to: the mirror -/
def wD (g : Hall) (ls : List Cell) (p : List Cell) : D := dicC (fun i : Int => D.int i) (p.map fun c => (c, wtC g ls c))
theorem dIx_w {g : Hall} {ls p : List Cell} {c : Cell} (h : c ∈ p) : dIx (wD g ls p) (cellD c) = some (.int (wtC g ls c)) := by
  unfold wD
  rw [dIx_dicC]
  have : ((p.map fun c => (c, wtC g ls c)).find? fun q => decide (q.1 = c)) = some (c, wtC g ls c) := by
    induction p with
    | nil => cases h
    | cons x p ih =>
      rw [List.map_cons, List.find?_cons]
      by_cases e : x = c
      · simp [e]
      · simp [e]
        have := ih ((List.mem_cons.mp h).resolve_left fun z => e z.symm)
        simpa using this
  rw [this]
  rfl
def ρC (hd l gd W : D) (s : CS) (x6 x7 x8 : DL.Slot) : Rho := [.fz hd, .fz l, .fz gd, .fz W, .ow (costD s.1), .ow (.lst (s.2.map cellD)), x6, x7, x8]
theorem CBase.few {g : Hall} (ok : g.Ok) {ls : List Cell} {goal : Cell} {s : CS} (h : CBase g ls goal s) : s.1.length ≤ (cellsL g).length ∧ s.2.length ≤ s.1.length ∧ (cellsL g).length ≤ 64 := by
  have b1 := nodup_len h.nd (m := cellsL g) fun x hx => by
    obtain ⟨v, e⟩ := getC_mem hx
    obtain ⟨w, hw, _⟩ := h.att x v e
    exact mem_cells.mpr (ok_ins hw.ok1)
  have b2 := nodup_len h.tnd h.sub
  rw [List.length_map] at b1 b2
  exact ⟨b1, b2, cells_len64 ok⟩
theorem cost_one {g : Hall} (ok : g.Ok) {ls : List Cell} {goal c k : Cell} {ps p : List Cell} {s : CS} (h : RInv g ls goal c k ps s) {o : Cell} (ho : o ∈ nbrL g c) (hp : o ∈ p) (hd l gd : D) (x8 : DL.Slot) :
    ∃ y8, b_costs_to_1 (ρC hd l gd (wD g ls p) s (.fz (cellD c)) (.fz (cellD o)) x8) = .nx (ρC hd l gd (wD g ls p) (relax g ls k s o) (.fz (cellD c)) (.fz (cellD o)) y8) := by
  obtain ⟨f1, f2, f3⟩ := h.toCBase.few ok
  obtain ⟨_, _, h3⟩ := h.relax ho
  have ix := dIx_cost h.at_c
  have iw := dIx_w (g := g) (ls := ls) hp
  refine ⟨.fz (cellD (stepW g ls k o)), ?_⟩
  unfold b_costs_to_1 ρC
  refine (q_set (d := cellD (stepW g ls k o)) (by
    simp [ix, iw]
    rfl)).trans ?_
  simp only [List.set_cons_succ, List.set_cons_zero]
  have ni := notIn_cost s.1 o
  unfold relax
  cases e : getC s.1 o with
  | none =>
    have nk := getC_none.mp e
    have nt : o ∉ s.2 := fun z => nk (h.sub o z)
    have ni : dNotIn (cellD o) (costD s.1) = some (.bl true) := by rw [ni]; simp only [nk, decide_false, Bool.not_false]
    rw [q_yes1 (by simp [ni])]
    rw [q_seq (sPut_cost (k := s.1) (c := o) (v := stepW g ls k o) rfl (by simp) (by simp) (by omega))]
    simp only [List.set_cons_succ, List.set_cons_zero]
    rw [q_yes1 (by simp [dNotIn, in_cellsL, nt])]
    rw [sApp_ok (ds := s.2.map cellD) (d := cellD o) rfl (by simp) (by simp; omega)]
    simp
  | some v =>
    have ixo := dIx_cost e
    have mk := getC_some e
    dsimp only
    by_cases q : ltC (stepW g ls k o) v
    · have ht := h3 v e q
      have lt : dLt (cellD (stepW g ls k o)) (cellD v) = some (.bl true) := by rw [dLt_cell, ltB_iff.mpr q]
      rw [if_pos q]
      have ni : dNotIn (cellD o) (costD s.1) = some (.bl false) := by rw [ni]; simp only [mk, decide_true, Bool.not_true]
      rw [q_yes1 (by simp [ni, ixo, lt])]
      rw [q_seq (sPut_cost (k := s.1) (c := o) (v := stepW g ls k o) rfl (by simp) (by simp) (by omega))]
      simp only [List.set_cons_succ, List.set_cons_zero]
      rw [q_no1 (by simp [dNotIn, in_cellsL, ht])]
      rfl
    · have lt : dLt (cellD (stepW g ls k o)) (cellD v) = some (.bl false) := by
        rw [dLt_cell]
        congr 2
        rw [Bool.eq_false_iff]
        exact fun z => q (ltB_iff.mp z)
      rw [if_neg q]
      have ni : dNotIn (cellD o) (costD s.1) = some (.bl false) := by rw [ni]; simp only [mk, decide_true, Bool.not_true]
      rw [q_no1 (by simp [ni, ixo, lt])]
      rfl
theorem cost_inner {g : Hall} (ok : g.Ok) {ls : List Cell} {goal c k : Cell} {p : List Cell} {s : CS} (h : RInv g ls goal c k [] s) (hp : ∀ o ∈ nbrL g c, o ∈ p) (hd l gd : D) (x7 x8 : DL.Slot) :
    ∃ y7 y8, forL (.nm 7) b_costs_to_1 ((nbrL g c).map cellD) (ρC hd l gd (wD g ls p) s (.fz (cellD c)) x7 x8) = .nx (ρC hd l gd (wD g ls p) ((nbrL g c).foldl (relax g ls k) s) (.fz (cellD c)) y7 y8) := by
  obtain ⟨ρ', e1, y7, y8, rfl⟩ := forL_ix0 (t := .nm 7) (body := b_costs_to_1) cellD (fun i ρ => ∃ y7 y8, ρ = ρC hd l gd (wD g ls p) (((nbrL g c).take i).foldl (relax g ls k) s) (.fz (cellD c)) y7 y8) (nbrL g c) (ρC hd l gd (wD g ls p) s (.fz (cellD c)) x7 x8) ⟨x7, x8, rfl⟩ (by
    rintro i o ρ hi ⟨y7, y8, rfl⟩
    have ho := List.mem_of_getElem? hi
    have et : ((nbrL g c).take (i + 1)).foldl (relax g ls k) s = relax g ls k (((nbrL g c).take i).foldl (relax g ls k) s) o := by
      rw [List.take_succ, hi]
      simp
    obtain ⟨r, _⟩ := relax_all ((nbrL g c).take i) [] s h fun x hx => List.mem_of_mem_take hx
    obtain ⟨z8, e⟩ := cost_one ok r ho (hp o ho) hd l gd y8
    refine ⟨_, _, rfl, .inl ?_, ⟨.fz (cellD o), z8, rfl⟩⟩
    rw [et]
    exact e)
  exact ⟨y7, y8, by rw [e1, List.take_length]⟩
theorem mapR_map {α : Type} {f : D → Res D} (enc e2 : α → D) : ∀ l : List α, (∀ x ∈ l, f (enc x) = .ok (e2 x)) → mapR f (l.map enc) = .ok (l.map e2)
  | [], _ => rfl
  | x :: l, h => by
    rw [List.map_cons, List.map_cons]
    unfold mapR
    rw [h x List.mem_cons_self, mapR_map enc e2 l fun y hy => h y (List.mem_cons_of_mem _ hy)]
    rfl
/-- the mirror's step -/
theorem cost_step {g : Hall} (ok : g.Ok) {ls : List Cell} {goal : Cell} {p : List Cell} {s : CS} (h : CInv g ls goal s) (hp : ∀ c, Reach g goal c → c ∈ p) (hg : okC g goal = true) (hne : s.2 ≠ []) (l : D) (x6 x7 x8 : DL.Slot) :
    ∃ s' y6 y7 y8, b_costs_to_2 (ρC (hallD g) l (cellD goal) (wD g ls p) s x6 x7 x8) = .nx (ρC (hallD g) l (cellD goal) (wD g ls p) s' y6 y7 y8) ∧ CInv g ls goal s' ∧ s'.2.length + s.1.length + 1 = s'.1.length + s.2.length := by
  obtain ⟨t0, td, e0⟩ : ∃ t0 td, s.2 = t0 :: td := by
    cases q : s.2 with
    | nil => exact absurd q hne
    | cons a b => exact ⟨a, b, rfl⟩
  have gv : ∀ t ∈ s.2, getC s.1 t = some ((getC s.1 t).getD (0, 0)) := fun t ht => by
    obtain ⟨v, e⟩ := getC_mem (h.sub t ht)
    rw [e]
    rfl
  obtain ⟨c, p1, p2, p3, p4⟩ := pick_ok (fun t => (getC s.1 t).getD (0, 0)) td t0
  have hc : c ∈ s.2 := by
    rw [e0]
    rcases p2 with rfl | p2
    · exact List.mem_cons_self
    · exact List.mem_cons_of_mem _ p2
  have hk := gv c hc
  have r := h.pop hc hk fun t u ht e => by
    rw [gv t ht] at e
    cases e
    rw [e0] at ht
    rcases List.mem_cons.mp ht with rfl | ht
    · exact p3
    · exact p4 t ht
  generalize (getC s.1 c).getD (0, 0) = k at hk r
  have hr : Reach g goal c := by
    obtain ⟨w, hw, _⟩ := h.att c k hk
    exact (hw.reach).symm hw.ok1
  obtain ⟨y7, y8, ei⟩ := cost_inner ok r (p := p) (fun o ho => hp o (hr.step ho)) (hallD g) l (cellD goal) x7 x8
  obtain ⟨q1, q2⟩ := relax_all (nbrL g c) [] _ r fun o ho => ho
  refine ⟨_, .fz (cellD c), y7, y8, ?_, q1.end_ fun o ho => by simpa using ho, ?_⟩
  rotate_left
  · have := List.length_erase_of_mem hc
    have hpos : 0 < s.2.length := List.length_pos_iff.mpr hne
    dsimp only at q2
    omega
  · unfold b_costs_to_2
    refine (q_set (d := cellD c) ?_).trans ?_
    · have em : mapR (fun d => e2 dIx (eOwn 4) (eVar 9) (ρC (hallD g) l (cellD goal) (wD g ls p) s x6 x7 x8 ++ [.fz d])) (s.2.map cellD) = .ok (s.2.map fun t => cellD ((getC s.1 t).getD (0, 0))) :=
        mapR_map cellD _ s.2 fun t ht => by
          have := dIx_cost (gv t ht)
          simp [ρC, this]
      have ea : eOwn 5 (ρC (hallD g) l (cellD goal) (wD g ls p) s x6 x7 x8) = .ok (.lst (s.2.map cellD)) := rfl
      unfold eMinKey
      rw [ea]
      simp only [bind_ok, itemsLT, of_some]
      rw [em]
      dsimp only
      rw [e0, List.map_cons, List.map_cons]
      show Res.of (pickM (cellD t0) (cellD ((getC s.1 t0).getD (0, 0))) ((td.map cellD).zip (td.map fun t => cellD ((getC s.1 t).getD (0, 0))))) = _
      rw [List.zip_map', p1]
      rfl
    · obtain ⟨j, el1, el2⟩ := remI_cells hc
      have er : sRem 5 (eVar 6) ((ρC (hallD g) l (cellD goal) (wD g ls p) s x6 x7 x8).set 6 (.fz (cellD c))) = .nx (ρC (hallD g) l (cellD goal) (wD g ls p) (s.1, s.2.erase c) (.fz (cellD c)) x7 x8) := by
        unfold sRem ρC
        simp only [List.set_cons_succ, List.set_cons_zero, List.getElem?_cons_succ, List.getElem?_cons_zero]
        show sBind (.ok (cellD c)) _ = _
        rw [sbind_ok, el1]
        dsimp only
        rw [el2]
      rw [q_seq er]
      have en := e_neighbours ok c
      have ev : iVal (eFn m_neighbours (aCons (eVar 0) (aCons (eVar 6) aNil))) (ρC (hallD g) l (cellD goal) (wD g ls p) (s.1, s.2.erase c) (.fz (cellD c)) x7 x8) = .ok ((nbrL g c).map cellD) := by
        simp [ρC, en, itemsOf]
      simp only [sFor_eq, ev, sbind_ok]
      exact ei
end Lw

set_option Elab.async false
set_option linter.all false
set_option maxRecDepth 100000
set_option maxHeartbeats 1000000
namespace Lw
open PySem PySem.Spec PyProof.Rows L2 DL
theorem cost_loop {g : Hall} (ok : g.Ok) {ls : List Cell} {goal : Cell} {p : List Cell} (hp : ∀ c, Reach g goal c → c ∈ p) (hg : okC g goal = true) (l : D) : ∀ (n N : Nat) (s : CS) (x6 x7 x8 : DL.Slot), CInv g ls goal s → s.2.length + ((cellsL g).length - s.1.length) ≤ n → n < N →
    ∃ s' y6 y7 y8, whileN b_costs_to_3 b_costs_to_2 N (ρC (hallD g) l (cellD goal) (wD g ls p) s x6 x7 x8) = .nx (ρC (hallD g) l (cellD goal) (wD g ls p) s' y6 y7 y8) ∧ CInv g ls goal s' ∧ s'.2 = [] := by
  have test : ∀ (s : CS) (x6 x7 x8 : DL.Slot), b_costs_to_3 (ρC (hallD g) l (cellD goal) (wD g ls p) s x6 x7 x8) = .ok (decide (s.2 ≠ [])) := fun s x6 x7 x8 => by
    unfold b_costs_to_3 ρC
    simp
    cases s.2 <;> simp
  intro n
  induction n with
  | zero =>
    intro N s x6 x7 x8 h hn hN
    have e : s.2 = [] := List.eq_nil_of_length_eq_zero (by omega)
    obtain ⟨M, rfl⟩ : ∃ M, N = M + 1 := ⟨N - 1, by omega⟩
    refine ⟨s, x6, x7, x8, ?_, h, e⟩
    unfold whileN
    rw [test]
    simp [e]
  | succ n ih =>
    intro N s x6 x7 x8 h hn hN
    obtain ⟨M, rfl⟩ : ∃ M, N = M + 1 := ⟨N - 1, by omega⟩
    by_cases c : s.2 = []
    · refine ⟨s, x6, x7, x8, ?_, h, c⟩
      unfold whileN
      rw [test]
      simp [c]
    · obtain ⟨s', y6, y7, y8, e1, h1, e2⟩ := cost_step ok h hp hg c l x6 x7 x8
      obtain ⟨a1, a2, a3⟩ := h.toCBase.few ok
      obtain ⟨b1, b2, b3⟩ := h1.toCBase.few ok
      obtain ⟨s2, z6, z7, z8, e3, h3, e4⟩ := ih M s' y6 y7 y8 h1 (by omega) (by omega)
      refine ⟨s2, z6, z7, z8, ?_, h3, e4⟩
      unfold whileN
      rw [test]
      simp only [sbind_ok]
      rw [if_pos (by simp [c]), e1]
      exact e3
/-- what costs_to tells -/
structure Costs (g : Hall) (ls : List Cell) (goal : Cell) (k : KV) : Prop where
  att : ∀ c v, getC k c = some v → ∃ w, Best g ls c goal w ∧ worthC g ls w = v
  all : ∀ c w, Wy g c goal w → ∃ v, getC k c = some v ∧ leW v (worthC g ls w)
theorem e_costs_to {g : Hall} (ok : g.Ok) {ls : List Cell} (hl : ∀ l ∈ ls, g.ins l = true) {goal : Cell} (hg : okC g goal = true) : ∃ k, m_costs_to [hallD g, .tup (ls.map cellD), cellD goal] = .ok (costD k) ∧ Costs g ls goal k := by
  obtain ⟨ps1, ps2⟩ := part_spec ok hg
  have hgp : goal ∈ partL g goal := (ps2 goal).mpr .refl
  have cells : ∀ c ∈ partL g goal, g.ins c = true := fun c h => ok_ins (((ps2 c).mp h).ok hg)
  have cc : compL (.nm 6) tYes' (eTup (aCons (eVar 6) (aCons (eCall dInt (aCons (eFn m_is_seen (aCons (eVar 0) (aCons (eVar 1) (aCons (eVar 6) aNil)))) aNil)) aNil))) [.fz (hallD g), .fz (.tup (ls.map cellD)), .fz (cellD goal), .no, .no, .no, .no, .no, .no] ((partL g goal).map cellD) =
      .ok (((partL g goal).map fun c => (c, wtC g ls c)).map fun p => D.tup [cellD p.1, .int p.2]) := by
    rw [List.map_map]
    refine compL_all cellD _ (partL g goal) fun c hc => ⟨_, rfl, ?_⟩
    simp [e_is_seen ok hl (cells c hc), wtC]
  have dd := dDict_cells (fun i : Int => D.int i) ((partL g goal).map fun c => (c, wtC g ls c)) (by rw [List.map_map]; simpa [Function.comp_def] using ps1.nodup)
  obtain ⟨s', y6, y7, y8, e1, h1, e2⟩ := cost_loop ok (p := partL g goal) (fun c h => (ps2 c).mpr h) hg (.tup (ls.map cellD)) 200 10000 ([(goal, (wtC g ls goal, 1))], [goal]) .no .no .no (cinv0 (ls := ls) hg) (by have := cells_len64 ok; simp; omega) (by decide)
  have lst : ∀ c w, Wy g c goal w → ∃ v, getC s'.1 c = some v ∧ leW v (worthC g ls w) := fun c w hw => h1.best e2 hw
  refine ⟨s'.1, ?_, fun c v e => ?_, lst⟩
  · show outOf (b_costs_to (rho0 9 [hallD g, .tup (ls.map cellD), cellD goal])) = _
    simp [rho0]
    unfold b_costs_to
    have ep := e_part_of ok hg
    generalize (((partL g goal).map fun c => (c, wtC g ls c)).map fun p => D.tup [cellD p.1, .int p.2]) = prs at cc dd
    refine (congrArg outOf (q_set (d := wD g ls (partL g goal)) (by simp [ep, itemsOf, cc, dd]; rfl))).trans ?_
    simp only [List.set_cons_succ, List.set_cons_zero]
    have iw := dIx_w (g := g) (ls := ls) hgp
    refine (congrArg outOf (q_new (d := costD [(goal, (wtC g ls goal, 1))]) (by simp [eD1, iw, costD, dicC]; rfl))).trans ?_
    simp only [List.set_cons_succ, List.set_cons_zero]
    refine (congrArg outOf (q_new (d := .lst ([goal].map cellD)) (by simp))).trans ?_
    simp only [List.set_cons_succ, List.set_cons_zero]
    refine (congrArg outOf (q_seq (x := sWhile 10000 b_costs_to_3 b_costs_to_2) e1)).trans ?_
    refine (congrArg outOf q_frz).trans ?_
    refine (congrArg outOf q_frz).trans ?_
    unfold ρC
    simp only [frz_s, frz_0]
    simp
  · obtain ⟨w, hw, ew⟩ := h1.att c v e
    refine ⟨w, ⟨hw, fun u hu => ?_⟩, ew⟩
    obtain ⟨v', e', l'⟩ := lst c u hu
    rw [e] at e'
    cases e'
    rw [ew]
    exact l'
end Lw

set_option Elab.async false
set_option linter.all false
set_option maxRecDepth 100000
set_option maxHeartbeats 1000000
namespace Lw
open PySem PySem.Spec PyProof.Rows L2 DL
theorem tup_last (xs : List D) (x : D) : atI (xs ++ [x]) (-1) = some x := by
  unfold L2.atI L2.ixN
  have e : (-1 + ((xs ++ [x]).length : Int)).toNat = xs.length := by simp; omega
  rw [if_neg (by decide), if_pos (by simp; omega), Option.bind_some, e]
  simp
def ρS (hd l o e : D) (x4 : DL.Slot) (cd wy : D) (x7 x8 x9 : DL.Slot) : Rho := [.fz hd, .fz l, .fz o, .fz e, x4, .fz cd, .fz wy, x7, x8, x9]
theorem step_cancel {g : Hall} {ls : List Cell} {u v o : Cell} (h : leW (stepW g ls u o) (stepW g ls v o)) : leW u v := by
  unfold leW stepW at *
  dsimp only at h
  omega
theorem sly_loop {g : Hall} (ok : g.Ok) {ls : List Cell} (hl : ∀ l ∈ ls, g.ins l = true) {other : Cell} {k : KV} (C : Costs g ls other k) (o : D) : ∀ (n N : Nat) (here v : Cell) (acc : List Cell) (x4 x7 x8 x9 : DL.Slot), getC k here = some v → v.2 ≤ (n : Int) → n < N → acc.length + n ≤ 900 →
    ∃ w y4 y7 y8 y9, whileN b_slyest_3 b_slyest_2 N (ρS (hallD g) (.tup (ls.map cellD)) o (cellD other) x4 (costD k) (.tup ((acc ++ [here]).map cellD)) x7 x8 x9) = .nx (ρS (hallD g) (.tup (ls.map cellD)) o (cellD other) y4 (costD k) (.tup ((acc ++ here :: w).map cellD)) y7 y8 y9) ∧ Wy g here other (here :: w) ∧ worthC g ls (here :: w) = v := by
  have lastD : ∀ (acc : List Cell) (here : Cell), dIx (.tup ((acc ++ [here]).map cellD)) (.int (-1)) = some (cellD here) := fun acc here => by
    rw [List.map_append]
    exact tup_last _ _
  have test : ∀ (acc : List Cell) (here : Cell) (x4 x7 x8 x9 : DL.Slot), b_slyest_3 (ρS (hallD g) (.tup (ls.map cellD)) o (cellD other) x4 (costD k) (.tup ((acc ++ [here]).map cellD)) x7 x8 x9) = .ok (!decide (here = other)) := fun acc here x4 x7 x8 x9 => by
    have := lastD acc here
    unfold b_slyest_3 ρS
    generalize (acc ++ [here]).map cellD = W at *
    simp only [eT_eq, e2_eq, e1_eq, eC_eq, bind_ok, of_some, dNeg_int]
    show ((Res.of (dIx (.tup W) (.int (-1)))).bind fun x => (Res.of (dNe x (cellD other)))).bind _ = _
    rw [this]
    simp
  intro n
  induction n with
  | zero =>
    intro N here v acc x4 x7 x8 x9 e hv
    obtain ⟨w, hb, ew⟩ := C.att here v e
    have := hb.1.len
    rw [← ew] at hv
    unfold worthC at hv
    dsimp only at hv
    omega
  | succ n ih =>
    intro N here v acc x4 x7 x8 x9 e hv hN hacc
    obtain ⟨M, rfl⟩ : ∃ M, N = M + 1 := ⟨N - 1, by omega⟩
    obtain ⟨w0, hb, ew⟩ := C.att here v e
    by_cases q : here = other
    · refine ⟨[], x4, x7, x8, x9, ?_, by rw [q]; exact .one hb.1.ok2, ?_⟩
      · unfold whileN
        rw [test]
        simp [q]
      · rw [q] at hb
        have l := hb.2 [other] (.one hb.1.ok2)
        obtain ⟨r, rfl⟩ := hb.1.head
        rw [ew, worth_cons] at l
        rw [worth_cons] at ew
        rw [q, worth_cons]
        unfold worthC seenN at *
        rw [← ew] at l ⊢
        unfold leW at l
        simp at l ⊢
        omega
    · obtain ⟨b, w1, rfl, hd, hw1⟩ : ∃ b w1, w0 = here :: w1 ∧ dist2 here b = 1 ∧ Wy g b other w1 := by
        cases hb.1 with
        | one z => exact absurd rfl q
        | step z d hw => exact ⟨_, _, rfl, d, hw⟩
      have okh := hb.1.ok1
      have ev : v = stepW g ls (worthC g ls w1) here := by rw [← ew, worth_step]
      obtain ⟨vb, eb, lb⟩ := C.all b w1 hw1
      obtain ⟨wb, hwb, ewb⟩ := C.att b vb eb
      have lb2 : leW (worthC g ls w1) vb := by
        have := hb.2 (here :: wb) (.step okh hd hwb.1)
        rw [worth_step, worth_step, ewb] at this
        exact step_cancel this
      have edue := leW_anti lb lb2
      generalize hdue : worthC g ls w1 = due at *
      subst edue
      have hbn : b ∈ nbrL g here := mem_nbr.mpr ⟨hw1.ok1, hd⟩
      have gall : ∀ c ∈ nbrL g here, ∃ u, getC k c = some u := fun c hc => by
        obtain ⟨u, eu, _⟩ := C.all c (c :: here :: w1) (.step (mem_nbr.mp hc).1 (by rw [dist2_comm]; exact (mem_nbr.mp hc).2) hb.1)
        exact ⟨u, eu⟩
      obtain ⟨c, cs, ef⟩ : ∃ c cs, (nbrL g here).filter (fun c => decide (getC k c = some vb)) = c :: cs := by
        cases ez : (nbrL g here).filter (fun c => decide (getC k c = some vb)) with
        | nil =>
          have : b ∈ (nbrL g here).filter (fun c => decide (getC k c = some vb)) := List.mem_filter.mpr ⟨hbn, by simpa using eb⟩
          rw [ez] at this
          cases this
        | cons c cs => exact ⟨c, cs, rfl⟩
      have hcm : c ∈ (nbrL g here).filter (fun c => decide (getC k c = some vb)) := by rw [ef]; exact List.mem_cons_self
      obtain ⟨hcn, hcv⟩ := List.mem_filter.mp hcm
      have hcv : getC k c = some vb := by simpa using hcv
      have v2 : v.2 = vb.2 + 1 := by rw [ev]; rfl
      obtain ⟨w, z4, z7, z8, z9, e1, hw, ew2⟩ := ih M c vb (acc ++ [here]) x4 (.fz (cellD here)) (.fz (.int (wtC g ls here))) (.fz (cellD vb)) hcv (by omega) (by omega) (by simp; omega)
      refine ⟨c :: w, z4, z7, z8, z9, ?_, .step okh (mem_nbr.mp hcn).2 hw, by rw [worth_step, ew2, ev]⟩
      unfold whileN
      rw [test]
      simp only [sbind_ok]
      rw [if_pos (by simp [q])]
      have eb2 : b_slyest_2 (ρS (hallD g) (.tup (ls.map cellD)) o (cellD other) x4 (costD k) (.tup ((acc ++ [here]).map cellD)) x7 x8 x9) = .nx (ρS (hallD g) (.tup (ls.map cellD)) o (cellD other) x4 (costD k) (.tup (((acc ++ [here]) ++ [c]).map cellD)) (.fz (cellD here)) (.fz (.int (wtC g ls here))) (.fz (cellD vb))) := by
        have la := lastD acc here
        have sn := e_is_seen ok hl (ok_ins okh)
        have ix := dIx_cost e
        have en := e_neighbours ok here
        have cc : compL (.nm 4) (eT (e2 dEq (e2 dIx (eVar 5) (eVar 4)) (eVar 9))) (eVar 4) (ρS (hallD g) (.tup (ls.map cellD)) o (cellD other) .no (costD k) (.tup ((acc ++ [here]).map cellD)) (.fz (cellD here)) (.fz (.int (wtC g ls here))) (.fz (cellD vb))) ((nbrL g here).map cellD) = .ok ((c :: cs).map cellD) := by
          rw [← ef]
          refine compL_map cellD (fun c => decide (getC k c = some vb)) cellD (nbrL g here) fun d hd => ⟨_, rfl, ?_, fun _ => rfl⟩
          obtain ⟨u, eu⟩ := gall d hd
          have := dIx_cost eu
          simp [ρS, this, eu]
        have da : dAdd (.tup ((acc ++ [here]).map cellD)) (.tup [cellD c]) = some (.tup (((acc ++ [here]) ++ [c]).map cellD)) := by
          rw [dAdd_tup (by simp; omega)]
          simp
        unfold b_slyest_2
        generalize (acc ++ [here]).map cellD = W at *
        unfold ρS at *
        refine (q_set (d := cellD here) (by simp [la])).trans ?_
        simp only [List.set_cons_succ, List.set_cons_zero]
        refine (q_set (d := .int (wtC g ls here)) (by simp [sn, wtC])).trans ?_
        simp only [List.set_cons_succ, List.set_cons_zero]
        refine (q_set (d := cellD vb) (by
          simp [ix]
          rw [ev]
          simp [stepW, cellD])).trans ?_
        simp only [List.set_cons_succ, List.set_cons_zero]
        refine (q_set1 (d := .tup (((acc ++ [here]) ++ [c]).map cellD)) ?_).trans ?_
        · simp only [e2_eq, eTup_eq, aCons_eq, aNil_eq]
          simp [en, itemsOf, cc]
          simp at da
          rw [da]
          rfl
        · rfl
      rw [eb2]
      rw [show acc ++ here :: c :: w = (acc ++ [here]) ++ c :: w by simp]
      exact e1
/-- what slyest tells -/
theorem e_slyest {g : Hall} (ok : g.Ok) {ls : List Cell} (hl : ∀ l ∈ ls, g.ins l = true) (one other : Cell) :
    (¬ (okC g one = true ∧ okC g other = true) → m_slyest [hallD g, .tup (ls.map cellD), cellD one, cellD other] = .err "NoCell") ∧
    (okC g one = true → okC g other = true → ¬ Reach g one other → m_slyest [hallD g, .tup (ls.map cellD), cellD one, cellD other] = .err "NoWay") ∧
    (okC g one = true → Reach g one other → ∃ w, m_slyest [hallD g, .tup (ls.map cellD), cellD one, cellD other] = .ok (.tup (w.map cellD)) ∧ Best g ls one other w) := by
  obtain ⟨X, hX⟩ : ∃ X, m_slyest [hallD g, .tup (ls.map cellD), cellD one, cellD other] = X := ⟨_, rfl⟩
  rw [hX]
  have hX : outOf (b_slyest (rho0 10 [hallD g, .tup (ls.map cellD), cellD one, cellD other])) = X := hX
  simp [rho0] at hX
  unfold b_slyest at hX
  have body : ∀ (c : Cell) (x5 x6 x7 x8 x9 : DL.Slot), b_slyest_1 [.fz (hallD g), .fz (.tup (ls.map cellD)), .fz (cellD one), .fz (cellD other), .fz (cellD c), x5, x6, x7, x8, x9] = if okC g c = true then .nx [.fz (hallD g), .fz (.tup (ls.map cellD)), .fz (cellD one), .fz (cellD other), .fz (cellD c), x5, x6, x7, x8, x9] else .er "NoCell" := fun c x5 x6 x7 x8 x9 => by
    unfold b_slyest_1 okC
    cases h : g.ins c with
    | true =>
      cases h2 : free g c with
      | true => simp [ok, h, h2]
      | false => simp [ok, h, h2]
    | false => simp [ok, h]
  have it : iVal (eTup (aCons (eVar 2) (aCons (eVar 3) aNil))) [.fz (hallD g), .fz (.tup (ls.map cellD)), .fz (cellD one), .fz (cellD other), .no, .no, .no, .no, .no, .no] = .ok [cellD one, cellD other] := by simp [itemsOf]
  have as : ∀ (c : Cell) (x4 x5 x6 x7 x8 x9 : DL.Slot), (Tg.nm 4).asg (cellD c) [.fz (hallD g), .fz (.tup (ls.map cellD)), .fz (cellD one), .fz (cellD other), x4, x5, x6, x7, x8, x9] = some [.fz (hallD g), .fz (.tup (ls.map cellD)), .fz (cellD one), .fz (cellD other), .fz (cellD c), x5, x6, x7, x8, x9] := fun _ _ _ _ _ _ _ => rfl
  have loop : forL (.nm 4) b_slyest_1 [cellD one, cellD other] [.fz (hallD g), .fz (.tup (ls.map cellD)), .fz (cellD one), .fz (cellD other), .no, .no, .no, .no, .no, .no] = if okC g one = true ∧ okC g other = true then .nx [.fz (hallD g), .fz (.tup (ls.map cellD)), .fz (cellD one), .fz (cellD other), .fz (cellD other), .no, .no, .no, .no, .no] else .er "NoCell" := by
    unfold forL
    rw [as]
    dsimp only
    rw [body]
    by_cases h1 : okC g one = true
    · rw [if_pos h1]
      dsimp only
      unfold forL
      rw [as]
      dsimp only
      rw [body]
      by_cases h2 : okC g other = true
      · rw [if_pos h2, if_pos ⟨h1, h2⟩]
        rfl
      · rw [if_neg h2, if_neg (fun z => h2 z.2)]
    · rw [if_neg h1, if_neg (fun z => h1 z.1)]
  refine ⟨fun hn => ?_, fun h1 h2 hn => ?_, fun h1 hr => ?_⟩
  · rw [if_neg hn] at loop
    simp only [sSeq_eq, sFor_eq, it, sbind_ok, loop] at hX
    exact hX.symm
  · rw [if_pos ⟨h1, h2⟩] at loop
    have hX := (congrArg outOf (q_for it loop)).symm.trans hX
    obtain ⟨k, ek, C⟩ := e_costs_to ok hl h2
    have hX := (congrArg outOf (q_set (d := costD k) (by simp [ek]))).symm.trans hX
    simp only [List.set_cons_succ, List.set_cons_zero] at hX
    have nk : one ∉ k.map (·.1) := fun z => by
      obtain ⟨v, e⟩ := getC_mem z
      obtain ⟨w, hb, _⟩ := C.att one v e
      exact hn hb.1.reach
    have ni : dNotIn (cellD one) (costD k) = some (.bl true) := by rw [notIn_cost]; simp only [nk, decide_false, Bool.not_false]
    simp [ni] at hX
    exact hX.symm
  · have h2 := hr.ok h1
    rw [if_pos ⟨h1, h2⟩] at loop
    have hX := (congrArg outOf (q_for it loop)).symm.trans hX
    obtain ⟨k, ek, C⟩ := e_costs_to ok hl h2
    have hX := (congrArg outOf (q_set (d := costD k) (by simp [ek]))).symm.trans hX
    simp only [List.set_cons_succ, List.set_cons_zero] at hX
    obtain ⟨w0, hw0⟩ := wy_of_reach h1 hr
    obtain ⟨v, e, _⟩ := C.all one w0 hw0
    have mk := getC_some e
    have ni : dNotIn (cellD one) (costD k) = some (.bl false) := by rw [notIn_cost]; simp only [mk, decide_true, Bool.not_true]
    have hX := (congrArg outOf (q_pass (by simp [ni]))).symm.trans hX
    have hX := (congrArg outOf (q_set (d := .tup (([] ++ [one]).map cellD)) (by simp))).symm.trans hX
    simp only [List.set_cons_succ, List.set_cons_zero] at hX
    obtain ⟨wb, hb, ewb⟩ := C.att one v e
    have v64 : v.2 ≤ 64 := by
      rw [← ewb]
      have := hb.len64 ok
      unfold worthC
      dsimp only
      omega
    obtain ⟨w, y4, y7, y8, y9, e1, hw, ew⟩ := sly_loop ok hl C (cellD one) 64 10000 one v [] (.fz (cellD other)) .no .no .no e (by omega) (by decide) (by simp)
    have hX := (congrArg outOf (q_seq (x := sWhile 10000 b_slyest_3 b_slyest_2) e1)).symm.trans hX
    refine ⟨one :: w, ?_, hw, fun u hu => ?_⟩
    · rw [← hX]
      rfl
    · rw [ew, ← ewb]
      exact hb.2 u hu
end Lw

set_option Elab.async false
set_option linter.all false
set_option maxRecDepth 100000
set_option maxHeartbeats 1000000
namespace Lw
open PySem PySem.Spec PyProof.Rows L2 DL
/-! ### parts, picks, pieces of ways -/
theorem atI_map {α : Type} (f : α → D) {xs : List α} {i : Nat} {x : α} (h : xs[i]? = some x) : atI (xs.map f) (i : Int) = some (f x) := by
  rw [atI_at (by omega), Int.toNat_natCast, List.getElem?_map, h]
  rfl
/-- some item, by a number -/
theorem pick_at {α : Type} (f : α → D) {xs : List α} (h : xs ≠ []) (n : Int) : ∃ x ∈ xs, atI (xs.map f) (n % (xs.length : Int)) = some (f x) := by
  have hp : 0 < xs.length := List.length_pos_iff.mpr h
  have h0 : 0 ≤ n % (xs.length : Int) := Int.emod_nonneg _ (by omega)
  have h1 : n % (xs.length : Int) < xs.length := Int.emod_lt_of_pos _ (by omega)
  obtain ⟨k, hk⟩ := Int.eq_ofNat_of_zero_le h0
  rw [hk] at h1 ⊢
  have hl : k < xs.length := by omega
  exact ⟨xs[k], List.getElem_mem hl, atI_map f (List.getElem?_eq_getElem hl)⟩
theorem part_mem {g : Hall} (ok : g.Ok) {p : List Cell} (h : p ∈ partsL g) : p ≠ [] ∧ (∀ c ∈ p, okC g c = true) ∧ ∀ c ∈ p, ∀ d ∈ p, Reach g c d := by
  obtain ⟨a, ha, rfl⟩ := ((parts_spec ok).2 p).mp h
  obtain ⟨_, h2⟩ := part_spec ok ha
  refine ⟨fun z => ?_, fun c hc => ((h2 c).mp hc).ok ha, fun c hc d hd => (((h2 c).mp hc).symm ha).trans ((h2 d).mp hd)⟩
  have := (h2 a).mpr .refl
  rw [z] at this
  cases this
theorem dEq_parts0 (ps : List (List Cell)) : dEq (.tup (ps.map partD)) (.tup []) = some (.bl (decide (ps = []))) := by
  have := ((enc_cells 61).tup).dEq ps []
  exact this
theorem dMod_len {n : Int} {m : Nat} (h : 0 < m) : dMod (.int n) (.int (m : Int)) = some (.int (n % (m : Int))) := dMod_ok (by omega)
theorem Best.pre {g : Hall} {ls : List Cell} {a b x : Cell} {w u : List Cell} {i : Nat} (h : Best g ls a b w) (e : w[i]? = some x) (hu : Best g ls a x u) : worthC g ls u = worthC g ls (w.take (i + 1)) := by
  have h1 := h.1.take i x e
  have h2 := h.1.drop i x e
  have q1 := hu.2 _ h1
  have q2 := h.2 _ (hu.1.app h2)
  have ew : w = w.take (i + 1) ++ (w.drop i).tail := by
    rw [List.tail_drop, List.take_append_drop]
  rw [worth_app h2] at q2
  have q3 : worthC g ls w = _ := (congrArg (worthC g ls) ew).trans (worth_app h2)
  rw [q3] at q2
  refine leW_anti q1 ?_
  unfold leW at q2 ⊢
  dsimp only at q2
  omega
theorem Best.suf {g : Hall} {ls : List Cell} {a b x : Cell} {w u : List Cell} {i : Nat} (h : Best g ls a b w) (e : w[i]? = some x) (hu : Best g ls x b u) : worthC g ls u = worthC g ls (w.drop i) := by
  have h1 := h.1.take i x e
  have h2 := h.1.drop i x e
  have q1 := hu.2 _ h2
  have q2 := h.2 _ (h1.app hu.1)
  have ew : w = w.take (i + 1) ++ (w.drop i).tail := by
    rw [List.tail_drop, List.take_append_drop]
  rw [worth_app hu.1] at q2
  have q3 : worthC g ls w = _ := (congrArg (worthC g ls) ew).trans (worth_app h2)
  rw [q3] at q2
  refine leW_anti q1 ?_
  unfold leW at q2 ⊢
  dsimp only at q2
  omega
theorem e_law_worth {g : Hall} (ok : g.Ok) {ls : List Cell} (hl : ∀ l ∈ ls, g.ins l = true) {w : List Cell} (hw : ∀ c ∈ w, g.ins c = true) : m__law_worth [hallD g, .tup (ls.map cellD), .tup (w.map cellD)] = .ok (cellD (worthC g ls w)) := by
  have := e_seen_on ok hl hw
  simp [m__law_worth, runB, rho0, b__law_worth, this]
  rfl
theorem Wy.ins {g : Hall} {a b : Cell} {w : List Cell} (h : Wy g a b w) : ∀ c ∈ w, g.ins c = true := fun c hc => ok_ins (h.all c hc)
end Lw

set_option Elab.async false
set_option linter.all false
set_option maxRecDepth 100000
set_option maxHeartbeats 1000000
namespace Lw
open PySem PySem.Spec PyProof.Rows L2 DL
/-! ### a drawn walk -/
@[simp] theorem s_dotO : (".o" : Str) = mkS [46, 111] := by decide +kernel
theorem in_dotO {g : Hall} (ok : g.Ok) {c : Cell} (h : g.ins c = true) : dIn (.str (mkS [g.at c])) (.str (mkS [46, 111])) = some (.bl (free g c)) := by
  unfold dIn
  rw [in_str1]
  have : decide (g.at c ∈ [46, 111]) = free g c := by
    rw [Bool.eq_iff_iff, free_iff, decide_eq_true_eq]
    simp only [List.mem_cons, List.not_mem_nil, or_false]
    rcases ok.at_ok h with z | z | z | z <;> rw [z] <;> decide
  rw [this]
  rfl
def steps4 : List Cell := [(-1, 0), (0, -1), (0, 1), (1, 0)]
theorem steps_dist {b s : Cell} (h : s ∈ steps4) : dist2 b (b.1 + s.1, b.2 + s.2) = 1 := by
  unfold steps4 at h
  unfold dist2
  simp only [List.mem_cons, List.not_mem_nil, or_false] at h
  rcases h with rfl | rfl | rfl | rfl
  · have e : b.1 - (b.1 + -1) = 1 := by omega
    have e2 : b.2 - (b.2 + 0) = 0 := by omega
    simp only [e, e2]
    decide
  · have e : b.1 - (b.1 + 0) = 0 := by omega
    have e2 : b.2 - (b.2 + -1) = 1 := by omega
    simp only [e, e2]
    decide
  · have e : b.1 - (b.1 + 0) = 0 := by omega
    have e2 : b.2 - (b.2 + 1) = -1 := by omega
    simp only [e, e2]
    decide
  · have e : b.1 - (b.1 + 1) = -1 := by omega
    have e2 : b.2 - (b.2 + 0) = 0 := by omega
    simp only [e, e2]
    decide
theorem e_law_walk {g : Hall} (ok : g.Ok) {a : Cell} (ha : okC g a = true) (n : Int) : ∃ w b, m__law_walk [hallD g, cellD a, .int n] = .ok (.tup (w.map cellD)) ∧ Wy g a b w ∧ w.length ≤ 15 := by
  have r1 : rng1 [.int 14] = some ((List.range 14).map fun (i : Nat) => .int (i : Int)) := rng1_ok (by decide) (by decide)
  obtain ⟨ρ', h1, w, b, y4, y5, y6, y7, y8, y9, rfl, hw, hl⟩ := forL_ix0 (t := .nm 4) (body := b__law_walk_1) (fun i : Nat => D.int (i : Int)) (fun i ρ => ∃ w b y4 y5 y6 y7 y8 y9, ρ = [.fz (hallD g), .fz (cellD a), .fz (.int n), .fz (.tup (w.map cellD)), y4, y5, y6, y7, y8, y9] ∧ Wy g a b w ∧ w.length ≤ i + 1) (List.range 14)
    [.fz (hallD g), .fz (cellD a), .fz (.int n), .fz (.tup ([a].map cellD)), .no, .no, .no, .no, .no, .no] ⟨[a], a, _, _, _, _, _, _, rfl, .one ha, by simp⟩ (by
      rintro i j ρ hi ⟨w, b, y4, y5, y6, y7, y8, y9, rfl, hw, hl⟩
      obtain ⟨rfl, hj⟩ := range_get hi
      obtain ⟨w0, ew⟩ : ∃ w0, w = w0 ++ [b] := by
        have := hw.last
        refine ⟨w.dropLast, ?_⟩
        have q := List.dropLast_concat_getLast hw.ne
        rw [List.getLast?_eq_some_getLast hw.ne] at this
        rw [Option.some.inj this] at q
        exact q.symm
      have la : atI (w.map cellD) (-1) = some (cellD b) := by
        rw [ew, List.map_append]
        exact tup_last _ _
      obtain ⟨s, hs, es⟩ := pick_at cellD (xs := steps4) (by decide) (drawN n j / 16)
      have es : atI [cellD (-1, 0), cellD (0, -1), cellD (0, 1), cellD (1, 0)] (drawN n j / 16 % 4) = some (cellD s) := es
      have dd := steps_dist (b := b) hs
      have da : ∀ c, dAdd (.tup (w.map cellD)) (.tup [cellD c]) = some (.tup ((w ++ [c]).map cellD)) := fun c => by
        rw [dAdd_tup (by simp; omega), List.map_append]
        rfl
      generalize hW : w.map cellD = W at *
      have go : b__law_walk_1 [.fz (hallD g), .fz (cellD a), .fz (.int n), .fz (.tup W), .fz (.int j), y5, y6, y7, y8, y9] = .nx [.fz (hallD g), .fz (cellD a), .fz (.int n), .fz (if okC g (b.1 + s.1, b.2 + s.2) = true then .tup ((w ++ [(b.1 + s.1, b.2 + s.2)]).map cellD) else .tup W), .fz (.int j), .fz (cellD (b.1 + s.1, b.2 + s.2)), .fz (.int b.1), .fz (.int b.2), .fz (.int s.1), .fz (.int s.2)] := by
        unfold b__law_walk_1
        refine (q_unp (d := cellD b) (by simp [la]) (e_cell2 b _ 6 7)).trans ?_
        simp only [List.set_cons_succ, List.set_cons_zero]
        refine (q_unp (d := cellD s) (by
          simp only [cell_fold, e2_eq, eTup_eq, aCons_eq, aNil_eq, e1_eq, eC_eq, bind_ok, of_some, dNeg_int, eFn_eq, eVar_s, eVar_0]
          simp [es, cell_fold]) (e_cell2 s _ 8 9)).trans ?_
        simp only [List.set_cons_succ, List.set_cons_zero]
        refine (q_set (d := cellD (b.1 + s.1, b.2 + s.2)) (by simp [cellD])).trans ?_
        simp only [List.set_cons_succ, List.set_cons_zero]
        generalize hT : ((b.1 + s.1, b.2 + s.2) : Cell) = t at *
        by_cases c1 : g.ins t = true
        · have i4 := in_dotO ok c1
          have c1' := Hall.ins_iff.mp c1
          cases c2 : free g t with
          | true =>
            have : okC g t = true := by unfold okC; rw [c1, c2]; rfl
            rw [c2] at i4
            rw [if_pos this]
            rw [q_yes1 (by simp [c1', ok, c1, i4])]
            rw [q_set1 (d := .tup ((w ++ [t]).map cellD)) (by
              have := da t
              generalize (w ++ [t]).map cellD = V at *
              simp [this])]
            rfl
          | false =>
            have : ¬ okC g t = true := by unfold okC; rw [c1, c2]; decide
            rw [c2] at i4
            rw [if_neg this]
            rw [q_no1 (by simp [c1', ok, c1, i4])]
            rfl
        · have : ¬ okC g t = true := fun z => c1 (ok_ins z)
          rw [if_neg this]
          rw [Hall.ins_iff] at c1
          refine (q_no1 ?_).trans rfl
          by_cases z1 : 0 ≤ t.1
          · by_cases z2 : t.1 < g.h
            · by_cases z3 : 0 ≤ t.2
              · have z4 : ¬ t.2 < g.w := fun z4 => c1 ⟨z1, z2, z3, z4⟩
                simp [z1, z2, z3, z4, ok]
              · simp [z1, z2, z3, ok]
            · simp [z1, z2, ok]
          · simp [z1, ok]
      by_cases q : okC g (b.1 + s.1, b.2 + s.2) = true
      · rw [if_pos q] at go
        exact ⟨_, _, rfl, .inl go, _, _, _, _, _, _, _, _, rfl, hw.snoc dd q, by simp; omega⟩
      · rw [if_neg q, ← hW] at go
        rw [← hW]
        exact ⟨_, _, rfl, .inl go, _, _, _, _, _, _, _, _, rfl, hw, by omega⟩)
  refine ⟨w, b, ?_, hw, by simpa using hl⟩
  show outOf (b__law_walk (rho0 10 [hallD g, cellD a, .int n])) = _
  simp [rho0]
  unfold b__law_walk
  refine (congrArg outOf (q_set (d := .tup ([a].map cellD)) (by simp))).trans ?_
  simp only [List.set_cons_succ, List.set_cons_zero]
  refine (congrArg outOf (q_for (by simp [r1]) h1)).trans ?_
  simp
end Lw

set_option Elab.async false
set_option linter.all false
set_option maxRecDepth 100000
set_option maxHeartbeats 4000000
namespace Lw
open PySem PySem.Spec PyProof.Rows L2 DL
def b_law_1 : Rho → SR := (sIf (tor (eT (e2 dNe (e2 dAdd (eCall dAbs (aCons (e2 dSub (e2 dIx (eVar 13) (eC (.int 0))) (e2 dIx (eVar 14) (eC (.int 0)))) aNil)) (eCall dAbs (aCons (e2 dSub (e2 dIx (eVar 13) (eC (.int 1))) (e2 dIx (eVar 14) (eC (.int 1)))) aNil))) (eC (.int 1)))) (eT (e2 dNotIn (eVar 14) (eVar 6)))) (sRet (eC (.bl false))) sNil)
def b_law : Rho → SR := (sSeq (sSet 1 (eFn m__law_hall (aCons (eFn m__law_mixed (aCons (eVar 0) (aCons (eC (.int 0)) aNil))) (aCons (eC (.int 8)) aNil)))) (sSeq (sSet 2 (eSl (eFn m__law_some (aCons (eVar 1) (aCons (eFn m__law_mixed (aCons (eVar 0) (aCons (eC (.int 1)) aNil))) aNil))) oNo (oSo (eC (.int 5))))) (sSeq (sSet 3 (eCall dTuple (aCons (eCall dSort64 (aCons (e2 dAdd (eVar 2) (eSl (eFn m__law_some (aCons (eVar 1) (aCons (eFn m__law_mixed (aCons (eVar 0) (aCons (eC (.int 2)) aNil))) aNil))) oNo (oSo (eC (.int 3))))) aNil)) aNil))) (sSeq (sSet 4 (eFn m_parts (aCons (eVar 1) aNil))) (sSeq (sIf (tnot (eT (eFn m__law_are_all (aCons (eVar 1) (aCons (eVar 4) aNil))))) (sRet (eC (.bl false))) sNil) (sSeq (sIf (eT (e2 dEq (eVar 4) (eTup aNil))) (sRet (eC (.bl true))) sNil) (sSeq (sSet 5 (eFn m__law_mixed (aCons (eVar 0) (aCons (eC (.int 3)) aNil)))) (sSeq (sSet 6 (e2 dIx (eVar 4) (e2 dMod (eVar 5) (eCall dLen (aCons (eVar 4) aNil))))) (sSeq (sSet 7 (e2 dIx (eVar 6) (e2 dMod (e2 dFdiv (eVar 5) (eC (.int 16))) (eCall dLen (aCons (eVar 6) aNil))))) (sSeq (sSet 8 (eFn m__law_walk (aCons (eVar 1) (aCons (eVar 7) (aCons (eFn m__law_mixed (aCons (eVar 0) (aCons (eC (.int 4)) aNil))) aNil))))) (sSeq (sSet 9 (e2 dIx (eVar 8) (e1 dNeg (eC (.int 1))))) (sSeq (sIf (tor (eT (e2 dNotIn (eVar 9) (eVar 6))) (eT (e2 dNe (eCall dList (aCons (eVar 6) aNil)) (eCall dSort64 (aCons (eVar 6) aNil))))) (sRet (eC (.bl false))) sNil) (sSeq (sSet 10 (eFn m_slyest (aCons (eVar 1) (aCons (eVar 2) (aCons (eVar 7) (aCons (eVar 9) aNil)))))) (sSeq (sIf (tor (eT (e2 dNe (e2 dIx (eVar 10) (eC (.int 0))) (eVar 7))) (tor (eT (e2 dNe (e2 dIx (eVar 10) (e1 dNeg (eC (.int 1)))) (eVar 9))) (eT (e2 dNe (eCall dLen64 (aCons (eVar 10) aNil)) (eCall dLen (aCons (eVar 10) aNil)))))) (sRet (eC (.bl false))) sNil) (sSeq (sFor (iRng zipO (aCons (eSl (eVar 10) oNo (oSo (e1 dNeg (eC (.int 1))))) (aCons (eSl (eVar 10) (oSo (eC (.int 1))) oNo) aNil))) (.tp [13, 14]) b_law_1) (sSeq (sSet 11 (eFn m_seen_on (aCons (eVar 1) (aCons (eVar 2) (aCons (eVar 10) aNil))))) (sSeq (sSet 12 (eFn m_slyest (aCons (eVar 1) (aCons (eVar 2) (aCons (eVar 9) (aCons (eVar 7) aNil)))))) (sSeq (sIf (tor (eT (e2 dNe (eFn m_seen_on (aCons (eVar 1) (aCons (eVar 2) (aCons (eVar 12) aNil)))) (eVar 11))) (tor (eT (e2 dNe (eCall dLen (aCons (eVar 12) aNil)) (eCall dLen (aCons (eVar 10) aNil)))) (eT (e2 dNe (eFn m_seen_on (aCons (eVar 1) (aCons (eVar 2) (aCons (e1 dRev (eVar 10)) aNil)))) (eVar 11))))) (sRet (eC (.bl false))) sNil) (sSeq (sIf (tor (eT (e2 dLt (eFn m_seen_on (aCons (eVar 1) (aCons (eVar 2) (aCons (eVar 8) aNil)))) (eVar 11))) (eT (e2 dLt (eCall dLen (aCons (eVar 8) aNil)) (eCall dLen (aCons (eFn m_slyest (aCons (eVar 1) (aCons (eTup aNil) (aCons (eVar 7) (aCons (eVar 9) aNil))))) aNil))))) (sRet (eC (.bl false))) sNil) (sSeq (sIf (tand (eT (e2 dEq (eFn m_seen_on (aCons (eVar 1) (aCons (eVar 2) (aCons (eFn m_slyest (aCons (eVar 1) (aCons (eTup aNil) (aCons (eVar 7) (aCons (eVar 9) aNil))))) aNil)))) (eVar 11))) (eT (e2 dNe (eCall dLen (aCons (eVar 10) aNil)) (eCall dLen (aCons (eFn m_slyest (aCons (eVar 1) (aCons (eTup aNil) (aCons (eVar 7) (aCons (eVar 9) aNil))))) aNil))))) (sRet (eC (.bl false))) sNil) (sSeq (sIf (tor (eT (e2 dLt (eFn m_seen_on (aCons (eVar 1) (aCons (eVar 3) (aCons (eFn m_slyest (aCons (eVar 1) (aCons (eVar 3) (aCons (eVar 7) (aCons (eVar 9) aNil))))) aNil)))) (eVar 11))) (eT (e2 dNe (eFn m_slyest (aCons (eVar 1) (aCons (eVar 2) (aCons (eVar 7) (aCons (eVar 7) aNil))))) (eTup (aCons (eVar 7) aNil))))) (sRet (eC (.bl false))) sNil) (sRet (e2 dEq (eFn m_seen_on (aCons (eVar 1) (aCons (eTup aNil) (aCons (eVar 10) aNil)))) (eC (.int 0)))))))))))))))))))))))))
def m_law : List D → Res D := runB 1 15 b_law
end Lw

set_option Elab.async false
set_option linter.all false
set_option maxRecDepth 100000
set_option maxHeartbeats 4000000
namespace Lw
open PySem PySem.Spec PyProof.Rows L2 DL
def tf : List (He.Defn × Str) := [(("costs_to", none), (("costs_to" ++ ".<locals>.") ++ "<lambda>" : Str))]
def top (i : Nat) : Stmt := PySem.Challenge.pw_lookhalls_k31_whole_slyest.main.body.getD i (.Pass ⟨0, 0, 0, 0⟩)
abbrev s__law_drawn : Stmt := top 31
abbrev s__law_hall : Stmt := top 32
abbrev s_cells : Stmt := top 12
abbrev s_is_free : Stmt := top 11
abbrev s_is_inside : Stmt := top 8
abbrev s_neighbours : Stmt := top 21
abbrev s_part_of : Stmt := top 22
abbrev s_parts : Stmt := top 23
abbrev s__law_cell_at : Stmt := top 29
abbrev s__law_mixed : Stmt := top 30
abbrev s_need_cell : Stmt := top 9
abbrev s_sign_at : Stmt := top 10
abbrev s__law_walk : Stmt := top 35
abbrev s_is_near : Stmt := top 17
abbrev s_side_of : Stmt := top 14
abbrev s_is_crossed : Stmt := top 15
abbrev s_crossed : Stmt := top 16
abbrev s_sees : Stmt := top 18
abbrev s_is_seen : Stmt := top 24
abbrev s_costs_to : Stmt := top 26
abbrev s_slyest : Stmt := top 27
abbrev s_seen_on : Stmt := top 25
abbrev s__law_floors : Stmt := top 33
abbrev s__law_some : Stmt := top 34
abbrev s__law_are_all : Stmt := top 36
abbrev s_law : Stmt := top 37
structure Tx (K : PySem.W.Frag) (mg : Str → Option Value) : Prop where
  f__law_drawn : FT K mg "_law_drawn" s__law_drawn ["number", "k"]
  f__law_hall : FT K mg "_law_hall" s__law_hall ["number", "most"]
  f_cells : FT K mg "cells" s_cells ["hall"]
  f_is_free : FT K mg "is_free" s_is_free ["hall", "cell"]
  f_is_inside : FT K mg "is_inside" s_is_inside ["hall", "cell"]
  f_neighbours : FT K mg "neighbours" s_neighbours ["hall", "cell"]
  f_part_of : FT K mg "part_of" s_part_of ["hall", "cell"]
  f_parts : FT K mg "parts" s_parts ["hall"]
  f__law_cell_at : FT K mg "_law_cell_at" s__law_cell_at ["script", "k"]
  f__law_mixed : FT K mg "_law_mixed" s__law_mixed ["script", "k"]
  f_need_cell : FT K mg "need_cell" s_need_cell ["hall", "cell"]
  f_sign_at : FT K mg "sign_at" s_sign_at ["hall", "cell"]
  f__law_walk : FT K mg "_law_walk" s__law_walk ["hall", "one", "number"]
  f_is_near : FT K mg "is_near" s_is_near ["hall", "one", "other"]
  f_side_of : FT K mg "side_of" s_side_of ["one", "other", "spot"]
  f_is_crossed : FT K mg "is_crossed" s_is_crossed ["one", "other", "cell"]
  f_crossed : FT K mg "crossed" s_crossed ["one", "other"]
  f_sees : FT K mg "sees" s_sees ["hall", "one", "other"]
  f_is_seen : FT K mg "is_seen" s_is_seen ["hall", "lookers", "cell"]
  f_costs_to : FT K mg "costs_to" s_costs_to ["hall", "lookers", "goal"]
  f_slyest : FT K mg "slyest" s_slyest ["hall", "lookers", "one", "other"]
  f_seen_on : FT K mg "seen_on" s_seen_on ["hall", "lookers", "way"]
  f__law_floors : FT K mg "_law_floors" s__law_floors ["hall"]
  f__law_some : FT K mg "_law_some" s__law_some ["hall", "number"]
  f__law_are_all : FT K mg "_law_are_all" s__law_are_all ["hall", "rooms"]
  f_law : FT K mg "law" s_law ["script"]
  n_abs : mg "abs" = none
  n_all : mg "all" = none
  n_any : mg "any" = none
  n_dict : mg "dict" = none
  n_enumerate : mg "enumerate" = none
  n_int : mg "int" = none
  n_len : mg "len" = none
  n_list : mg "list" = none
  n_max : mg "max" = none
  n_min : mg "min" = none
  n_range : mg "range" = none
  n_set : mg "set" = none
  n_sorted : mg "sorted" = none
  n_tuple : mg "tuple" = none
  n_zip : mg "zip" = none
  g_BLOCKING : GlobD K mg "BLOCKING" (.gtup [(.str "#"), (.str "x")])
  g_STEPS : GlobD K mg "STEPS" (.gtup [(.gtup [(.int (-1)), (.int 0)]), (.gtup [(.int 0), (.int (-1))]), (.gtup [(.int 0), (.int 1)]), (.gtup [(.int 1), (.int 0)])])
  e_NoCell : ExcT K mg "NoCell"
  e_NoWay : ExcT K mg "NoWay"
section
variable {Tb0 : Tb} {P : Program} {w : World} {K : PySem.W.Frag} {mg : Str → Option Value} {base : Heap}
theorem sc__law_drawn : FnScope ["number", "k", "drawn"] ["number", "k"] (defScope s__law_drawn) := ⟨rfl, rfl, rfl, by decide +kernel, rfl, by decide +kernel, by decide +kernel⟩
theorem by__law_drawn (T : Tx K mg) (A : Around) (outer : List Env) (s0 : Shared) (H : Hp) (E : XK) (S : List Addr) (hT : LamX.Tabs Tb0 H) (hr : Room 0 (A.deeper (envOfC "_law_drawn" (defScope s__law_drawn) s0.heap.objs.size (He.ga K "_law_drawn") (.ref (cdA K (He.ga K "_law_drawn")))))) :
    DSs (cxOf (L2.CX P w) P w K mg base ["number", "k", "drawn"] "_law_drawn" (defScope s__law_drawn) (He.ga K "_law_drawn") (.ref (cdA K (He.ga K "_law_drawn"))) A outer s0 H E) (fm0 Tb0 S H E) (defBody s__law_drawn) b__law_drawn := by
  have hu := hu100 hr
  have hF := fits0 (S := S) (E := E) hT
  have hN := sc__law_drawn.nd
  have tk : Takes (cxOf (L2.CX P w) P w K mg base ["number", "k", "drawn"] "_law_drawn" (defScope s__law_drawn) (He.ga K "_law_drawn") (.ref (cdA K (He.ga K "_law_drawn"))) A outer s0 H E) (fun cls d _ H => E cls d H) := takes_of rfl rfl rfl rfl
  have hx : Passes (L2.CX P w) (cxOf (L2.CX P w) P w K mg base ["number", "k", "drawn"] "_law_drawn" (defScope s__law_drawn) (He.ga K "_law_drawn") (.ref (cdA K (He.ga K "_law_drawn"))) A outer s0 H E) E := passes_call tk fun _ _ _ _ h => h
  have hp := passes_of (X := (cxOf (L2.CX P w) P w K mg base ["number", "k", "drawn"] "_law_drawn" (defScope s__law_drawn) (He.ga K "_law_drawn") (.ref (cdA K (He.ga K "_law_drawn"))) A outer s0 H E)) rfl
  unfold b__law_drawn
  exact (dss_cons (ds_set (i := 2) hN (dp_op op_modP (DP.b (dp_op op_mulP (DP.b (dp_op op_addP (DP.b (dp_op op_addP (DP.b (dv 0)) (DP.b (dp_op op_mulP (DP.b dc_int) (DP.b (dv 1)))))) (DP.b dc_int))) (DP.b dc_int))) (DP.b dc_int))) (dss_one (ds_ret (dp_op op_modP (DP.b (dp_op op_addP (DP.b (dp_op op_addP (DP.b (dp_op op_mulP (DP.b (dv 2)) (DP.b (dv 2)))) (DP.b (dp_op op_mulP (DP.b dc_int) (DP.b (dv 2)))))) (DP.b (dv 1)))) (DP.b dc_int)))))
theorem ok__law_drawn (T : Tx K mg) : FD Tb0 P w K mg base 1 "_law_drawn" ["number", "k"] m__law_drawn := fd_of (N := ["number", "k", "drawn"]) T.f__law_drawn sc__law_drawn rfl (by__law_drawn T)
theorem sc__law_hall : FnScope ["number", "most", "high", "wide", "signs", "rows", "row", "line", "column"] ["number", "most"] (defScope s__law_hall) := ⟨rfl, rfl, rfl, by decide +kernel, rfl, by decide +kernel, by decide +kernel⟩
theorem by__law_hall (T : Tx K mg) (h__law_drawn : FD Tb0 P w K mg base 1 "_law_drawn" ["number", "k"] m__law_drawn) (A : Around) (outer : List Env) (s0 : Shared) (H : Hp) (E : XK) (S : List Addr) (hT : LamX.Tabs Tb0 H) (hr : Room 1 (A.deeper (envOfC "_law_hall" (defScope s__law_hall) s0.heap.objs.size (He.ga K "_law_hall") (.ref (cdA K (He.ga K "_law_hall")))))) :
    DSs (cxOf (L2.CX P w) P w K mg base ["number", "most", "high", "wide", "signs", "rows", "row", "line", "column"] "_law_hall" (defScope s__law_hall) (He.ga K "_law_hall") (.ref (cdA K (He.ga K "_law_hall"))) A outer s0 H E) (fm0 Tb0 S H E) (defBody s__law_hall) b__law_hall := by
  have hu := hu100 hr
  have hF := fits0 (S := S) (E := E) hT
  have hN := sc__law_hall.nd
  have tk : Takes (cxOf (L2.CX P w) P w K mg base ["number", "most", "high", "wide", "signs", "rows", "row", "line", "column"] "_law_hall" (defScope s__law_hall) (He.ga K "_law_hall") (.ref (cdA K (He.ga K "_law_hall"))) A outer s0 H E) (fun cls d _ H => E cls d H) := takes_of rfl rfl rfl rfl
  have hx : Passes (L2.CX P w) (cxOf (L2.CX P w) P w K mg base ["number", "most", "high", "wide", "signs", "rows", "row", "line", "column"] "_law_hall" (defScope s__law_hall) (He.ga K "_law_hall") (.ref (cdA K (He.ga K "_law_hall"))) A outer s0 H E) E := passes_call tk fun _ _ _ _ h => h
  have hp := passes_of (X := (cxOf (L2.CX P w) P w K mg base ["number", "most", "high", "wide", "signs", "rows", "row", "line", "column"] "_law_hall" (defScope s__law_hall) (He.ga K "_law_hall") (.ref (cdA K (He.ga K "_law_hall"))) A outer s0 H E)) rfl
  unfold b__law_hall b__law_hall_2 b__law_hall_1
  exact (dss_cons (ds_set (i := 2) hN (dp_op op_addP (DP.b dc_int) (DP.b (dp_op op_modP (DP.b (dv 0)) (DP.b (dv 1)))))) (dss_cons (ds_set (i := 3) hN (dp_op op_addP (DP.b dc_int) (DP.b (dp_op op_modP (DP.b (dp_op op_fdivP (DP.b (dv 0)) (DP.b dc_int))) (DP.b (dv 1)))))) (dss_cons (ds_set (i := 4) hN (dp_ix (ix_P hu) (DP.b (dp_tup (da_cons dc_str (da_cons dc_str (da_cons dc_str (da_cons dc_str da_nil)))))) (DP.b (dp_op op_modP (DP.b (dp_op op_fdivP (DP.b (dv 0)) (DP.b dc_int))) (DP.b dc_int))))) (dss_cons (ds_set (i := 5) hN (dp_tup da_nil)) (dss_cons (ds_for hp rfl (di_range1 T.n_range (da_cons (dv 2) da_nil)) (dg_name hN) (dss_cons (ds_set (i := 7) hN dc_str) (dss_cons (ds_for hp rfl (di_range1 T.n_range (da_cons (dv 3) da_nil)) (dg_name hN) (dss_one (ds_set (i := 7) hN (dp_op op_addP (DP.b (dv 7)) (DP.b (dp_ix (ix_P hu) (DP.b (dv 4)) (DP.b (dp_op op_modP (DP.b (dp_op op_fdivP (DP.b (dp_fn hF h__law_drawn (hr.mono (by decide)) hx (da_cons (dv 0) (da_cons (dp_op op_addP (DP.b (dp_op op_mulP (DP.b dc_int) (DP.b (dv 6)))) (DP.b (dv 8))) da_nil)))) (DP.b dc_int))) (DP.b dc_int))))))))) (dss_one (ds_set (i := 5) hN (dp_op op_addP (DP.b (dv 5)) (DP.b (dp_tup (da_cons (dv 7) da_nil))))))))) (dss_one (ds_ret (dp_tup (da_cons (dv 5) (da_cons (dp_ix (ix_P hu) (DP.b (dp_tup (da_cons dc_int (da_cons dc_int (da_cons dc_int (da_cons dc_int (da_cons dc_int (da_cons dc_int (da_cons dc_int da_nil))))))))) (DP.b (dp_op op_modP (DP.b (dp_op op_fdivP (DP.b (dv 0)) (DP.b dc_int))) (DP.b dc_int)))) da_nil))))))))))
theorem ok__law_hall (T : Tx K mg) (h__law_drawn : FD Tb0 P w K mg base 1 "_law_drawn" ["number", "k"] m__law_drawn) : FD Tb0 P w K mg base 2 "_law_hall" ["number", "most"] m__law_hall := fd_of (N := ["number", "most", "high", "wide", "signs", "rows", "row", "line", "column"]) T.f__law_hall sc__law_hall rfl (by__law_hall T h__law_drawn)
theorem sc_cells : FnScope ["hall", "found", "row", "column"] ["hall"] (defScope s_cells) := ⟨rfl, rfl, rfl, by decide +kernel, rfl, by decide +kernel, by decide +kernel⟩
theorem by_cells (T : Tx K mg) (A : Around) (outer : List Env) (s0 : Shared) (H : Hp) (E : XK) (S : List Addr) (hT : LamX.Tabs Tb0 H) (hr : Room 0 (A.deeper (envOfC "cells" (defScope s_cells) s0.heap.objs.size (He.ga K "cells") (.ref (cdA K (He.ga K "cells")))))) :
    DSs (cxOf (L2.CX P w) P w K mg base ["hall", "found", "row", "column"] "cells" (defScope s_cells) (He.ga K "cells") (.ref (cdA K (He.ga K "cells"))) A outer s0 H E) (fm0 Tb0 S H E) (defBody s_cells) b_cells := by
  have hu := hu100 hr
  have hF := fits0 (S := S) (E := E) hT
  have hN := sc_cells.nd
  have tk : Takes (cxOf (L2.CX P w) P w K mg base ["hall", "found", "row", "column"] "cells" (defScope s_cells) (He.ga K "cells") (.ref (cdA K (He.ga K "cells"))) A outer s0 H E) (fun cls d _ H => E cls d H) := takes_of rfl rfl rfl rfl
  have hx : Passes (L2.CX P w) (cxOf (L2.CX P w) P w K mg base ["hall", "found", "row", "column"] "cells" (defScope s_cells) (He.ga K "cells") (.ref (cdA K (He.ga K "cells"))) A outer s0 H E) E := passes_call tk fun _ _ _ _ h => h
  have hp := passes_of (X := (cxOf (L2.CX P w) P w K mg base ["hall", "found", "row", "column"] "cells" (defScope s_cells) (He.ga K "cells") (.ref (cdA K (He.ga K "cells"))) A outer s0 H E)) rfl
  unfold b_cells b_cells_1
  exact (dss_cons (ds_new (i := 1) hN (df_lst da_nil)) (dss_cons (ds_for hp rfl (di_range1 T.n_range (da_cons (dp_callB call_lenP T.n_len (dab_cons (DP.b (dp_ix (ix_P hu) (DP.b (dv 0)) (DP.b dc_int))) dab_nil)) da_nil)) (dg_name hN) (dss_one (ds_extend (i := 1) (DF.p (df_comp rfl hN (DI.c (di_range1 T.n_range (da_cons (dp_callB call_lenP T.n_len (dab_cons (DP.b (dp_ix (ix_P hu) (DP.b (dp_ix (ix_P hu) (DP.b (dv 0)) (DP.b dc_int))) (DP.b dc_int))) dab_nil)) da_nil))) (blkOk_by (own := [("column", 3)]) (by kernel_rfl)) (fun _ _ _ _ _ => (dg_name hN)) (fun _ _ _ _ _ => dts_nil) (fun _ _ _ _ _ => (dp_tup (da_cons (dv 2) (da_cons (dv 3) da_nil))))))))) (dss_frz 1 (dss_one (ds_ret (dv 1))))))
theorem ok_cells (T : Tx K mg) : FD Tb0 P w K mg base 1 "cells" ["hall"] m_cells := fd_of (N := ["hall", "found", "row", "column"]) T.f_cells sc_cells rfl (by_cells T)
theorem sc_is_free : FnScope ["hall", "cell"] ["hall", "cell"] (defScope s_is_free) := ⟨rfl, rfl, rfl, by decide +kernel, rfl, by decide +kernel, by decide +kernel⟩
theorem by_is_free (T : Tx K mg) (A : Around) (outer : List Env) (s0 : Shared) (H : Hp) (E : XK) (S : List Addr) (hT : LamX.Tabs Tb0 H) (hr : Room 0 (A.deeper (envOfC "is_free" (defScope s_is_free) s0.heap.objs.size (He.ga K "is_free") (.ref (cdA K (He.ga K "is_free")))))) :
    DSs (cxOf (L2.CX P w) P w K mg base ["hall", "cell"] "is_free" (defScope s_is_free) (He.ga K "is_free") (.ref (cdA K (He.ga K "is_free"))) A outer s0 H E) (fm0 Tb0 S H E) (defBody s_is_free) b_is_free := by
  have hu := hu100 hr
  have hF := fits0 (S := S) (E := E) hT
  have hN := sc_is_free.nd
  have tk : Takes (cxOf (L2.CX P w) P w K mg base ["hall", "cell"] "is_free" (defScope s_is_free) (He.ga K "is_free") (.ref (cdA K (He.ga K "is_free"))) A outer s0 H E) (fun cls d _ H => E cls d H) := takes_of rfl rfl rfl rfl
  have hx : Passes (L2.CX P w) (cxOf (L2.CX P w) P w K mg base ["hall", "cell"] "is_free" (defScope s_is_free) (He.ga K "is_free") (.ref (cdA K (He.ga K "is_free"))) A outer s0 H E) E := passes_call tk fun _ _ _ _ h => h
  have hp := passes_of (X := (cxOf (L2.CX P w) P w K mg base ["hall", "cell"] "is_free" (defScope s_is_free) (He.ga K "is_free") (.ref (cdA K (He.ga K "is_free"))) A outer s0 H E)) rfl
  unfold b_is_free
  exact (dss_one (ds_ret (dp_cmp (op_notInP hu) (DP.b (dp_ix (ix_P hu) (DP.b (dp_ix (ix_P hu) (DP.b (dp_ix (ix_P hu) (DP.b (dv 0)) (DP.b dc_int))) (DP.b (dp_ix (ix_P hu) (DP.b (dv 1)) (DP.b dc_int))))) (DP.b (dp_ix (ix_P hu) (DP.b (dv 1)) (DP.b dc_int))))) (DP.b (dg T.g_BLOCKING)) (by rfl))))
theorem ok_is_free (T : Tx K mg) : FD Tb0 P w K mg base 1 "is_free" ["hall", "cell"] m_is_free := fd_of (N := ["hall", "cell"]) T.f_is_free sc_is_free rfl (by_is_free T)
theorem sc_is_inside : FnScope ["hall", "cell"] ["hall", "cell"] (defScope s_is_inside) := ⟨rfl, rfl, rfl, by decide +kernel, rfl, by decide +kernel, by decide +kernel⟩
theorem by_is_inside (T : Tx K mg) (A : Around) (outer : List Env) (s0 : Shared) (H : Hp) (E : XK) (S : List Addr) (hT : LamX.Tabs Tb0 H) (hr : Room 0 (A.deeper (envOfC "is_inside" (defScope s_is_inside) s0.heap.objs.size (He.ga K "is_inside") (.ref (cdA K (He.ga K "is_inside")))))) :
    DSs (cxOf (L2.CX P w) P w K mg base ["hall", "cell"] "is_inside" (defScope s_is_inside) (He.ga K "is_inside") (.ref (cdA K (He.ga K "is_inside"))) A outer s0 H E) (fm0 Tb0 S H E) (defBody s_is_inside) b_is_inside := by
  have hu := hu100 hr
  have hF := fits0 (S := S) (E := E) hT
  have hN := sc_is_inside.nd
  have tk : Takes (cxOf (L2.CX P w) P w K mg base ["hall", "cell"] "is_inside" (defScope s_is_inside) (He.ga K "is_inside") (.ref (cdA K (He.ga K "is_inside"))) A outer s0 H E) (fun cls d _ H => E cls d H) := takes_of rfl rfl rfl rfl
  have hx : Passes (L2.CX P w) (cxOf (L2.CX P w) P w K mg base ["hall", "cell"] "is_inside" (defScope s_is_inside) (He.ga K "is_inside") (.ref (cdA K (He.ga K "is_inside"))) A outer s0 H E) E := passes_call tk fun _ _ _ _ h => h
  have hp := passes_of (X := (cxOf (L2.CX P w) P w K mg base ["hall", "cell"] "is_inside" (defScope s_is_inside) (He.ga K "is_inside") (.ref (cdA K (He.ga K "is_inside"))) A outer s0 H E)) rfl
  unfold b_is_inside
  exact (dss_one (ds_ret (dp_and (dp_chain op_leP (op_ltP hu) (DP.b dc_int) (DP.b (dp_ix (ix_P hu) (DP.b (dv 1)) (DP.b dc_int))) (DP.b (dp_callB call_lenP T.n_len (dab_cons (DP.b (dp_ix (ix_P hu) (DP.b (dv 0)) (DP.b dc_int))) dab_nil)))) (dp_one (dp_chain op_leP (op_ltP hu) (DP.b dc_int) (DP.b (dp_ix (ix_P hu) (DP.b (dv 1)) (DP.b dc_int))) (DP.b (dp_callB call_lenP T.n_len (dab_cons (DP.b (dp_ix (ix_P hu) (DP.b (dp_ix (ix_P hu) (DP.b (dv 0)) (DP.b dc_int))) (DP.b dc_int))) dab_nil))))))))
theorem ok_is_inside (T : Tx K mg) : FD Tb0 P w K mg base 1 "is_inside" ["hall", "cell"] m_is_inside := fd_of (N := ["hall", "cell"]) T.f_is_inside sc_is_inside rfl (by_is_inside T)
theorem sc_neighbours : FnScope ["hall", "cell", "some", "other", "high", "wide"] ["hall", "cell"] (defScope s_neighbours) := ⟨rfl, rfl, rfl, by decide +kernel, rfl, by decide +kernel, by decide +kernel⟩
theorem by_neighbours (T : Tx K mg) (h_is_inside : FD Tb0 P w K mg base 1 "is_inside" ["hall", "cell"] m_is_inside) (h_is_free : FD Tb0 P w K mg base 1 "is_free" ["hall", "cell"] m_is_free) (A : Around) (outer : List Env) (s0 : Shared) (H : Hp) (E : XK) (S : List Addr) (hT : LamX.Tabs Tb0 H) (hr : Room 1 (A.deeper (envOfC "neighbours" (defScope s_neighbours) s0.heap.objs.size (He.ga K "neighbours") (.ref (cdA K (He.ga K "neighbours")))))) :
    DSs (cxOf (L2.CX P w) P w K mg base ["hall", "cell", "some", "other", "high", "wide"] "neighbours" (defScope s_neighbours) (He.ga K "neighbours") (.ref (cdA K (He.ga K "neighbours"))) A outer s0 H E) (fm0 Tb0 S H E) (defBody s_neighbours) b_neighbours := by
  have hu := hu100 hr
  have hF := fits0 (S := S) (E := E) hT
  have hN := sc_neighbours.nd
  have tk : Takes (cxOf (L2.CX P w) P w K mg base ["hall", "cell", "some", "other", "high", "wide"] "neighbours" (defScope s_neighbours) (He.ga K "neighbours") (.ref (cdA K (He.ga K "neighbours"))) A outer s0 H E) (fun cls d _ H => E cls d H) := takes_of rfl rfl rfl rfl
  have hx : Passes (L2.CX P w) (cxOf (L2.CX P w) P w K mg base ["hall", "cell", "some", "other", "high", "wide"] "neighbours" (defScope s_neighbours) (He.ga K "neighbours") (.ref (cdA K (He.ga K "neighbours"))) A outer s0 H E) E := passes_call tk fun _ _ _ _ h => h
  have hp := passes_of (X := (cxOf (L2.CX P w) P w K mg base ["hall", "cell", "some", "other", "high", "wide"] "neighbours" (defScope s_neighbours) (He.ga K "neighbours") (.ref (cdA K (He.ga K "neighbours"))) A outer s0 H E)) rfl
  unfold b_neighbours
  exact (dss_cons (ds_setComp (i := 2) rfl hN (DI.c (di_val (dg T.g_STEPS))) (blkOk_by (own := [("high", 4), ("wide", 5)]) (by kernel_rfl)) (fun _ _ _ _ _ => (dg_tup rfl (dgs_cons hN (dgs_cons hN dgs_nil)))) (fun _ _ _ _ _ => dts_nil) (fun _ _ _ _ _ => (dp_tup (da_cons (dp_op op_addP (DP.b (dp_ix (ix_P hu) (DP.b (dv 1)) (DP.b dc_int))) (DP.b (dv 4))) (da_cons (dp_op op_addP (DP.b (dp_ix (ix_P hu) (DP.b (dv 1)) (DP.b dc_int))) (DP.b (dv 5))) da_nil))))) (dss_one (ds_ret (DF.p (df_comp rfl hN (DI.c (di_val (dv 2))) (blkOk_by (own := [("other", 3)]) (by kernel_rfl)) (fun _ _ _ _ _ => (dg_name hN)) (fun _ _ _ _ _ => (dts_one (DW.t (dw_and (dt_val (dp_fn hF.nox h_is_inside (hr.mono (by decide)) passL (da_cons (dv 0) (da_cons (dv 3) da_nil)))) (dw_and1 (dt_val (dp_fn hF.nox h_is_free (hr.mono (by decide)) passL (da_cons (dv 0) (da_cons (dv 3) da_nil))))))))) (fun _ _ _ _ _ => (dv 3)))))))
theorem ok_neighbours (T : Tx K mg) (h_is_inside : FD Tb0 P w K mg base 1 "is_inside" ["hall", "cell"] m_is_inside) (h_is_free : FD Tb0 P w K mg base 1 "is_free" ["hall", "cell"] m_is_free) : FD Tb0 P w K mg base 2 "neighbours" ["hall", "cell"] m_neighbours := fd_of (N := ["hall", "cell", "some", "other", "high", "wide"]) T.f_neighbours sc_neighbours rfl (by_neighbours T h_is_inside h_is_free)
theorem sc_part_of : FnScope ["hall", "cell", "found", "todo", "other"] ["hall", "cell"] (defScope s_part_of) := ⟨rfl, rfl, rfl, by decide +kernel, rfl, by decide +kernel, by decide +kernel⟩
theorem by_part_of (T : Tx K mg) (h_neighbours : FD Tb0 P w K mg base 2 "neighbours" ["hall", "cell"] m_neighbours) (A : Around) (outer : List Env) (s0 : Shared) (H : Hp) (E : XK) (S : List Addr) (hT : LamX.Tabs Tb0 H) (hr : Room 2 (A.deeper (envOfC "part_of" (defScope s_part_of) s0.heap.objs.size (He.ga K "part_of") (.ref (cdA K (He.ga K "part_of")))))) :
    DSs (cxOf (L2.CX P w) P w K mg base ["hall", "cell", "found", "todo", "other"] "part_of" (defScope s_part_of) (He.ga K "part_of") (.ref (cdA K (He.ga K "part_of"))) A outer s0 H E) (fm0 Tb0 S H E) (defBody s_part_of) b_part_of := by
  have hu := hu100 hr
  have hF := fits0 (S := S) (E := E) hT
  have hN := sc_part_of.nd
  have tk : Takes (cxOf (L2.CX P w) P w K mg base ["hall", "cell", "found", "todo", "other"] "part_of" (defScope s_part_of) (He.ga K "part_of") (.ref (cdA K (He.ga K "part_of"))) A outer s0 H E) (fun cls d _ H => E cls d H) := takes_of rfl rfl rfl rfl
  have hx : Passes (L2.CX P w) (cxOf (L2.CX P w) P w K mg base ["hall", "cell", "found", "todo", "other"] "part_of" (defScope s_part_of) (He.ga K "part_of") (.ref (cdA K (He.ga K "part_of"))) A outer s0 H E) E := passes_call tk fun _ _ _ _ h => h
  have hp := passes_of (X := (cxOf (L2.CX P w) P w K mg base ["hall", "cell", "found", "todo", "other"] "part_of" (defScope s_part_of) (He.ga K "part_of") (.ref (cdA K (He.ga K "part_of"))) A outer s0 H E)) rfl
  unfold b_part_of b_part_of_3 b_part_of_2 b_part_of_1
  exact (dss_cons (ds_new (i := 2) hN (df_d1 hu (dv 1) dc_bl)) (dss_cons (ds_new (i := 3) hN (df_lst (da_cons (dv 1) da_nil))) (dss_cons (ds_while 10000 hp (dt_cmp op_gtP (DP.b (dp_callB call_lenP T.n_len (dab_cons (dvo 3) dab_nil))) (DP.b dc_int) (nomark _)) (dss_one (ds_forPop (i := 3) hF h_neighbours (hr.mono (by decide)) hx hp rfl (dv 0) (dg_name hN) (dss_one (ds_if (dt_cmp (op_notInP hu) (DP.b (dv 4)) (dvo 2) (by rfl)) (dss_cons (ds_put (i := 2) hu (dv 4) dc_bl) (dss_one (ds_append (i := 3) (dv 4)))) dss_nil))))) (dss_frz 2 (dss_frz 3 (dss_one (ds_ret (dp_callTy call_tupleP T.n_tuple (dab_cons (DP.b (dp_callB (call_sortP rfl) T.n_sorted (dab_cons (DP.b (dv 2)) dab_nil))) dab_nil)))))))))
theorem ok_part_of (T : Tx K mg) (h_neighbours : FD Tb0 P w K mg base 2 "neighbours" ["hall", "cell"] m_neighbours) : FD Tb0 P w K mg base 3 "part_of" ["hall", "cell"] m_part_of := fd_of (N := ["hall", "cell", "found", "todo", "other"]) T.f_part_of sc_part_of rfl (by_part_of T h_neighbours)
theorem sc_parts : FnScope ["hall", "found", "cell", "part"] ["hall"] (defScope s_parts) := ⟨rfl, rfl, rfl, by decide +kernel, rfl, by decide +kernel, by decide +kernel⟩
theorem by_parts (T : Tx K mg) (h_cells : FD Tb0 P w K mg base 1 "cells" ["hall"] m_cells) (h_is_free : FD Tb0 P w K mg base 1 "is_free" ["hall", "cell"] m_is_free) (h_part_of : FD Tb0 P w K mg base 3 "part_of" ["hall", "cell"] m_part_of) (A : Around) (outer : List Env) (s0 : Shared) (H : Hp) (E : XK) (S : List Addr) (hT : LamX.Tabs Tb0 H) (hr : Room 3 (A.deeper (envOfC "parts" (defScope s_parts) s0.heap.objs.size (He.ga K "parts") (.ref (cdA K (He.ga K "parts")))))) :
    DSs (cxOf (L2.CX P w) P w K mg base ["hall", "found", "cell", "part"] "parts" (defScope s_parts) (He.ga K "parts") (.ref (cdA K (He.ga K "parts"))) A outer s0 H E) (fm0 Tb0 S H E) (defBody s_parts) b_parts := by
  have hu := hu100 hr
  have hF := fits0 (S := S) (E := E) hT
  have hN := sc_parts.nd
  have tk : Takes (cxOf (L2.CX P w) P w K mg base ["hall", "found", "cell", "part"] "parts" (defScope s_parts) (He.ga K "parts") (.ref (cdA K (He.ga K "parts"))) A outer s0 H E) (fun cls d _ H => E cls d H) := takes_of rfl rfl rfl rfl
  have hx : Passes (L2.CX P w) (cxOf (L2.CX P w) P w K mg base ["hall", "found", "cell", "part"] "parts" (defScope s_parts) (He.ga K "parts") (.ref (cdA K (He.ga K "parts"))) A outer s0 H E) E := passes_call tk fun _ _ _ _ h => h
  have hp := passes_of (X := (cxOf (L2.CX P w) P w K mg base ["hall", "found", "cell", "part"] "parts" (defScope s_parts) (He.ga K "parts") (.ref (cdA K (He.ga K "parts"))) A outer s0 H E)) rfl
  unfold b_parts b_parts_1
  exact (dss_cons (ds_new (i := 1) hN (df_lst da_nil)) (dss_cons (ds_for hp rfl (di_val (dp_fn hF h_cells (hr.mono (by decide)) hx (da_cons (dv 0) da_nil))) (dg_name hN) (dss_one (ds_if (DW.t (dw_and (dt_val (dp_fn hF h_is_free (hr.mono (by decide)) hx (da_cons (dv 0) (da_cons (dv 2) da_nil)))) (dw_and1 (dt_not (dt_val (dp_callB (call_anyP rfl) T.n_any (dab_cons (DP.b (DF.p (df_comp rfl hN (dic_own (dvo 1)) (blkOk_by (own := [("part", 3)]) (by kernel_rfl)) (fun _ _ _ _ _ => (dg_name hN)) (fun _ _ _ _ _ => dts_nil) (fun _ _ _ _ _ => (dp_cmp (op_inP hu) (DP.b (dv 2)) (DP.b (dv 3)) (by rfl)))))) dab_nil))))))) (dss_one (ds_append (i := 1) (dp_fn hF h_part_of (hr.mono (by decide)) hx (da_cons (dv 0) (da_cons (dv 2) da_nil))))) dss_nil))) (dss_frz 1 (dss_one (ds_ret (dp_callTy call_tupleP T.n_tuple (dab_cons (DP.b (dv 1)) dab_nil)))))))
theorem ok_parts (T : Tx K mg) (h_cells : FD Tb0 P w K mg base 1 "cells" ["hall"] m_cells) (h_is_free : FD Tb0 P w K mg base 1 "is_free" ["hall", "cell"] m_is_free) (h_part_of : FD Tb0 P w K mg base 3 "part_of" ["hall", "cell"] m_part_of) : FD Tb0 P w K mg base 4 "parts" ["hall"] m_parts := fd_of (N := ["hall", "found", "cell", "part"]) T.f_parts sc_parts rfl (by_parts T h_cells h_is_free h_part_of)
theorem sc__law_cell_at : FnScope ["script", "k"] ["script", "k"] (defScope s__law_cell_at) := ⟨rfl, rfl, rfl, by decide +kernel, rfl, by decide +kernel, by decide +kernel⟩
theorem by__law_cell_at (T : Tx K mg) (A : Around) (outer : List Env) (s0 : Shared) (H : Hp) (E : XK) (S : List Addr) (hT : LamX.Tabs Tb0 H) (hr : Room 0 (A.deeper (envOfC "_law_cell_at" (defScope s__law_cell_at) s0.heap.objs.size (He.ga K "_law_cell_at") (.ref (cdA K (He.ga K "_law_cell_at")))))) :
    DSs (cxOf (L2.CX P w) P w K mg base ["script", "k"] "_law_cell_at" (defScope s__law_cell_at) (He.ga K "_law_cell_at") (.ref (cdA K (He.ga K "_law_cell_at"))) A outer s0 H E) (fm0 Tb0 S H E) (defBody s__law_cell_at) b__law_cell_at := by
  have hu := hu100 hr
  have hF := fits0 (S := S) (E := E) hT
  have hN := sc__law_cell_at.nd
  have tk : Takes (cxOf (L2.CX P w) P w K mg base ["script", "k"] "_law_cell_at" (defScope s__law_cell_at) (He.ga K "_law_cell_at") (.ref (cdA K (He.ga K "_law_cell_at"))) A outer s0 H E) (fun cls d _ H => E cls d H) := takes_of rfl rfl rfl rfl
  have hx : Passes (L2.CX P w) (cxOf (L2.CX P w) P w K mg base ["script", "k"] "_law_cell_at" (defScope s__law_cell_at) (He.ga K "_law_cell_at") (.ref (cdA K (He.ga K "_law_cell_at"))) A outer s0 H E) E := passes_call tk fun _ _ _ _ h => h
  have hp := passes_of (X := (cxOf (L2.CX P w) P w K mg base ["script", "k"] "_law_cell_at" (defScope s__law_cell_at) (He.ga K "_law_cell_at") (.ref (cdA K (He.ga K "_law_cell_at"))) A outer s0 H E)) rfl
  unfold b__law_cell_at
  exact (dss_cons (ds_if (dt_cmp (op_ltP hu) (DP.b (dv 1)) (DP.b (dp_callB call_lenP T.n_len (dab_cons (DP.b (dv 0)) dab_nil))) (nomark _)) (dss_one (ds_ret (dp_ix (ix_P hu) (DP.b (dv 0)) (DP.b (dv 1))))) dss_nil) (dss_one (ds_ret dc_int)))
theorem ok__law_cell_at (T : Tx K mg) : FD Tb0 P w K mg base 1 "_law_cell_at" ["script", "k"] m__law_cell_at := fd_of (N := ["script", "k"]) T.f__law_cell_at sc__law_cell_at rfl (by__law_cell_at T)
theorem sc__law_mixed : FnScope ["script", "k", "drawn"] ["script", "k"] (defScope s__law_mixed) := ⟨rfl, rfl, rfl, by decide +kernel, rfl, by decide +kernel, by decide +kernel⟩
theorem by__law_mixed (T : Tx K mg) (h__law_cell_at : FD Tb0 P w K mg base 1 "_law_cell_at" ["script", "k"] m__law_cell_at) (A : Around) (outer : List Env) (s0 : Shared) (H : Hp) (E : XK) (S : List Addr) (hT : LamX.Tabs Tb0 H) (hr : Room 1 (A.deeper (envOfC "_law_mixed" (defScope s__law_mixed) s0.heap.objs.size (He.ga K "_law_mixed") (.ref (cdA K (He.ga K "_law_mixed")))))) :
    DSs (cxOf (L2.CX P w) P w K mg base ["script", "k", "drawn"] "_law_mixed" (defScope s__law_mixed) (He.ga K "_law_mixed") (.ref (cdA K (He.ga K "_law_mixed"))) A outer s0 H E) (fm0 Tb0 S H E) (defBody s__law_mixed) b__law_mixed := by
  have hu := hu100 hr
  have hF := fits0 (S := S) (E := E) hT
  have hN := sc__law_mixed.nd
  have tk : Takes (cxOf (L2.CX P w) P w K mg base ["script", "k", "drawn"] "_law_mixed" (defScope s__law_mixed) (He.ga K "_law_mixed") (.ref (cdA K (He.ga K "_law_mixed"))) A outer s0 H E) (fun cls d _ H => E cls d H) := takes_of rfl rfl rfl rfl
  have hx : Passes (L2.CX P w) (cxOf (L2.CX P w) P w K mg base ["script", "k", "drawn"] "_law_mixed" (defScope s__law_mixed) (He.ga K "_law_mixed") (.ref (cdA K (He.ga K "_law_mixed"))) A outer s0 H E) E := passes_call tk fun _ _ _ _ h => h
  have hp := passes_of (X := (cxOf (L2.CX P w) P w K mg base ["script", "k", "drawn"] "_law_mixed" (defScope s__law_mixed) (He.ga K "_law_mixed") (.ref (cdA K (He.ga K "_law_mixed"))) A outer s0 H E)) rfl
  unfold b__law_mixed
  exact (dss_cons (ds_set (i := 2) hN (dp_op op_modP (DP.b (dp_op op_mulP (DP.b (dp_op op_addP (DP.b (dp_op op_addP (DP.b (dp_fn hF h__law_cell_at (hr.mono (by decide)) hx (da_cons (dv 0) (da_cons (dv 1) da_nil)))) (DP.b (dp_op op_mulP (DP.b dc_int) (DP.b (dv 1)))))) (DP.b dc_int))) (DP.b dc_int))) (DP.b dc_int))) (dss_one (ds_ret (dp_op op_modP (DP.b (dp_op op_addP (DP.b (dp_op op_addP (DP.b (dp_op op_mulP (DP.b (dv 2)) (DP.b (dv 2)))) (DP.b (dp_op op_mulP (DP.b dc_int) (DP.b (dv 2)))))) (DP.b (dv 1)))) (DP.b dc_int)))))
theorem ok__law_mixed (T : Tx K mg) (h__law_cell_at : FD Tb0 P w K mg base 1 "_law_cell_at" ["script", "k"] m__law_cell_at) : FD Tb0 P w K mg base 2 "_law_mixed" ["script", "k"] m__law_mixed := fd_of (N := ["script", "k", "drawn"]) T.f__law_mixed sc__law_mixed rfl (by__law_mixed T h__law_cell_at)
theorem sc_need_cell : FnScope ["hall", "cell"] ["hall", "cell"] (defScope s_need_cell) := ⟨rfl, rfl, rfl, by decide +kernel, rfl, by decide +kernel, by decide +kernel⟩
theorem by_need_cell (T : Tx K mg) (h_is_inside : FD Tb0 P w K mg base 1 "is_inside" ["hall", "cell"] m_is_inside) (A : Around) (outer : List Env) (s0 : Shared) (H : Hp) (E : XK) (S : List Addr) (hT : LamX.Tabs Tb0 H) (hr : Room 1 (A.deeper (envOfC "need_cell" (defScope s_need_cell) s0.heap.objs.size (He.ga K "need_cell") (.ref (cdA K (He.ga K "need_cell")))))) :
    DSs (cxOf (L2.CX P w) P w K mg base ["hall", "cell"] "need_cell" (defScope s_need_cell) (He.ga K "need_cell") (.ref (cdA K (He.ga K "need_cell"))) A outer s0 H E) (fm0 Tb0 S H E) (defBody s_need_cell) b_need_cell := by
  have hu := hu100 hr
  have hF := fits0 (S := S) (E := E) hT
  have hN := sc_need_cell.nd
  have tk : Takes (cxOf (L2.CX P w) P w K mg base ["hall", "cell"] "need_cell" (defScope s_need_cell) (He.ga K "need_cell") (.ref (cdA K (He.ga K "need_cell"))) A outer s0 H E) (fun cls d _ H => E cls d H) := takes_of rfl rfl rfl rfl
  have hx : Passes (L2.CX P w) (cxOf (L2.CX P w) P w K mg base ["hall", "cell"] "need_cell" (defScope s_need_cell) (He.ga K "need_cell") (.ref (cdA K (He.ga K "need_cell"))) A outer s0 H E) E := passes_call tk fun _ _ _ _ h => h
  have hp := passes_of (X := (cxOf (L2.CX P w) P w K mg base ["hall", "cell"] "need_cell" (defScope s_need_cell) (He.ga K "need_cell") (.ref (cdA K (He.ga K "need_cell"))) A outer s0 H E)) rfl
  unfold b_need_cell
  exact (dss_one (ds_if (dt_not (dt_val (dp_fn hF h_is_inside (hr.mono (by decide)) hx (da_cons (dv 0) (da_cons (dv 1) da_nil))))) (dss_one (ds_raise rfl tk T.e_NoCell)) dss_nil))
theorem ok_need_cell (T : Tx K mg) (h_is_inside : FD Tb0 P w K mg base 1 "is_inside" ["hall", "cell"] m_is_inside) : FD Tb0 P w K mg base 2 "need_cell" ["hall", "cell"] m_need_cell := fd_of (N := ["hall", "cell"]) T.f_need_cell sc_need_cell rfl (by_need_cell T h_is_inside)
theorem sc_sign_at : FnScope ["hall", "cell"] ["hall", "cell"] (defScope s_sign_at) := ⟨rfl, rfl, rfl, by decide +kernel, rfl, by decide +kernel, by decide +kernel⟩
theorem by_sign_at (T : Tx K mg) (h_need_cell : FD Tb0 P w K mg base 2 "need_cell" ["hall", "cell"] m_need_cell) (A : Around) (outer : List Env) (s0 : Shared) (H : Hp) (E : XK) (S : List Addr) (hT : LamX.Tabs Tb0 H) (hr : Room 2 (A.deeper (envOfC "sign_at" (defScope s_sign_at) s0.heap.objs.size (He.ga K "sign_at") (.ref (cdA K (He.ga K "sign_at")))))) :
    DSs (cxOf (L2.CX P w) P w K mg base ["hall", "cell"] "sign_at" (defScope s_sign_at) (He.ga K "sign_at") (.ref (cdA K (He.ga K "sign_at"))) A outer s0 H E) (fm0 Tb0 S H E) (defBody s_sign_at) b_sign_at := by
  have hu := hu100 hr
  have hF := fits0 (S := S) (E := E) hT
  have hN := sc_sign_at.nd
  have tk : Takes (cxOf (L2.CX P w) P w K mg base ["hall", "cell"] "sign_at" (defScope s_sign_at) (He.ga K "sign_at") (.ref (cdA K (He.ga K "sign_at"))) A outer s0 H E) (fun cls d _ H => E cls d H) := takes_of rfl rfl rfl rfl
  have hx : Passes (L2.CX P w) (cxOf (L2.CX P w) P w K mg base ["hall", "cell"] "sign_at" (defScope s_sign_at) (He.ga K "sign_at") (.ref (cdA K (He.ga K "sign_at"))) A outer s0 H E) E := passes_call tk fun _ _ _ _ h => h
  have hp := passes_of (X := (cxOf (L2.CX P w) P w K mg base ["hall", "cell"] "sign_at" (defScope s_sign_at) (He.ga K "sign_at") (.ref (cdA K (He.ga K "sign_at"))) A outer s0 H E)) rfl
  unfold b_sign_at
  exact (dss_cons (ds_expr (dp_fn hF h_need_cell (hr.mono (by decide)) hx (da_cons (dv 0) (da_cons (dv 1) da_nil)))) (dss_one (ds_ret (dp_ix (ix_P hu) (DP.b (dp_ix (ix_P hu) (DP.b (dp_ix (ix_P hu) (DP.b (dv 0)) (DP.b dc_int))) (DP.b (dp_ix (ix_P hu) (DP.b (dv 1)) (DP.b dc_int))))) (DP.b (dp_ix (ix_P hu) (DP.b (dv 1)) (DP.b dc_int)))))))
theorem ok_sign_at (T : Tx K mg) (h_need_cell : FD Tb0 P w K mg base 2 "need_cell" ["hall", "cell"] m_need_cell) : FD Tb0 P w K mg base 3 "sign_at" ["hall", "cell"] m_sign_at := fd_of (N := ["hall", "cell"]) T.f_sign_at sc_sign_at rfl (by_sign_at T h_need_cell)
theorem sc__law_walk : FnScope ["hall", "one", "number", "way", "k", "there", "row", "column", "high", "wide"] ["hall", "one", "number"] (defScope s__law_walk) := ⟨rfl, rfl, rfl, by decide +kernel, rfl, by decide +kernel, by decide +kernel⟩
theorem by__law_walk (T : Tx K mg) (h__law_drawn : FD Tb0 P w K mg base 1 "_law_drawn" ["number", "k"] m__law_drawn) (h_sign_at : FD Tb0 P w K mg base 3 "sign_at" ["hall", "cell"] m_sign_at) (A : Around) (outer : List Env) (s0 : Shared) (H : Hp) (E : XK) (S : List Addr) (hT : LamX.Tabs Tb0 H) (hr : Room 3 (A.deeper (envOfC "_law_walk" (defScope s__law_walk) s0.heap.objs.size (He.ga K "_law_walk") (.ref (cdA K (He.ga K "_law_walk")))))) :
    DSs (cxOf (L2.CX P w) P w K mg base ["hall", "one", "number", "way", "k", "there", "row", "column", "high", "wide"] "_law_walk" (defScope s__law_walk) (He.ga K "_law_walk") (.ref (cdA K (He.ga K "_law_walk"))) A outer s0 H E) (fm0 Tb0 S H E) (defBody s__law_walk) b__law_walk := by
  have hu := hu100 hr
  have hF := fits0 (S := S) (E := E) hT
  have hN := sc__law_walk.nd
  have tk : Takes (cxOf (L2.CX P w) P w K mg base ["hall", "one", "number", "way", "k", "there", "row", "column", "high", "wide"] "_law_walk" (defScope s__law_walk) (He.ga K "_law_walk") (.ref (cdA K (He.ga K "_law_walk"))) A outer s0 H E) (fun cls d _ H => E cls d H) := takes_of rfl rfl rfl rfl
  have hx : Passes (L2.CX P w) (cxOf (L2.CX P w) P w K mg base ["hall", "one", "number", "way", "k", "there", "row", "column", "high", "wide"] "_law_walk" (defScope s__law_walk) (He.ga K "_law_walk") (.ref (cdA K (He.ga K "_law_walk"))) A outer s0 H E) E := passes_call tk fun _ _ _ _ h => h
  have hp := passes_of (X := (cxOf (L2.CX P w) P w K mg base ["hall", "one", "number", "way", "k", "there", "row", "column", "high", "wide"] "_law_walk" (defScope s__law_walk) (He.ga K "_law_walk") (.ref (cdA K (He.ga K "_law_walk"))) A outer s0 H E)) rfl
  unfold b__law_walk b__law_walk_1
  exact (dss_cons (ds_set (i := 3) hN (dp_tup (da_cons (dv 1) da_nil))) (dss_cons (ds_for hp rfl (di_range1 T.n_range (da_cons dc_int da_nil)) (dg_name hN) (dss_cons (ds_unp (dp_ix (ix_P hu) (DP.b (dv 3)) (DP.b (dp_un un_negP (DP.b dc_int)))) (dg_tup rfl (dgs_cons hN (dgs_cons hN dgs_nil)))) (dss_cons (ds_unp (dp_ix (ix_P hu) (DP.b (dp_tup (da_cons (dp_tup (da_cons (dp_un un_negP (DP.b dc_int)) (da_cons dc_int da_nil))) (da_cons (dp_tup (da_cons dc_int (da_cons (dp_un un_negP (DP.b dc_int)) da_nil))) (da_cons (dp_tup (da_cons dc_int (da_cons dc_int da_nil))) (da_cons (dp_tup (da_cons dc_int (da_cons dc_int da_nil))) da_nil)))))) (DP.b (dp_op op_modP (DP.b (dp_op op_fdivP (DP.b (dp_fn hF h__law_drawn (hr.mono (by decide)) hx (da_cons (dv 2) (da_cons (dv 4) da_nil)))) (DP.b dc_int))) (DP.b dc_int)))) (dg_tup rfl (dgs_cons hN (dgs_cons hN dgs_nil)))) (dss_cons (ds_set (i := 5) hN (dp_tup (da_cons (dp_op op_addP (DP.b (dv 6)) (DP.b (dv 8))) (da_cons (dp_op op_addP (DP.b (dv 7)) (DP.b (dv 9))) da_nil)))) (dss_one (ds_if (DW.t (dw_and (dt_chain op_leP (op_ltP hu) (DP.b dc_int) (DP.b (dp_ix (ix_P hu) (DP.b (dv 5)) (DP.b dc_int))) (DP.b (dp_callB call_lenP T.n_len (dab_cons (DP.b (dp_ix (ix_P hu) (DP.b (dv 0)) (DP.b dc_int))) dab_nil)))) (dw_and (dt_chain op_leP (op_ltP hu) (DP.b dc_int) (DP.b (dp_ix (ix_P hu) (DP.b (dv 5)) (DP.b dc_int))) (DP.b (dp_callB call_lenP T.n_len (dab_cons (DP.b (dp_ix (ix_P hu) (DP.b (dp_ix (ix_P hu) (DP.b (dv 0)) (DP.b dc_int))) (DP.b dc_int))) dab_nil)))) (dw_and1 (dt_cmp (op_inP hu) (DP.b (dp_fn hF h_sign_at (hr.mono (by decide)) hx (da_cons (dv 0) (da_cons (dv 5) da_nil)))) (DP.b dc_str) (by rfl)))))) (dss_one (ds_set (i := 3) hN (dp_op op_addP (DP.b (dv 3)) (DP.b (dp_tup (da_cons (dv 5) da_nil)))))) dss_nil)))))) (dss_one (ds_ret (dv 3)))))
theorem ok__law_walk (T : Tx K mg) (h__law_drawn : FD Tb0 P w K mg base 1 "_law_drawn" ["number", "k"] m__law_drawn) (h_sign_at : FD Tb0 P w K mg base 3 "sign_at" ["hall", "cell"] m_sign_at) : FD Tb0 P w K mg base 4 "_law_walk" ["hall", "one", "number"] m__law_walk := fd_of (N := ["hall", "one", "number", "way", "k", "there", "row", "column", "high", "wide"]) T.f__law_walk sc__law_walk rfl (by__law_walk T h__law_drawn h_sign_at)
theorem sc_is_near : FnScope ["hall", "one", "other", "high", "wide"] ["hall", "one", "other"] (defScope s_is_near) := ⟨rfl, rfl, rfl, by decide +kernel, rfl, by decide +kernel, by decide +kernel⟩
theorem by_is_near (T : Tx K mg) (A : Around) (outer : List Env) (s0 : Shared) (H : Hp) (E : XK) (S : List Addr) (hT : LamX.Tabs Tb0 H) (hr : Room 0 (A.deeper (envOfC "is_near" (defScope s_is_near) s0.heap.objs.size (He.ga K "is_near") (.ref (cdA K (He.ga K "is_near")))))) :
    DSs (cxOf (L2.CX P w) P w K mg base ["hall", "one", "other", "high", "wide"] "is_near" (defScope s_is_near) (He.ga K "is_near") (.ref (cdA K (He.ga K "is_near"))) A outer s0 H E) (fm0 Tb0 S H E) (defBody s_is_near) b_is_near := by
  have hu := hu100 hr
  have hF := fits0 (S := S) (E := E) hT
  have hN := sc_is_near.nd
  have tk : Takes (cxOf (L2.CX P w) P w K mg base ["hall", "one", "other", "high", "wide"] "is_near" (defScope s_is_near) (He.ga K "is_near") (.ref (cdA K (He.ga K "is_near"))) A outer s0 H E) (fun cls d _ H => E cls d H) := takes_of rfl rfl rfl rfl
  have hx : Passes (L2.CX P w) (cxOf (L2.CX P w) P w K mg base ["hall", "one", "other", "high", "wide"] "is_near" (defScope s_is_near) (He.ga K "is_near") (.ref (cdA K (He.ga K "is_near"))) A outer s0 H E) E := passes_call tk fun _ _ _ _ h => h
  have hp := passes_of (X := (cxOf (L2.CX P w) P w K mg base ["hall", "one", "other", "high", "wide"] "is_near" (defScope s_is_near) (He.ga K "is_near") (.ref (cdA K (He.ga K "is_near"))) A outer s0 H E)) rfl
  unfold b_is_near
  exact (dss_cons (ds_set (i := 3) hN (dp_op op_subP (DP.b (dp_ix (ix_P hu) (DP.b (dv 1)) (DP.b dc_int))) (DP.b (dp_ix (ix_P hu) (DP.b (dv 2)) (DP.b dc_int))))) (dss_cons (ds_set (i := 4) hN (dp_op op_subP (DP.b (dp_ix (ix_P hu) (DP.b (dv 1)) (DP.b dc_int))) (DP.b (dp_ix (ix_P hu) (DP.b (dv 2)) (DP.b dc_int))))) (dss_one (ds_ret (dp_or (dp_cmp (op_eqP hu) (DP.b (dp_ix (ix_P hu) (DP.b (dv 0)) (DP.b dc_int))) (DP.b dc_int) (nomark _)) (dp_one (dp_cmp op_leP (DP.b (dp_op op_addP (DP.b (dp_op op_mulP (DP.b (dv 3)) (DP.b (dv 3)))) (DP.b (dp_op op_mulP (DP.b (dv 4)) (DP.b (dv 4)))))) (DP.b (dp_ix (ix_P hu) (DP.b (dv 0)) (DP.b dc_int))) (nomark _))))))))
theorem ok_is_near (T : Tx K mg) : FD Tb0 P w K mg base 1 "is_near" ["hall", "one", "other"] m_is_near := fd_of (N := ["hall", "one", "other", "high", "wide"]) T.f_is_near sc_is_near rfl (by_is_near T)
theorem sc_side_of : FnScope ["one", "other", "spot", "high", "wide"] ["one", "other", "spot"] (defScope s_side_of) := ⟨rfl, rfl, rfl, by decide +kernel, rfl, by decide +kernel, by decide +kernel⟩
theorem by_side_of (T : Tx K mg) (A : Around) (outer : List Env) (s0 : Shared) (H : Hp) (E : XK) (S : List Addr) (hT : LamX.Tabs Tb0 H) (hr : Room 0 (A.deeper (envOfC "side_of" (defScope s_side_of) s0.heap.objs.size (He.ga K "side_of") (.ref (cdA K (He.ga K "side_of")))))) :
    DSs (cxOf (L2.CX P w) P w K mg base ["one", "other", "spot", "high", "wide"] "side_of" (defScope s_side_of) (He.ga K "side_of") (.ref (cdA K (He.ga K "side_of"))) A outer s0 H E) (fm0 Tb0 S H E) (defBody s_side_of) b_side_of := by
  have hu := hu100 hr
  have hF := fits0 (S := S) (E := E) hT
  have hN := sc_side_of.nd
  have tk : Takes (cxOf (L2.CX P w) P w K mg base ["one", "other", "spot", "high", "wide"] "side_of" (defScope s_side_of) (He.ga K "side_of") (.ref (cdA K (He.ga K "side_of"))) A outer s0 H E) (fun cls d _ H => E cls d H) := takes_of rfl rfl rfl rfl
  have hx : Passes (L2.CX P w) (cxOf (L2.CX P w) P w K mg base ["one", "other", "spot", "high", "wide"] "side_of" (defScope s_side_of) (He.ga K "side_of") (.ref (cdA K (He.ga K "side_of"))) A outer s0 H E) E := passes_call tk fun _ _ _ _ h => h
  have hp := passes_of (X := (cxOf (L2.CX P w) P w K mg base ["one", "other", "spot", "high", "wide"] "side_of" (defScope s_side_of) (He.ga K "side_of") (.ref (cdA K (He.ga K "side_of"))) A outer s0 H E)) rfl
  unfold b_side_of
  exact (dss_cons (ds_set (i := 3) hN (dp_op op_mulP (DP.b dc_int) (DP.b (dp_op op_subP (DP.b (dp_ix (ix_P hu) (DP.b (dv 1)) (DP.b dc_int))) (DP.b (dp_ix (ix_P hu) (DP.b (dv 0)) (DP.b dc_int))))))) (dss_cons (ds_set (i := 4) hN (dp_op op_mulP (DP.b dc_int) (DP.b (dp_op op_subP (DP.b (dp_ix (ix_P hu) (DP.b (dv 1)) (DP.b dc_int))) (DP.b (dp_ix (ix_P hu) (DP.b (dv 0)) (DP.b dc_int))))))) (dss_one (ds_ret (dp_op op_subP (DP.b (dp_op op_mulP (DP.b (dv 3)) (DP.b (dp_op op_subP (DP.b (dp_op op_subP (DP.b (dp_ix (ix_P hu) (DP.b (dv 2)) (DP.b dc_int))) (DP.b (dp_op op_mulP (DP.b dc_int) (DP.b (dp_ix (ix_P hu) (DP.b (dv 0)) (DP.b dc_int))))))) (DP.b dc_int))))) (DP.b (dp_op op_mulP (DP.b (dv 4)) (DP.b (dp_op op_subP (DP.b (dp_op op_subP (DP.b (dp_ix (ix_P hu) (DP.b (dv 2)) (DP.b dc_int))) (DP.b (dp_op op_mulP (DP.b dc_int) (DP.b (dp_ix (ix_P hu) (DP.b (dv 0)) (DP.b dc_int))))))) (DP.b dc_int))))))))))
theorem ok_side_of (T : Tx K mg) : FD Tb0 P w K mg base 1 "side_of" ["one", "other", "spot"] m_side_of := fd_of (N := ["one", "other", "spot", "high", "wide"]) T.f_side_of sc_side_of rfl (by_side_of T)
theorem sc_is_crossed : FnScope ["one", "other", "cell", "spots", "sides", "row", "column", "spot"] ["one", "other", "cell"] (defScope s_is_crossed) := ⟨rfl, rfl, rfl, by decide +kernel, rfl, by decide +kernel, by decide +kernel⟩
theorem by_is_crossed (T : Tx K mg) (h_side_of : FD Tb0 P w K mg base 1 "side_of" ["one", "other", "spot"] m_side_of) (A : Around) (outer : List Env) (s0 : Shared) (H : Hp) (E : XK) (S : List Addr) (hT : LamX.Tabs Tb0 H) (hr : Room 1 (A.deeper (envOfC "is_crossed" (defScope s_is_crossed) s0.heap.objs.size (He.ga K "is_crossed") (.ref (cdA K (He.ga K "is_crossed")))))) :
    DSs (cxOf (L2.CX P w) P w K mg base ["one", "other", "cell", "spots", "sides", "row", "column", "spot"] "is_crossed" (defScope s_is_crossed) (He.ga K "is_crossed") (.ref (cdA K (He.ga K "is_crossed"))) A outer s0 H E) (fm0 Tb0 S H E) (defBody s_is_crossed) b_is_crossed := by
  have hu := hu100 hr
  have hF := fits0 (S := S) (E := E) hT
  have hN := sc_is_crossed.nd
  have tk : Takes (cxOf (L2.CX P w) P w K mg base ["one", "other", "cell", "spots", "sides", "row", "column", "spot"] "is_crossed" (defScope s_is_crossed) (He.ga K "is_crossed") (.ref (cdA K (He.ga K "is_crossed"))) A outer s0 H E) (fun cls d _ H => E cls d H) := takes_of rfl rfl rfl rfl
  have hx : Passes (L2.CX P w) (cxOf (L2.CX P w) P w K mg base ["one", "other", "cell", "spots", "sides", "row", "column", "spot"] "is_crossed" (defScope s_is_crossed) (He.ga K "is_crossed") (.ref (cdA K (He.ga K "is_crossed"))) A outer s0 H E) E := passes_call tk fun _ _ _ _ h => h
  have hp := passes_of (X := (cxOf (L2.CX P w) P w K mg base ["one", "other", "cell", "spots", "sides", "row", "column", "spot"] "is_crossed" (defScope s_is_crossed) (He.ga K "is_crossed") (.ref (cdA K (He.ga K "is_crossed"))) A outer s0 H E)) rfl
  unfold b_is_crossed
  exact (dss_cons (ds_unp (dv 2) (dg_tup rfl (dgs_cons hN (dgs_cons hN dgs_nil)))) (dss_cons (ds_set (i := 3) hN (DF.p (df_lst (da_cons (dp_tup (da_cons (dp_op op_mulP (DP.b dc_int) (DP.b (dv 5))) (da_cons (dp_op op_mulP (DP.b dc_int) (DP.b (dv 6))) da_nil))) (da_cons (dp_tup (da_cons (dp_op op_mulP (DP.b dc_int) (DP.b (dv 5))) (da_cons (dp_op op_addP (DP.b (dp_op op_mulP (DP.b dc_int) (DP.b (dv 6)))) (DP.b dc_int)) da_nil))) (da_cons (dp_tup (da_cons (dp_op op_addP (DP.b (dp_op op_mulP (DP.b dc_int) (DP.b (dv 5)))) (DP.b dc_int)) (da_cons (dp_op op_mulP (DP.b dc_int) (DP.b (dv 6))) da_nil))) (da_cons (dp_tup (da_cons (dp_op op_addP (DP.b (dp_op op_mulP (DP.b dc_int) (DP.b (dv 5)))) (DP.b dc_int)) (da_cons (dp_op op_addP (DP.b (dp_op op_mulP (DP.b dc_int) (DP.b (dv 6)))) (DP.b dc_int)) da_nil))) da_nil))))))) (dss_cons (ds_setComp (i := 4) rfl hN (DI.c (di_val (dv 3))) (blkOk_by (own := [("spot", 7)]) (by kernel_rfl)) (fun _ _ _ _ _ => (dg_name hN)) (fun _ _ _ _ _ => dts_nil) (fun _ _ _ _ _ => (dp_fn hF.nox h_side_of (hr.mono (by decide)) passL (da_cons (dv 0) (da_cons (dv 1) (da_cons (dv 7) da_nil)))))) (dss_one (ds_ret (dp_chain (op_ltP hu) (op_ltP hu) (DP.b (dp_callB (call_minP rfl) T.n_min (dab_cons (DP.b (dv 4)) dab_nil))) (DP.b dc_int) (DP.b (dp_callB (call_maxP rfl) T.n_max (dab_cons (DP.b (dv 4)) dab_nil)))))))))
theorem ok_is_crossed (T : Tx K mg) (h_side_of : FD Tb0 P w K mg base 1 "side_of" ["one", "other", "spot"] m_side_of) : FD Tb0 P w K mg base 2 "is_crossed" ["one", "other", "cell"] m_is_crossed := fd_of (N := ["one", "other", "cell", "spots", "sides", "row", "column", "spot"]) T.f_is_crossed sc_is_crossed rfl (by_is_crossed T h_side_of)
theorem sc_crossed : FnScope ["one", "other", "found", "row", "column"] ["one", "other"] (defScope s_crossed) := ⟨rfl, rfl, rfl, by decide +kernel, rfl, by decide +kernel, by decide +kernel⟩
theorem by_crossed (T : Tx K mg) (h_is_crossed : FD Tb0 P w K mg base 2 "is_crossed" ["one", "other", "cell"] m_is_crossed) (A : Around) (outer : List Env) (s0 : Shared) (H : Hp) (E : XK) (S : List Addr) (hT : LamX.Tabs Tb0 H) (hr : Room 2 (A.deeper (envOfC "crossed" (defScope s_crossed) s0.heap.objs.size (He.ga K "crossed") (.ref (cdA K (He.ga K "crossed")))))) :
    DSs (cxOf (L2.CX P w) P w K mg base ["one", "other", "found", "row", "column"] "crossed" (defScope s_crossed) (He.ga K "crossed") (.ref (cdA K (He.ga K "crossed"))) A outer s0 H E) (fm0 Tb0 S H E) (defBody s_crossed) b_crossed := by
  have hu := hu100 hr
  have hF := fits0 (S := S) (E := E) hT
  have hN := sc_crossed.nd
  have tk : Takes (cxOf (L2.CX P w) P w K mg base ["one", "other", "found", "row", "column"] "crossed" (defScope s_crossed) (He.ga K "crossed") (.ref (cdA K (He.ga K "crossed"))) A outer s0 H E) (fun cls d _ H => E cls d H) := takes_of rfl rfl rfl rfl
  have hx : Passes (L2.CX P w) (cxOf (L2.CX P w) P w K mg base ["one", "other", "found", "row", "column"] "crossed" (defScope s_crossed) (He.ga K "crossed") (.ref (cdA K (He.ga K "crossed"))) A outer s0 H E) E := passes_call tk fun _ _ _ _ h => h
  have hp := passes_of (X := (cxOf (L2.CX P w) P w K mg base ["one", "other", "found", "row", "column"] "crossed" (defScope s_crossed) (He.ga K "crossed") (.ref (cdA K (He.ga K "crossed"))) A outer s0 H E)) rfl
  unfold b_crossed b_crossed_2 b_crossed_1
  exact (dss_cons (ds_new (i := 2) hN (df_lst da_nil)) (dss_cons (ds_for hp rfl (di_range2 T.n_range (da_cons (dp_callB (call_minP rfl) T.n_min (dab_cons (DP.b (dp_ix (ix_P hu) (DP.b (dv 0)) (DP.b dc_int))) (dab_cons (DP.b (dp_ix (ix_P hu) (DP.b (dv 1)) (DP.b dc_int))) dab_nil))) (da_cons (dp_op op_addP (DP.b (dp_callB (call_maxP rfl) T.n_max (dab_cons (DP.b (dp_ix (ix_P hu) (DP.b (dv 0)) (DP.b dc_int))) (dab_cons (DP.b (dp_ix (ix_P hu) (DP.b (dv 1)) (DP.b dc_int))) dab_nil)))) (DP.b dc_int)) da_nil))) (dg_name hN) (dss_one (ds_for hp rfl (di_range2 T.n_range (da_cons (dp_callB (call_minP rfl) T.n_min (dab_cons (DP.b (dp_ix (ix_P hu) (DP.b (dv 0)) (DP.b dc_int))) (dab_cons (DP.b (dp_ix (ix_P hu) (DP.b (dv 1)) (DP.b dc_int))) dab_nil))) (da_cons (dp_op op_addP (DP.b (dp_callB (call_maxP rfl) T.n_max (dab_cons (DP.b (dp_ix (ix_P hu) (DP.b (dv 0)) (DP.b dc_int))) (dab_cons (DP.b (dp_ix (ix_P hu) (DP.b (dv 1)) (DP.b dc_int))) dab_nil)))) (DP.b dc_int)) da_nil))) (dg_name hN) (dss_one (ds_if (DW.t (dw_and (dt_cmp (op_notInP hu) (DP.b (dp_tup (da_cons (dv 3) (da_cons (dv 4) da_nil)))) (DP.b (dp_tup (da_cons (dv 0) (da_cons (dv 1) da_nil)))) (by rfl)) (dw_and1 (dt_val (dp_fn hF h_is_crossed (hr.mono (by decide)) hx (da_cons (dv 0) (da_cons (dv 1) (da_cons (dp_tup (da_cons (dv 3) (da_cons (dv 4) da_nil))) da_nil)))))))) (dss_one (ds_append (i := 2) (dp_tup (da_cons (dv 3) (da_cons (dv 4) da_nil))))) dss_nil))))) (dss_frz 2 (dss_one (ds_ret (dp_callTy call_tupleP T.n_tuple (dab_cons (DP.b (dv 2)) dab_nil)))))))
theorem ok_crossed (T : Tx K mg) (h_is_crossed : FD Tb0 P w K mg base 2 "is_crossed" ["one", "other", "cell"] m_is_crossed) : FD Tb0 P w K mg base 3 "crossed" ["one", "other"] m_crossed := fd_of (N := ["one", "other", "found", "row", "column"]) T.f_crossed sc_crossed rfl (by_crossed T h_is_crossed)
theorem sc_sees : FnScope ["hall", "one", "other", "cell"] ["hall", "one", "other"] (defScope s_sees) := ⟨rfl, rfl, rfl, by decide +kernel, rfl, by decide +kernel, by decide +kernel⟩
theorem by_sees (T : Tx K mg) (h_need_cell : FD Tb0 P w K mg base 2 "need_cell" ["hall", "cell"] m_need_cell) (h_is_free : FD Tb0 P w K mg base 1 "is_free" ["hall", "cell"] m_is_free) (h_is_near : FD Tb0 P w K mg base 1 "is_near" ["hall", "one", "other"] m_is_near) (h_crossed : FD Tb0 P w K mg base 3 "crossed" ["one", "other"] m_crossed) (A : Around) (outer : List Env) (s0 : Shared) (H : Hp) (E : XK) (S : List Addr) (hT : LamX.Tabs Tb0 H) (hr : Room 3 (A.deeper (envOfC "sees" (defScope s_sees) s0.heap.objs.size (He.ga K "sees") (.ref (cdA K (He.ga K "sees")))))) :
    DSs (cxOf (L2.CX P w) P w K mg base ["hall", "one", "other", "cell"] "sees" (defScope s_sees) (He.ga K "sees") (.ref (cdA K (He.ga K "sees"))) A outer s0 H E) (fm0 Tb0 S H E) (defBody s_sees) b_sees := by
  have hu := hu100 hr
  have hF := fits0 (S := S) (E := E) hT
  have hN := sc_sees.nd
  have tk : Takes (cxOf (L2.CX P w) P w K mg base ["hall", "one", "other", "cell"] "sees" (defScope s_sees) (He.ga K "sees") (.ref (cdA K (He.ga K "sees"))) A outer s0 H E) (fun cls d _ H => E cls d H) := takes_of rfl rfl rfl rfl
  have hx : Passes (L2.CX P w) (cxOf (L2.CX P w) P w K mg base ["hall", "one", "other", "cell"] "sees" (defScope s_sees) (He.ga K "sees") (.ref (cdA K (He.ga K "sees"))) A outer s0 H E) E := passes_call tk fun _ _ _ _ h => h
  have hp := passes_of (X := (cxOf (L2.CX P w) P w K mg base ["hall", "one", "other", "cell"] "sees" (defScope s_sees) (He.ga K "sees") (.ref (cdA K (He.ga K "sees"))) A outer s0 H E)) rfl
  unfold b_sees
  exact (dss_cons (ds_expr (dp_fn hF h_need_cell (hr.mono (by decide)) hx (da_cons (dv 0) (da_cons (dv 1) da_nil)))) (dss_cons (ds_expr (dp_fn hF h_need_cell (hr.mono (by decide)) hx (da_cons (dv 0) (da_cons (dv 2) da_nil)))) (dss_cons (ds_if (DW.t (dw_or (dt_not (dt_val (dp_fn hF h_is_free (hr.mono (by decide)) hx (da_cons (dv 0) (da_cons (dv 1) da_nil))))) (dw_or (dt_not (dt_val (dp_fn hF h_is_free (hr.mono (by decide)) hx (da_cons (dv 0) (da_cons (dv 2) da_nil))))) (dw_or1 (dt_not (dt_val (dp_fn hF h_is_near (hr.mono (by decide)) hx (da_cons (dv 0) (da_cons (dv 1) (da_cons (dv 2) da_nil)))))))))) (dss_one (ds_ret dc_bl)) dss_nil) (dss_one (ds_ret (dp_callB (call_allP rfl) T.n_all (dab_cons (DP.b (DF.p (df_comp rfl hN (DI.c (di_val (dp_fn hF h_crossed (hr.mono (by decide)) hx (da_cons (dv 1) (da_cons (dv 2) da_nil))))) (blkOk_by (own := [("cell", 3)]) (by kernel_rfl)) (fun _ _ _ _ _ => (dg_name hN)) (fun _ _ _ _ _ => dts_nil) (fun _ _ _ _ _ => (dp_fn hF.nox h_is_free (hr.mono (by decide)) passL (da_cons (dv 0) (da_cons (dv 3) da_nil))))))) dab_nil)))))))
theorem ok_sees (T : Tx K mg) (h_need_cell : FD Tb0 P w K mg base 2 "need_cell" ["hall", "cell"] m_need_cell) (h_is_free : FD Tb0 P w K mg base 1 "is_free" ["hall", "cell"] m_is_free) (h_is_near : FD Tb0 P w K mg base 1 "is_near" ["hall", "one", "other"] m_is_near) (h_crossed : FD Tb0 P w K mg base 3 "crossed" ["one", "other"] m_crossed) : FD Tb0 P w K mg base 4 "sees" ["hall", "one", "other"] m_sees := fd_of (N := ["hall", "one", "other", "cell"]) T.f_sees sc_sees rfl (by_sees T h_need_cell h_is_free h_is_near h_crossed)
theorem sc_is_seen : FnScope ["hall", "lookers", "cell", "looker"] ["hall", "lookers", "cell"] (defScope s_is_seen) := ⟨rfl, rfl, rfl, by decide +kernel, rfl, by decide +kernel, by decide +kernel⟩
theorem by_is_seen (T : Tx K mg) (h_sees : FD Tb0 P w K mg base 4 "sees" ["hall", "one", "other"] m_sees) (A : Around) (outer : List Env) (s0 : Shared) (H : Hp) (E : XK) (S : List Addr) (hT : LamX.Tabs Tb0 H) (hr : Room 4 (A.deeper (envOfC "is_seen" (defScope s_is_seen) s0.heap.objs.size (He.ga K "is_seen") (.ref (cdA K (He.ga K "is_seen")))))) :
    DSs (cxOf (L2.CX P w) P w K mg base ["hall", "lookers", "cell", "looker"] "is_seen" (defScope s_is_seen) (He.ga K "is_seen") (.ref (cdA K (He.ga K "is_seen"))) A outer s0 H E) (fm0 Tb0 S H E) (defBody s_is_seen) b_is_seen := by
  have hu := hu100 hr
  have hF := fits0 (S := S) (E := E) hT
  have hN := sc_is_seen.nd
  have tk : Takes (cxOf (L2.CX P w) P w K mg base ["hall", "lookers", "cell", "looker"] "is_seen" (defScope s_is_seen) (He.ga K "is_seen") (.ref (cdA K (He.ga K "is_seen"))) A outer s0 H E) (fun cls d _ H => E cls d H) := takes_of rfl rfl rfl rfl
  have hx : Passes (L2.CX P w) (cxOf (L2.CX P w) P w K mg base ["hall", "lookers", "cell", "looker"] "is_seen" (defScope s_is_seen) (He.ga K "is_seen") (.ref (cdA K (He.ga K "is_seen"))) A outer s0 H E) E := passes_call tk fun _ _ _ _ h => h
  have hp := passes_of (X := (cxOf (L2.CX P w) P w K mg base ["hall", "lookers", "cell", "looker"] "is_seen" (defScope s_is_seen) (He.ga K "is_seen") (.ref (cdA K (He.ga K "is_seen"))) A outer s0 H E)) rfl
  unfold b_is_seen
  exact (dss_one (ds_ret (dp_callB (call_anyP rfl) T.n_any (dab_cons (DP.b (DF.p (df_comp rfl hN (DI.c (di_val (dv 1))) (blkOk_by (own := [("looker", 3)]) (by kernel_rfl)) (fun _ _ _ _ _ => (dg_name hN)) (fun _ _ _ _ _ => dts_nil) (fun _ _ _ _ _ => (dp_fn hF.nox h_sees (hr.mono (by decide)) passL (da_cons (dv 0) (da_cons (dv 3) (da_cons (dv 2) da_nil)))))))) dab_nil))))
theorem ok_is_seen (T : Tx K mg) (h_sees : FD Tb0 P w K mg base 4 "sees" ["hall", "one", "other"] m_sees) : FD Tb0 P w K mg base 5 "is_seen" ["hall", "lookers", "cell"] m_is_seen := fd_of (N := ["hall", "lookers", "cell", "looker"]) T.f_is_seen sc_is_seen rfl (by_is_seen T h_sees)
theorem sc_costs_to : FnScope ["hall", "lookers", "goal", "weights", "found", "todo", "cell", "other", "cost"] ["hall", "lookers", "goal"] (defScope s_costs_to) := ⟨rfl, rfl, rfl, by decide +kernel, rfl, by decide +kernel, by decide +kernel⟩
theorem by_costs_to (T : Tx K mg) (h_part_of : FD Tb0 P w K mg base 3 "part_of" ["hall", "cell"] m_part_of) (h_is_seen : FD Tb0 P w K mg base 5 "is_seen" ["hall", "lookers", "cell"] m_is_seen) (h_neighbours : FD Tb0 P w K mg base 2 "neighbours" ["hall", "cell"] m_neighbours) (hTB : LamX.TabB base mg (cdA K (He.ga K "costs_to")) (He.tabOf K (cdA K (He.ga K "costs_to")))) (hTm : (He.tabOf K (cdA K (He.ga K "costs_to")), (("costs_to" ++ ".<locals>.") ++ "<lambda>" : Str)) ∈ Tb0) (hTu : ∀ p ∈ Tb0, p.1 = He.tabOf K (cdA K (He.ga K "costs_to")) → p.2 = (("costs_to" ++ ".<locals>.") ++ "<lambda>" : Str)) (A : Around) (outer : List Env) (s0 : Shared) (H : Hp) (E : XK) (S : List Addr) (hT : LamX.Tabs Tb0 H) (hr : Room 5 (A.deeper (envOfC "costs_to" (defScope s_costs_to) s0.heap.objs.size (He.ga K "costs_to") (.ref (cdA K (He.ga K "costs_to")))))) :
    DSs (cxOf (L2.CX P w) P w K mg base ["hall", "lookers", "goal", "weights", "found", "todo", "cell", "other", "cost"] "costs_to" (defScope s_costs_to) (He.ga K "costs_to") (.ref (cdA K (He.ga K "costs_to"))) A outer s0 H E) (fm0 Tb0 S H E) (defBody s_costs_to) b_costs_to := by
  have hu := hu100 hr
  have hF := fits0 (S := S) (E := E) hT
  have hN := sc_costs_to.nd
  have tk : Takes (cxOf (L2.CX P w) P w K mg base ["hall", "lookers", "goal", "weights", "found", "todo", "cell", "other", "cost"] "costs_to" (defScope s_costs_to) (He.ga K "costs_to") (.ref (cdA K (He.ga K "costs_to"))) A outer s0 H E) (fun cls d _ H => E cls d H) := takes_of rfl rfl rfl rfl
  have hx : Passes (L2.CX P w) (cxOf (L2.CX P w) P w K mg base ["hall", "lookers", "goal", "weights", "found", "todo", "cell", "other", "cost"] "costs_to" (defScope s_costs_to) (He.ga K "costs_to") (.ref (cdA K (He.ga K "costs_to"))) A outer s0 H E) E := passes_call tk fun _ _ _ _ h => h
  have hp := passes_of (X := (cxOf (L2.CX P w) P w K mg base ["hall", "lookers", "goal", "weights", "found", "todo", "cell", "other", "cost"] "costs_to" (defScope s_costs_to) (He.ga K "costs_to") (.ref (cdA K (He.ga K "costs_to"))) A outer s0 H E)) rfl
  unfold b_costs_to b_costs_to_3 b_costs_to_2 b_costs_to_1
  exact (dss_cons (ds_set (i := 3) hN (dp_callTy (call_dictP rfl hu) T.n_dict (dab_cons (DP.b (DF.p (df_comp rfl hN (DI.c (di_val (dp_fn hF h_part_of (hr.mono (by decide)) hx (da_cons (dv 0) (da_cons (dv 2) da_nil))))) (blkOk_by (own := [("cell", 6)]) (by kernel_rfl)) (fun _ _ _ _ _ => (dg_name hN)) (fun _ _ _ _ _ => dts_nil) (fun _ _ _ _ _ => (dp_tup (da_cons (dv 6) (da_cons (dp_callTy call_intP T.n_int (dab_cons (DP.b (dp_fn hF.nox h_is_seen (hr.mono (by decide)) passL (da_cons (dv 0) (da_cons (dv 1) (da_cons (dv 6) da_nil))))) dab_nil)) da_nil))))))) dab_nil))) (dss_cons (ds_new (i := 4) hN (df_d1 hu (dv 2) (dp_tup (da_cons (dp_ix (ix_P hu) (DP.b (dv 3)) (DP.b (dv 2))) (da_cons dc_int da_nil))))) (dss_cons (ds_new (i := 5) hN (df_lst (da_cons (dv 2) da_nil))) (dss_cons (ds_while 10000 hp (dt_cmp op_gtP (DP.b (dp_callB call_lenP T.n_len (dab_cons (dvo 5) dab_nil))) (DP.b dc_int) (nomark _)) (dss_cons (ds_set (i := 6) hN (dp_minKey (k := 0) hF rfl T.n_min (dvo 5) hTB rfl hTm hTu (hr.mono (by decide)) (fun A outer s0 H0 f c' hr => by have hu := hu100 hr; exact (dp_ix (ix_P hu) (dvo 4) (DP.b (dv 9)))) (show ("one" : Str) ∉ (["hall", "lookers", "goal", "weights", "found", "todo", "cell", "other", "cost"] : List Str) from by decide))) (dss_cons (ds_remove (i := 5) hu (dv 6)) (dss_one (ds_for hp rfl (di_val (dp_fn hF h_neighbours (hr.mono (by decide)) hx (da_cons (dv 0) (da_cons (dv 6) da_nil)))) (dg_name hN) (dss_cons (ds_set (i := 8) hN (dp_tup (da_cons (dp_op op_addP (DP.b (dp_ix (ix_P hu) (DP.b (dp_ix (ix_P hu) (dvo 4) (DP.b (dv 6)))) (DP.b dc_int))) (DP.b (dp_ix (ix_P hu) (DP.b (dv 3)) (DP.b (dv 7))))) (da_cons (dp_op op_addP (DP.b (dp_ix (ix_P hu) (DP.b (dp_ix (ix_P hu) (dvo 4) (DP.b (dv 6)))) (DP.b dc_int))) (DP.b dc_int)) da_nil)))) (dss_one (ds_if (DW.t (dw_or (dt_cmp (op_notInP hu) (DP.b (dv 7)) (dvo 4) (by rfl)) (dw_or1 (dt_cmp (op_ltP hu) (DP.b (dv 8)) (DP.b (dp_ix (ix_P hu) (dvo 4) (DP.b (dv 7)))) (nomark _))))) (dss_cons (ds_put (i := 4) hu (dv 7) (dv 8)) (dss_one (ds_if (dt_cmp (op_notInP hu) (DP.b (dv 7)) (dvo 5) (by rfl)) (dss_one (ds_append (i := 5) (dv 7))) dss_nil))) dss_nil)))))))) (dss_frz 4 (dss_frz 5 (dss_one (ds_ret (dv 4)))))))))
theorem ok_costs_to (T : Tx K mg) (h_part_of : FD Tb0 P w K mg base 3 "part_of" ["hall", "cell"] m_part_of) (h_is_seen : FD Tb0 P w K mg base 5 "is_seen" ["hall", "lookers", "cell"] m_is_seen) (h_neighbours : FD Tb0 P w K mg base 2 "neighbours" ["hall", "cell"] m_neighbours) (hTB : LamX.TabB base mg (cdA K (He.ga K "costs_to")) (He.tabOf K (cdA K (He.ga K "costs_to")))) (hTm : (He.tabOf K (cdA K (He.ga K "costs_to")), (("costs_to" ++ ".<locals>.") ++ "<lambda>" : Str)) ∈ Tb0) (hTu : ∀ p ∈ Tb0, p.1 = He.tabOf K (cdA K (He.ga K "costs_to")) → p.2 = (("costs_to" ++ ".<locals>.") ++ "<lambda>" : Str)) : FD Tb0 P w K mg base 6 "costs_to" ["hall", "lookers", "goal"] m_costs_to := fd_of (N := ["hall", "lookers", "goal", "weights", "found", "todo", "cell", "other", "cost"]) T.f_costs_to sc_costs_to rfl (by_costs_to T h_part_of h_is_seen h_neighbours hTB hTm hTu)
theorem sc_slyest : FnScope ["hall", "lookers", "one", "other", "cell", "costs", "way", "here", "weight", "due"] ["hall", "lookers", "one", "other"] (defScope s_slyest) := ⟨rfl, rfl, rfl, by decide +kernel, rfl, by decide +kernel, by decide +kernel⟩
theorem by_slyest (T : Tx K mg) (h_is_inside : FD Tb0 P w K mg base 1 "is_inside" ["hall", "cell"] m_is_inside) (h_is_free : FD Tb0 P w K mg base 1 "is_free" ["hall", "cell"] m_is_free) (h_costs_to : FD Tb0 P w K mg base 6 "costs_to" ["hall", "lookers", "goal"] m_costs_to) (h_is_seen : FD Tb0 P w K mg base 5 "is_seen" ["hall", "lookers", "cell"] m_is_seen) (h_neighbours : FD Tb0 P w K mg base 2 "neighbours" ["hall", "cell"] m_neighbours) (A : Around) (outer : List Env) (s0 : Shared) (H : Hp) (E : XK) (S : List Addr) (hT : LamX.Tabs Tb0 H) (hr : Room 6 (A.deeper (envOfC "slyest" (defScope s_slyest) s0.heap.objs.size (He.ga K "slyest") (.ref (cdA K (He.ga K "slyest")))))) :
    DSs (cxOf (L2.CX P w) P w K mg base ["hall", "lookers", "one", "other", "cell", "costs", "way", "here", "weight", "due"] "slyest" (defScope s_slyest) (He.ga K "slyest") (.ref (cdA K (He.ga K "slyest"))) A outer s0 H E) (fm0 Tb0 S H E) (defBody s_slyest) b_slyest := by
  have hu := hu100 hr
  have hF := fits0 (S := S) (E := E) hT
  have hN := sc_slyest.nd
  have tk : Takes (cxOf (L2.CX P w) P w K mg base ["hall", "lookers", "one", "other", "cell", "costs", "way", "here", "weight", "due"] "slyest" (defScope s_slyest) (He.ga K "slyest") (.ref (cdA K (He.ga K "slyest"))) A outer s0 H E) (fun cls d _ H => E cls d H) := takes_of rfl rfl rfl rfl
  have hx : Passes (L2.CX P w) (cxOf (L2.CX P w) P w K mg base ["hall", "lookers", "one", "other", "cell", "costs", "way", "here", "weight", "due"] "slyest" (defScope s_slyest) (He.ga K "slyest") (.ref (cdA K (He.ga K "slyest"))) A outer s0 H E) E := passes_call tk fun _ _ _ _ h => h
  have hp := passes_of (X := (cxOf (L2.CX P w) P w K mg base ["hall", "lookers", "one", "other", "cell", "costs", "way", "here", "weight", "due"] "slyest" (defScope s_slyest) (He.ga K "slyest") (.ref (cdA K (He.ga K "slyest"))) A outer s0 H E)) rfl
  unfold b_slyest b_slyest_3 b_slyest_2 b_slyest_1
  exact (dss_cons (ds_for hp rfl (di_val (dp_tup (da_cons (dv 2) (da_cons (dv 3) da_nil)))) (dg_name hN) (dss_one (ds_if (DW.t (dw_or (dt_not (dt_val (dp_fn hF h_is_inside (hr.mono (by decide)) hx (da_cons (dv 0) (da_cons (dv 4) da_nil))))) (dw_or1 (dt_not (dt_val (dp_fn hF h_is_free (hr.mono (by decide)) hx (da_cons (dv 0) (da_cons (dv 4) da_nil)))))))) (dss_one (ds_raise rfl tk T.e_NoCell)) dss_nil))) (dss_cons (ds_set (i := 5) hN (dp_fn hF h_costs_to (hr.mono (by decide)) hx (da_cons (dv 0) (da_cons (dv 1) (da_cons (dv 3) da_nil))))) (dss_cons (ds_if (dt_cmp (op_notInP hu) (DP.b (dv 2)) (DP.b (dv 5)) (by rfl)) (dss_one (ds_raise rfl tk T.e_NoWay)) dss_nil) (dss_cons (ds_set (i := 6) hN (dp_tup (da_cons (dv 2) da_nil))) (dss_cons (ds_while 10000 hp (dt_cmp (op_neP hu) (DP.b (dp_ix (ix_P hu) (DP.b (dv 6)) (DP.b (dp_un un_negP (DP.b dc_int))))) (DP.b (dv 3)) (nomark _)) (dss_cons (ds_set (i := 7) hN (dp_ix (ix_P hu) (DP.b (dv 6)) (DP.b (dp_un un_negP (DP.b dc_int))))) (dss_cons (ds_set (i := 8) hN (dp_callTy call_intP T.n_int (dab_cons (DP.b (dp_fn hF h_is_seen (hr.mono (by decide)) hx (da_cons (dv 0) (da_cons (dv 1) (da_cons (dv 7) da_nil))))) dab_nil))) (dss_cons (ds_set (i := 9) hN (dp_tup (da_cons (dp_op op_subP (DP.b (dp_ix (ix_P hu) (DP.b (dp_ix (ix_P hu) (DP.b (dv 5)) (DP.b (dv 7)))) (DP.b dc_int))) (DP.b (dv 8))) (da_cons (dp_op op_subP (DP.b (dp_ix (ix_P hu) (DP.b (dp_ix (ix_P hu) (DP.b (dv 5)) (DP.b (dv 7)))) (DP.b dc_int))) (DP.b dc_int)) da_nil)))) (dss_one (ds_set (i := 6) hN (dp_op op_addP (DP.b (dv 6)) (DP.b (dp_tup (da_cons (dp_ix (ix_P hu) (DP.b (DF.p (df_comp rfl hN (DI.c (di_val (dp_fn hF h_neighbours (hr.mono (by decide)) hx (da_cons (dv 0) (da_cons (dv 7) da_nil))))) (blkOk_by (own := [("cell", 4)]) (by kernel_rfl)) (fun _ _ _ _ _ => (dg_name hN)) (fun _ _ _ _ _ => (dts_one (dt_cmp (op_eqP hu) (DP.b (dp_ix (ix_P hu) (DP.b (dv 5)) (DP.b (dv 4)))) (DP.b (dv 9)) (nomark _)))) (fun _ _ _ _ _ => (dv 4))))) (DP.b dc_int)) da_nil)))))))))) (dss_one (ds_ret (dv 6))))))))
theorem ok_slyest (T : Tx K mg) (h_is_inside : FD Tb0 P w K mg base 1 "is_inside" ["hall", "cell"] m_is_inside) (h_is_free : FD Tb0 P w K mg base 1 "is_free" ["hall", "cell"] m_is_free) (h_costs_to : FD Tb0 P w K mg base 6 "costs_to" ["hall", "lookers", "goal"] m_costs_to) (h_is_seen : FD Tb0 P w K mg base 5 "is_seen" ["hall", "lookers", "cell"] m_is_seen) (h_neighbours : FD Tb0 P w K mg base 2 "neighbours" ["hall", "cell"] m_neighbours) : FD Tb0 P w K mg base 7 "slyest" ["hall", "lookers", "one", "other"] m_slyest := fd_of (N := ["hall", "lookers", "one", "other", "cell", "costs", "way", "here", "weight", "due"]) T.f_slyest sc_slyest rfl (by_slyest T h_is_inside h_is_free h_costs_to h_is_seen h_neighbours)
theorem sc_seen_on : FnScope ["hall", "lookers", "way", "cell"] ["hall", "lookers", "way"] (defScope s_seen_on) := ⟨rfl, rfl, rfl, by decide +kernel, rfl, by decide +kernel, by decide +kernel⟩
theorem by_seen_on (T : Tx K mg) (h_is_seen : FD Tb0 P w K mg base 5 "is_seen" ["hall", "lookers", "cell"] m_is_seen) (A : Around) (outer : List Env) (s0 : Shared) (H : Hp) (E : XK) (S : List Addr) (hT : LamX.Tabs Tb0 H) (hr : Room 5 (A.deeper (envOfC "seen_on" (defScope s_seen_on) s0.heap.objs.size (He.ga K "seen_on") (.ref (cdA K (He.ga K "seen_on")))))) :
    DSs (cxOf (L2.CX P w) P w K mg base ["hall", "lookers", "way", "cell"] "seen_on" (defScope s_seen_on) (He.ga K "seen_on") (.ref (cdA K (He.ga K "seen_on"))) A outer s0 H E) (fm0 Tb0 S H E) (defBody s_seen_on) b_seen_on := by
  have hu := hu100 hr
  have hF := fits0 (S := S) (E := E) hT
  have hN := sc_seen_on.nd
  have tk : Takes (cxOf (L2.CX P w) P w K mg base ["hall", "lookers", "way", "cell"] "seen_on" (defScope s_seen_on) (He.ga K "seen_on") (.ref (cdA K (He.ga K "seen_on"))) A outer s0 H E) (fun cls d _ H => E cls d H) := takes_of rfl rfl rfl rfl
  have hx : Passes (L2.CX P w) (cxOf (L2.CX P w) P w K mg base ["hall", "lookers", "way", "cell"] "seen_on" (defScope s_seen_on) (He.ga K "seen_on") (.ref (cdA K (He.ga K "seen_on"))) A outer s0 H E) E := passes_call tk fun _ _ _ _ h => h
  have hp := passes_of (X := (cxOf (L2.CX P w) P w K mg base ["hall", "lookers", "way", "cell"] "seen_on" (defScope s_seen_on) (He.ga K "seen_on") (.ref (cdA K (He.ga K "seen_on"))) A outer s0 H E)) rfl
  unfold b_seen_on
  exact (dss_one (ds_ret (dp_callB call_lenP T.n_len (dab_cons (DP.b (DF.p (df_comp rfl hN (DI.c (di_val (dv 2))) (blkOk_by (own := [("cell", 3)]) (by kernel_rfl)) (fun _ _ _ _ _ => (dg_name hN)) (fun _ _ _ _ _ => (dts_one (dt_val (dp_fn hF.nox h_is_seen (hr.mono (by decide)) passL (da_cons (dv 0) (da_cons (dv 1) (da_cons (dv 3) da_nil))))))) (fun _ _ _ _ _ => (dv 3))))) dab_nil))))
theorem ok_seen_on (T : Tx K mg) (h_is_seen : FD Tb0 P w K mg base 5 "is_seen" ["hall", "lookers", "cell"] m_is_seen) : FD Tb0 P w K mg base 6 "seen_on" ["hall", "lookers", "way"] m_seen_on := fd_of (N := ["hall", "lookers", "way", "cell"]) T.f_seen_on sc_seen_on rfl (by_seen_on T h_is_seen)
theorem sc__law_floors : FnScope ["hall", "found", "row", "line", "column", "sign"] ["hall"] (defScope s__law_floors) := ⟨rfl, rfl, rfl, by decide +kernel, rfl, by decide +kernel, by decide +kernel⟩
theorem by__law_floors (T : Tx K mg) (A : Around) (outer : List Env) (s0 : Shared) (H : Hp) (E : XK) (S : List Addr) (hT : LamX.Tabs Tb0 H) (hr : Room 0 (A.deeper (envOfC "_law_floors" (defScope s__law_floors) s0.heap.objs.size (He.ga K "_law_floors") (.ref (cdA K (He.ga K "_law_floors")))))) :
    DSs (cxOf (L2.CX P w) P w K mg base ["hall", "found", "row", "line", "column", "sign"] "_law_floors" (defScope s__law_floors) (He.ga K "_law_floors") (.ref (cdA K (He.ga K "_law_floors"))) A outer s0 H E) (fm0 Tb0 S H E) (defBody s__law_floors) b__law_floors := by
  have hu := hu100 hr
  have hF := fits0 (S := S) (E := E) hT
  have hN := sc__law_floors.nd
  have tk : Takes (cxOf (L2.CX P w) P w K mg base ["hall", "found", "row", "line", "column", "sign"] "_law_floors" (defScope s__law_floors) (He.ga K "_law_floors") (.ref (cdA K (He.ga K "_law_floors"))) A outer s0 H E) (fun cls d _ H => E cls d H) := takes_of rfl rfl rfl rfl
  have hx : Passes (L2.CX P w) (cxOf (L2.CX P w) P w K mg base ["hall", "found", "row", "line", "column", "sign"] "_law_floors" (defScope s__law_floors) (He.ga K "_law_floors") (.ref (cdA K (He.ga K "_law_floors"))) A outer s0 H E) E := passes_call tk fun _ _ _ _ h => h
  have hp := passes_of (X := (cxOf (L2.CX P w) P w K mg base ["hall", "found", "row", "line", "column", "sign"] "_law_floors" (defScope s__law_floors) (He.ga K "_law_floors") (.ref (cdA K (He.ga K "_law_floors"))) A outer s0 H E)) rfl
  unfold b__law_floors b__law_floors_1
  exact (dss_cons (ds_set (i := 1) hN (DF.p (df_lst da_nil))) (dss_cons (ds_for hp rfl (di_enum T.n_enumerate (da_cons (dp_ix (ix_P hu) (DP.b (dv 0)) (DP.b dc_int)) da_nil)) (dg_tup rfl (dgs_cons hN (dgs_cons hN dgs_nil))) (dss_one (ds_set (i := 1) hN (dp_op op_addP (DP.b (dv 1)) (DP.b (DF.p (df_comp rfl hN (DI.c (di_enum T.n_enumerate (da_cons (dv 3) da_nil))) (blkOk_by (own := [("column", 4), ("sign", 5)]) (by kernel_rfl)) (fun _ _ _ _ _ => (dg_tup rfl (dgs_cons hN (dgs_cons hN dgs_nil)))) (fun _ _ _ _ _ => (dts_one (dt_cmp (op_eqP hu) (DP.b (dv 5)) (DP.b dc_str) (nomark _)))) (fun _ _ _ _ _ => (dp_tup (da_cons (dv 2) (da_cons (dv 4) da_nil))))))))))) (dss_one (ds_ret (dv 1)))))
theorem ok__law_floors (T : Tx K mg) : FD Tb0 P w K mg base 1 "_law_floors" ["hall"] m__law_floors := fd_of (N := ["hall", "found", "row", "line", "column", "sign"]) T.f__law_floors sc__law_floors rfl (by__law_floors T)
theorem sc__law_some : FnScope ["hall", "number", "k", "cell"] ["hall", "number"] (defScope s__law_some) := ⟨rfl, rfl, rfl, by decide +kernel, rfl, by decide +kernel, by decide +kernel⟩
theorem by__law_some (T : Tx K mg) (h__law_floors : FD Tb0 P w K mg base 1 "_law_floors" ["hall"] m__law_floors) (h__law_drawn : FD Tb0 P w K mg base 1 "_law_drawn" ["number", "k"] m__law_drawn) (A : Around) (outer : List Env) (s0 : Shared) (H : Hp) (E : XK) (S : List Addr) (hT : LamX.Tabs Tb0 H) (hr : Room 1 (A.deeper (envOfC "_law_some" (defScope s__law_some) s0.heap.objs.size (He.ga K "_law_some") (.ref (cdA K (He.ga K "_law_some")))))) :
    DSs (cxOf (L2.CX P w) P w K mg base ["hall", "number", "k", "cell"] "_law_some" (defScope s__law_some) (He.ga K "_law_some") (.ref (cdA K (He.ga K "_law_some"))) A outer s0 H E) (fm0 Tb0 S H E) (defBody s__law_some) b__law_some := by
  have hu := hu100 hr
  have hF := fits0 (S := S) (E := E) hT
  have hN := sc__law_some.nd
  have tk : Takes (cxOf (L2.CX P w) P w K mg base ["hall", "number", "k", "cell"] "_law_some" (defScope s__law_some) (He.ga K "_law_some") (.ref (cdA K (He.ga K "_law_some"))) A outer s0 H E) (fun cls d _ H => E cls d H) := takes_of rfl rfl rfl rfl
  have hx : Passes (L2.CX P w) (cxOf (L2.CX P w) P w K mg base ["hall", "number", "k", "cell"] "_law_some" (defScope s__law_some) (He.ga K "_law_some") (.ref (cdA K (He.ga K "_law_some"))) A outer s0 H E) E := passes_call tk fun _ _ _ _ h => h
  have hp := passes_of (X := (cxOf (L2.CX P w) P w K mg base ["hall", "number", "k", "cell"] "_law_some" (defScope s__law_some) (He.ga K "_law_some") (.ref (cdA K (He.ga K "_law_some"))) A outer s0 H E)) rfl
  unfold b__law_some
  exact (dss_one (ds_ret (dp_callTy call_tupleP T.n_tuple (dab_cons (DP.b (DF.p (df_comp rfl hN (DI.c (di_enum T.n_enumerate (da_cons (dp_fn hF h__law_floors (hr.mono (by decide)) hx (da_cons (dv 0) da_nil)) da_nil))) (blkOk_by (own := [("k", 2), ("cell", 3)]) (by kernel_rfl)) (fun _ _ _ _ _ => (dg_tup rfl (dgs_cons hN (dgs_cons hN dgs_nil)))) (fun _ _ _ _ _ => (dts_one (dt_cmp (op_eqP hu) (DP.b (dp_op op_modP (DP.b (dp_op op_fdivP (DP.b (dp_fn hF.nox h__law_drawn (hr.mono (by decide)) passL (da_cons (dv 1) (da_cons (dv 2) da_nil)))) (DP.b dc_int))) (DP.b dc_int))) (DP.b dc_int) (nomark _)))) (fun _ _ _ _ _ => (dv 3))))) dab_nil))))
theorem ok__law_some (T : Tx K mg) (h__law_floors : FD Tb0 P w K mg base 1 "_law_floors" ["hall"] m__law_floors) (h__law_drawn : FD Tb0 P w K mg base 1 "_law_drawn" ["number", "k"] m__law_drawn) : FD Tb0 P w K mg base 2 "_law_some" ["hall", "number"] m__law_some := fd_of (N := ["hall", "number", "k", "cell"]) T.f__law_some sc__law_some rfl (by__law_some T h__law_floors h__law_drawn)
theorem sc__law_are_all : FnScope ["hall", "rooms", "every", "part", "due", "row", "line", "column", "sign"] ["hall", "rooms"] (defScope s__law_are_all) := ⟨rfl, rfl, rfl, by decide +kernel, rfl, by decide +kernel, by decide +kernel⟩
theorem by__law_are_all (T : Tx K mg) (A : Around) (outer : List Env) (s0 : Shared) (H : Hp) (E : XK) (S : List Addr) (hT : LamX.Tabs Tb0 H) (hr : Room 0 (A.deeper (envOfC "_law_are_all" (defScope s__law_are_all) s0.heap.objs.size (He.ga K "_law_are_all") (.ref (cdA K (He.ga K "_law_are_all")))))) :
    DSs (cxOf (L2.CX P w) P w K mg base ["hall", "rooms", "every", "part", "due", "row", "line", "column", "sign"] "_law_are_all" (defScope s__law_are_all) (He.ga K "_law_are_all") (.ref (cdA K (He.ga K "_law_are_all"))) A outer s0 H E) (fm0 Tb0 S H E) (defBody s__law_are_all) b__law_are_all := by
  have hu := hu100 hr
  have hF := fits0 (S := S) (E := E) hT
  have hN := sc__law_are_all.nd
  have tk : Takes (cxOf (L2.CX P w) P w K mg base ["hall", "rooms", "every", "part", "due", "row", "line", "column", "sign"] "_law_are_all" (defScope s__law_are_all) (He.ga K "_law_are_all") (.ref (cdA K (He.ga K "_law_are_all"))) A outer s0 H E) (fun cls d _ H => E cls d H) := takes_of rfl rfl rfl rfl
  have hx : Passes (L2.CX P w) (cxOf (L2.CX P w) P w K mg base ["hall", "rooms", "every", "part", "due", "row", "line", "column", "sign"] "_law_are_all" (defScope s__law_are_all) (He.ga K "_law_are_all") (.ref (cdA K (He.ga K "_law_are_all"))) A outer s0 H E) E := passes_call tk fun _ _ _ _ h => h
  have hp := passes_of (X := (cxOf (L2.CX P w) P w K mg base ["hall", "rooms", "every", "part", "due", "row", "line", "column", "sign"] "_law_are_all" (defScope s__law_are_all) (He.ga K "_law_are_all") (.ref (cdA K (He.ga K "_law_are_all"))) A outer s0 H E)) rfl
  unfold b__law_are_all b__law_are_all_2 b__law_are_all_1
  exact (dss_cons (ds_set (i := 2) hN (dp_tup da_nil)) (dss_cons (ds_for hp rfl (di_val (dv 1)) (dg_name hN) (dss_one (ds_set (i := 2) hN (dp_op op_addP (DP.b (dv 2)) (DP.b (dv 3)))))) (dss_cons (ds_set (i := 4) hN (DF.p (df_lst da_nil))) (dss_cons (ds_for hp rfl (di_enum T.n_enumerate (da_cons (dp_ix (ix_P hu) (DP.b (dv 0)) (DP.b dc_int)) da_nil)) (dg_tup rfl (dgs_cons hN (dgs_cons hN dgs_nil))) (dss_one (ds_set (i := 4) hN (dp_op op_addP (DP.b (dv 4)) (DP.b (DF.p (df_comp rfl hN (DI.c (di_enum T.n_enumerate (da_cons (dv 6) da_nil))) (blkOk_by (own := [("column", 7), ("sign", 8)]) (by kernel_rfl)) (fun _ _ _ _ _ => (dg_tup rfl (dgs_cons hN (dgs_cons hN dgs_nil)))) (fun _ _ _ _ _ => (dts_one (dt_cmp (op_inP hu) (DP.b (dv 8)) (DP.b dc_str) (by rfl)))) (fun _ _ _ _ _ => (dp_tup (da_cons (dv 5) (da_cons (dv 7) da_nil))))))))))) (dss_one (ds_ret (dp_cmp (op_eqP hu) (DP.b (dp_callB (call_sortP rfl) T.n_sorted (dab_cons (DP.b (dv 2)) dab_nil))) (DP.b (dv 4)) (nomark _))))))))
theorem ok__law_are_all (T : Tx K mg) : FD Tb0 P w K mg base 1 "_law_are_all" ["hall", "rooms"] m__law_are_all := fd_of (N := ["hall", "rooms", "every", "part", "due", "row", "line", "column", "sign"]) T.f__law_are_all sc__law_are_all rfl (by__law_are_all T)
theorem sc_law : FnScope ["script", "hall", "some", "more", "rooms", "number", "part", "one", "walk", "other", "way", "many", "back", "here", "there"] ["script"] (defScope s_law) := ⟨rfl, rfl, rfl, by decide +kernel, rfl, by decide +kernel, by decide +kernel⟩
theorem by_law (T : Tx K mg) (h__law_mixed : FD Tb0 P w K mg base 2 "_law_mixed" ["script", "k"] m__law_mixed) (h__law_hall : FD Tb0 P w K mg base 2 "_law_hall" ["number", "most"] m__law_hall) (h__law_some : FD Tb0 P w K mg base 2 "_law_some" ["hall", "number"] m__law_some) (h_parts : FD Tb0 P w K mg base 4 "parts" ["hall"] m_parts) (h__law_are_all : FD Tb0 P w K mg base 1 "_law_are_all" ["hall", "rooms"] m__law_are_all) (h__law_walk : FD Tb0 P w K mg base 4 "_law_walk" ["hall", "one", "number"] m__law_walk) (h_slyest : FD Tb0 P w K mg base 7 "slyest" ["hall", "lookers", "one", "other"] m_slyest) (h_seen_on : FD Tb0 P w K mg base 6 "seen_on" ["hall", "lookers", "way"] m_seen_on) (A : Around) (outer : List Env) (s0 : Shared) (H : Hp) (E : XK) (S : List Addr) (hT : LamX.Tabs Tb0 H) (hr : Room 7 (A.deeper (envOfC "law" (defScope s_law) s0.heap.objs.size (He.ga K "law") (.ref (cdA K (He.ga K "law")))))) :
    DSs (cxOf (L2.CX P w) P w K mg base ["script", "hall", "some", "more", "rooms", "number", "part", "one", "walk", "other", "way", "many", "back", "here", "there"] "law" (defScope s_law) (He.ga K "law") (.ref (cdA K (He.ga K "law"))) A outer s0 H E) (fm0 Tb0 S H E) (defBody s_law) b_law := by
  have hu := hu100 hr
  have hF := fits0 (S := S) (E := E) hT
  have hN := sc_law.nd
  have tk : Takes (cxOf (L2.CX P w) P w K mg base ["script", "hall", "some", "more", "rooms", "number", "part", "one", "walk", "other", "way", "many", "back", "here", "there"] "law" (defScope s_law) (He.ga K "law") (.ref (cdA K (He.ga K "law"))) A outer s0 H E) (fun cls d _ H => E cls d H) := takes_of rfl rfl rfl rfl
  have hx : Passes (L2.CX P w) (cxOf (L2.CX P w) P w K mg base ["script", "hall", "some", "more", "rooms", "number", "part", "one", "walk", "other", "way", "many", "back", "here", "there"] "law" (defScope s_law) (He.ga K "law") (.ref (cdA K (He.ga K "law"))) A outer s0 H E) E := passes_call tk fun _ _ _ _ h => h
  have hp := passes_of (X := (cxOf (L2.CX P w) P w K mg base ["script", "hall", "some", "more", "rooms", "number", "part", "one", "walk", "other", "way", "many", "back", "here", "there"] "law" (defScope s_law) (He.ga K "law") (.ref (cdA K (He.ga K "law"))) A outer s0 H E)) rfl
  unfold b_law b_law_1
  exact (dss_cons (ds_set (i := 1) hN (dp_fn hF h__law_hall (hr.mono (by decide)) hx (da_cons (dp_fn hF h__law_mixed (hr.mono (by decide)) hx (da_cons (dv 0) (da_cons dc_int da_nil))) (da_cons dc_int da_nil)))) (dss_cons (ds_set (i := 2) hN (dp_sl (DP.b (dp_fn hF h__law_some (hr.mono (by decide)) hx (da_cons (dv 1) (da_cons (dp_fn hF h__law_mixed (hr.mono (by decide)) hx (da_cons (dv 0) (da_cons dc_int da_nil))) da_nil)))) do_none (do_some (DP.b dc_int)))) (dss_cons (ds_set (i := 3) hN (dp_callTy call_tupleP T.n_tuple (dab_cons (DP.b (dp_sort64 rfl hu T.n_sorted T.n_set (DP.b (dp_op op_addP (DP.b (dv 2)) (DP.b (dp_sl (DP.b (dp_fn hF h__law_some (hr.mono (by decide)) hx (da_cons (dv 1) (da_cons (dp_fn hF h__law_mixed (hr.mono (by decide)) hx (da_cons (dv 0) (da_cons dc_int da_nil))) da_nil)))) do_none (do_some (DP.b dc_int)))))))) dab_nil))) (dss_cons (ds_set (i := 4) hN (dp_fn hF h_parts (hr.mono (by decide)) hx (da_cons (dv 1) da_nil))) (dss_cons (ds_if (dt_not (dt_val (dp_fn hF h__law_are_all (hr.mono (by decide)) hx (da_cons (dv 1) (da_cons (dv 4) da_nil))))) (dss_one (ds_ret dc_bl)) dss_nil) (dss_cons (ds_if (dt_cmp (op_eqP hu) (DP.b (dv 4)) (DP.b (dp_tup da_nil)) (nomark _)) (dss_one (ds_ret dc_bl)) dss_nil) (dss_cons (ds_set (i := 5) hN (dp_fn hF h__law_mixed (hr.mono (by decide)) hx (da_cons (dv 0) (da_cons dc_int da_nil)))) (dss_cons (ds_set (i := 6) hN (dp_ix (ix_P hu) (DP.b (dv 4)) (DP.b (dp_op op_modP (DP.b (dv 5)) (DP.b (dp_callB call_lenP T.n_len (dab_cons (DP.b (dv 4)) dab_nil))))))) (dss_cons (ds_set (i := 7) hN (dp_ix (ix_P hu) (DP.b (dv 6)) (DP.b (dp_op op_modP (DP.b (dp_op op_fdivP (DP.b (dv 5)) (DP.b dc_int))) (DP.b (dp_callB call_lenP T.n_len (dab_cons (DP.b (dv 6)) dab_nil))))))) (dss_cons (ds_set (i := 8) hN (dp_fn hF h__law_walk (hr.mono (by decide)) hx (da_cons (dv 1) (da_cons (dv 7) (da_cons (dp_fn hF h__law_mixed (hr.mono (by decide)) hx (da_cons (dv 0) (da_cons dc_int da_nil))) da_nil))))) (dss_cons (ds_set (i := 9) hN (dp_ix (ix_P hu) (DP.b (dv 8)) (DP.b (dp_un un_negP (DP.b dc_int))))) (dss_cons (ds_if (DW.t (dw_or (dt_cmp (op_notInP hu) (DP.b (dv 9)) (DP.b (dv 6)) (by rfl)) (dw_or1 (dt_cmp (op_neP hu) (DP.b (dp_callTy call_listP T.n_list (dab_cons (DP.b (dv 6)) dab_nil))) (DP.b (dp_sort64 rfl hu T.n_sorted T.n_set (DP.b (dv 6)))) (nomark _))))) (dss_one (ds_ret dc_bl)) dss_nil) (dss_cons (ds_set (i := 10) hN (dp_fn hF h_slyest (hr.mono (by decide)) hx (da_cons (dv 1) (da_cons (dv 2) (da_cons (dv 7) (da_cons (dv 9) da_nil)))))) (dss_cons (ds_if (DW.t (dw_or (dt_cmp (op_neP hu) (DP.b (dp_ix (ix_P hu) (DP.b (dv 10)) (DP.b dc_int))) (DP.b (dv 7)) (nomark _)) (dw_or (dt_cmp (op_neP hu) (DP.b (dp_ix (ix_P hu) (DP.b (dv 10)) (DP.b (dp_un un_negP (DP.b dc_int))))) (DP.b (dv 9)) (nomark _)) (dw_or1 (dt_cmp (op_neP hu) (DP.b (dp_len64 rfl hu T.n_len T.n_set (DP.b (dv 10)))) (DP.b (dp_callB call_lenP T.n_len (dab_cons (DP.b (dv 10)) dab_nil))) (nomark _)))))) (dss_one (ds_ret dc_bl)) dss_nil) (dss_cons (ds_for hp rfl (di_zip T.n_zip (da_cons (dp_sl (DP.b (dv 10)) do_none (do_some (DP.b (dp_un un_negP (DP.b dc_int))))) (da_cons (dp_sl (DP.b (dv 10)) (do_some (DP.b dc_int)) do_none) da_nil))) (dg_tup rfl (dgs_cons hN (dgs_cons hN dgs_nil))) (dss_one (ds_if (DW.t (dw_or (dt_cmp (op_neP hu) (DP.b (dp_op op_addP (DP.b (dp_callB call_absP T.n_abs (dab_cons (DP.b (dp_op op_subP (DP.b (dp_ix (ix_P hu) (DP.b (dv 13)) (DP.b dc_int))) (DP.b (dp_ix (ix_P hu) (DP.b (dv 14)) (DP.b dc_int))))) dab_nil))) (DP.b (dp_callB call_absP T.n_abs (dab_cons (DP.b (dp_op op_subP (DP.b (dp_ix (ix_P hu) (DP.b (dv 13)) (DP.b dc_int))) (DP.b (dp_ix (ix_P hu) (DP.b (dv 14)) (DP.b dc_int))))) dab_nil))))) (DP.b dc_int) (nomark _)) (dw_or1 (dt_cmp (op_notInP hu) (DP.b (dv 14)) (DP.b (dv 6)) (by rfl))))) (dss_one (ds_ret dc_bl)) dss_nil))) (dss_cons (ds_set (i := 11) hN (dp_fn hF h_seen_on (hr.mono (by decide)) hx (da_cons (dv 1) (da_cons (dv 2) (da_cons (dv 10) da_nil))))) (dss_cons (ds_set (i := 12) hN (dp_fn hF h_slyest (hr.mono (by decide)) hx (da_cons (dv 1) (da_cons (dv 2) (da_cons (dv 9) (da_cons (dv 7) da_nil)))))) (dss_cons (ds_if (DW.t (dw_or (dt_cmp (op_neP hu) (DP.b (dp_fn hF h_seen_on (hr.mono (by decide)) hx (da_cons (dv 1) (da_cons (dv 2) (da_cons (dv 12) da_nil))))) (DP.b (dv 11)) (nomark _)) (dw_or (dt_cmp (op_neP hu) (DP.b (dp_callB call_lenP T.n_len (dab_cons (DP.b (dv 12)) dab_nil))) (DP.b (dp_callB call_lenP T.n_len (dab_cons (DP.b (dv 10)) dab_nil))) (nomark _)) (dw_or1 (dt_cmp (op_neP hu) (DP.b (dp_fn hF h_seen_on (hr.mono (by decide)) hx (da_cons (dv 1) (da_cons (dv 2) (da_cons (dp_rev (DP.b (dv 10))) da_nil))))) (DP.b (dv 11)) (nomark _)))))) (dss_one (ds_ret dc_bl)) dss_nil) (dss_cons (ds_if (DW.t (dw_or (dt_cmp (op_ltP hu) (DP.b (dp_fn hF h_seen_on (hr.mono (by decide)) hx (da_cons (dv 1) (da_cons (dv 2) (da_cons (dv 8) da_nil))))) (DP.b (dv 11)) (nomark _)) (dw_or1 (dt_cmp (op_ltP hu) (DP.b (dp_callB call_lenP T.n_len (dab_cons (DP.b (dv 8)) dab_nil))) (DP.b (dp_callB call_lenP T.n_len (dab_cons (DP.b (dp_fn hF h_slyest (hr.mono (by decide)) hx (da_cons (dv 1) (da_cons (dp_tup da_nil) (da_cons (dv 7) (da_cons (dv 9) da_nil)))))) dab_nil))) (nomark _))))) (dss_one (ds_ret dc_bl)) dss_nil) (dss_cons (ds_if (DW.t (dw_and (dt_cmp (op_eqP hu) (DP.b (dp_fn hF h_seen_on (hr.mono (by decide)) hx (da_cons (dv 1) (da_cons (dv 2) (da_cons (dp_fn hF h_slyest (hr.mono (by decide)) hx (da_cons (dv 1) (da_cons (dp_tup da_nil) (da_cons (dv 7) (da_cons (dv 9) da_nil))))) da_nil))))) (DP.b (dv 11)) (nomark _)) (dw_and1 (dt_cmp (op_neP hu) (DP.b (dp_callB call_lenP T.n_len (dab_cons (DP.b (dv 10)) dab_nil))) (DP.b (dp_callB call_lenP T.n_len (dab_cons (DP.b (dp_fn hF h_slyest (hr.mono (by decide)) hx (da_cons (dv 1) (da_cons (dp_tup da_nil) (da_cons (dv 7) (da_cons (dv 9) da_nil)))))) dab_nil))) (nomark _))))) (dss_one (ds_ret dc_bl)) dss_nil) (dss_cons (ds_if (DW.t (dw_or (dt_cmp (op_ltP hu) (DP.b (dp_fn hF h_seen_on (hr.mono (by decide)) hx (da_cons (dv 1) (da_cons (dv 3) (da_cons (dp_fn hF h_slyest (hr.mono (by decide)) hx (da_cons (dv 1) (da_cons (dv 3) (da_cons (dv 7) (da_cons (dv 9) da_nil))))) da_nil))))) (DP.b (dv 11)) (nomark _)) (dw_or1 (dt_cmp (op_neP hu) (DP.b (dp_fn hF h_slyest (hr.mono (by decide)) hx (da_cons (dv 1) (da_cons (dv 2) (da_cons (dv 7) (da_cons (dv 7) da_nil)))))) (DP.b (dp_tup (da_cons (dv 7) da_nil))) (nomark _))))) (dss_one (ds_ret dc_bl)) dss_nil) (dss_one (ds_ret (dp_cmp (op_eqP hu) (DP.b (dp_fn hF h_seen_on (hr.mono (by decide)) hx (da_cons (dv 1) (da_cons (dp_tup da_nil) (da_cons (dv 10) da_nil))))) (DP.b dc_int) (nomark _)))))))))))))))))))))))))
theorem ok_law (T : Tx K mg) (h__law_mixed : FD Tb0 P w K mg base 2 "_law_mixed" ["script", "k"] m__law_mixed) (h__law_hall : FD Tb0 P w K mg base 2 "_law_hall" ["number", "most"] m__law_hall) (h__law_some : FD Tb0 P w K mg base 2 "_law_some" ["hall", "number"] m__law_some) (h_parts : FD Tb0 P w K mg base 4 "parts" ["hall"] m_parts) (h__law_are_all : FD Tb0 P w K mg base 1 "_law_are_all" ["hall", "rooms"] m__law_are_all) (h__law_walk : FD Tb0 P w K mg base 4 "_law_walk" ["hall", "one", "number"] m__law_walk) (h_slyest : FD Tb0 P w K mg base 7 "slyest" ["hall", "lookers", "one", "other"] m_slyest) (h_seen_on : FD Tb0 P w K mg base 6 "seen_on" ["hall", "lookers", "way"] m_seen_on) : FD Tb0 P w K mg base 8 "law" ["script"] m_law := fd_of (N := ["script", "hall", "some", "more", "rooms", "number", "part", "one", "walk", "other", "way", "many", "back", "here", "there"]) T.f_law sc_law rfl (by_law T h__law_mixed h__law_hall h__law_some h_parts h__law_are_all h__law_walk h_slyest h_seen_on)
theorem fn_law (T : Tx K mg) {fd : FuncData} (F : FunD K "law" "law" (defArgs s_law) (defBody s_law) (defScope s_law) [] [] (He.ga K "law") fd) (TB : ∀ p ∈ tf.map fun p => He.cT K p.1, LamX.TabB base mg p.1 p.2) : FnOk P w K mg base (L2.CX P w) 8 (He.ga K "law") fd ["script"] (spD K (tbs K tf) m_law) := by
  have h__law_drawn : FD (tbs K tf) P w K mg base 1 "_law_drawn" ["number", "k"] m__law_drawn := ok__law_drawn T
  have h__law_hall : FD (tbs K tf) P w K mg base 2 "_law_hall" ["number", "most"] m__law_hall := ok__law_hall T h__law_drawn
  have h_cells : FD (tbs K tf) P w K mg base 1 "cells" ["hall"] m_cells := ok_cells T
  have h_is_free : FD (tbs K tf) P w K mg base 1 "is_free" ["hall", "cell"] m_is_free := ok_is_free T
  have h_is_inside : FD (tbs K tf) P w K mg base 1 "is_inside" ["hall", "cell"] m_is_inside := ok_is_inside T
  have h_neighbours : FD (tbs K tf) P w K mg base 2 "neighbours" ["hall", "cell"] m_neighbours := ok_neighbours T h_is_inside h_is_free
  have h_part_of : FD (tbs K tf) P w K mg base 3 "part_of" ["hall", "cell"] m_part_of := ok_part_of T h_neighbours
  have h_parts : FD (tbs K tf) P w K mg base 4 "parts" ["hall"] m_parts := ok_parts T h_cells h_is_free h_part_of
  have h__law_cell_at : FD (tbs K tf) P w K mg base 1 "_law_cell_at" ["script", "k"] m__law_cell_at := ok__law_cell_at T
  have h__law_mixed : FD (tbs K tf) P w K mg base 2 "_law_mixed" ["script", "k"] m__law_mixed := ok__law_mixed T h__law_cell_at
  have h_need_cell : FD (tbs K tf) P w K mg base 2 "need_cell" ["hall", "cell"] m_need_cell := ok_need_cell T h_is_inside
  have h_sign_at : FD (tbs K tf) P w K mg base 3 "sign_at" ["hall", "cell"] m_sign_at := ok_sign_at T h_need_cell
  have h__law_walk : FD (tbs K tf) P w K mg base 4 "_law_walk" ["hall", "one", "number"] m__law_walk := ok__law_walk T h__law_drawn h_sign_at
  have h_is_near : FD (tbs K tf) P w K mg base 1 "is_near" ["hall", "one", "other"] m_is_near := ok_is_near T
  have h_side_of : FD (tbs K tf) P w K mg base 1 "side_of" ["one", "other", "spot"] m_side_of := ok_side_of T
  have h_is_crossed : FD (tbs K tf) P w K mg base 2 "is_crossed" ["one", "other", "cell"] m_is_crossed := ok_is_crossed T h_side_of
  have h_crossed : FD (tbs K tf) P w K mg base 3 "crossed" ["one", "other"] m_crossed := ok_crossed T h_is_crossed
  have h_sees : FD (tbs K tf) P w K mg base 4 "sees" ["hall", "one", "other"] m_sees := ok_sees T h_need_cell h_is_free h_is_near h_crossed
  have h_is_seen : FD (tbs K tf) P w K mg base 5 "is_seen" ["hall", "lookers", "cell"] m_is_seen := ok_is_seen T h_sees
  have h_costs_to : FD (tbs K tf) P w K mg base 6 "costs_to" ["hall", "lookers", "goal"] m_costs_to := ok_costs_to T h_part_of h_is_seen h_neighbours (TB _ (List.mem_cons_self ..)) (List.mem_cons_self ..) (fun p hp _ => by rw [List.mem_singleton.mp hp])
  have h_slyest : FD (tbs K tf) P w K mg base 7 "slyest" ["hall", "lookers", "one", "other"] m_slyest := ok_slyest T h_is_inside h_is_free h_costs_to h_is_seen h_neighbours
  have h_seen_on : FD (tbs K tf) P w K mg base 6 "seen_on" ["hall", "lookers", "way"] m_seen_on := ok_seen_on T h_is_seen
  have h__law_floors : FD (tbs K tf) P w K mg base 1 "_law_floors" ["hall"] m__law_floors := ok__law_floors T
  have h__law_some : FD (tbs K tf) P w K mg base 2 "_law_some" ["hall", "number"] m__law_some := ok__law_some T h__law_floors h__law_drawn
  have h__law_are_all : FD (tbs K tf) P w K mg base 1 "_law_are_all" ["hall", "rooms"] m__law_are_all := ok__law_are_all T
  exact fn_data F sc_law rfl (by_law T h__law_mixed h__law_hall h__law_some h_parts h__law_are_all h__law_walk h_slyest h_seen_on)
end
def d__law_drawn : He.DefD := ⟨("_law_drawn", none), "_law_drawn", "_law_drawn", defArgs s__law_drawn, defBody s__law_drawn, defScope s__law_drawn, [], []⟩
def d__law_hall : He.DefD := ⟨("_law_hall", none), "_law_hall", "_law_hall", defArgs s__law_hall, defBody s__law_hall, defScope s__law_hall, [], []⟩
def d_cells : He.DefD := ⟨("cells", none), "cells", "cells", defArgs s_cells, defBody s_cells, defScope s_cells, [], []⟩
def d_is_free : He.DefD := ⟨("is_free", none), "is_free", "is_free", defArgs s_is_free, defBody s_is_free, defScope s_is_free, [], []⟩
def d_is_inside : He.DefD := ⟨("is_inside", none), "is_inside", "is_inside", defArgs s_is_inside, defBody s_is_inside, defScope s_is_inside, [], []⟩
def d_neighbours : He.DefD := ⟨("neighbours", none), "neighbours", "neighbours", defArgs s_neighbours, defBody s_neighbours, defScope s_neighbours, [], []⟩
def d_part_of : He.DefD := ⟨("part_of", none), "part_of", "part_of", defArgs s_part_of, defBody s_part_of, defScope s_part_of, [], []⟩
def d_parts : He.DefD := ⟨("parts", none), "parts", "parts", defArgs s_parts, defBody s_parts, defScope s_parts, [], []⟩
def d__law_cell_at : He.DefD := ⟨("_law_cell_at", none), "_law_cell_at", "_law_cell_at", defArgs s__law_cell_at, defBody s__law_cell_at, defScope s__law_cell_at, [], []⟩
def d__law_mixed : He.DefD := ⟨("_law_mixed", none), "_law_mixed", "_law_mixed", defArgs s__law_mixed, defBody s__law_mixed, defScope s__law_mixed, [], []⟩
def d_need_cell : He.DefD := ⟨("need_cell", none), "need_cell", "need_cell", defArgs s_need_cell, defBody s_need_cell, defScope s_need_cell, [], []⟩
def d_sign_at : He.DefD := ⟨("sign_at", none), "sign_at", "sign_at", defArgs s_sign_at, defBody s_sign_at, defScope s_sign_at, [], []⟩
def d__law_walk : He.DefD := ⟨("_law_walk", none), "_law_walk", "_law_walk", defArgs s__law_walk, defBody s__law_walk, defScope s__law_walk, [], []⟩
def d_is_near : He.DefD := ⟨("is_near", none), "is_near", "is_near", defArgs s_is_near, defBody s_is_near, defScope s_is_near, [], []⟩
def d_side_of : He.DefD := ⟨("side_of", none), "side_of", "side_of", defArgs s_side_of, defBody s_side_of, defScope s_side_of, [], []⟩
def d_is_crossed : He.DefD := ⟨("is_crossed", none), "is_crossed", "is_crossed", defArgs s_is_crossed, defBody s_is_crossed, defScope s_is_crossed, [], []⟩
def d_crossed : He.DefD := ⟨("crossed", none), "crossed", "crossed", defArgs s_crossed, defBody s_crossed, defScope s_crossed, [], []⟩
def d_sees : He.DefD := ⟨("sees", none), "sees", "sees", defArgs s_sees, defBody s_sees, defScope s_sees, [], []⟩
def d_is_seen : He.DefD := ⟨("is_seen", none), "is_seen", "is_seen", defArgs s_is_seen, defBody s_is_seen, defScope s_is_seen, [], []⟩
def d_costs_to : He.DefD := ⟨("costs_to", none), "costs_to", "costs_to", defArgs s_costs_to, defBody s_costs_to, defScope s_costs_to, [], []⟩
def d_slyest : He.DefD := ⟨("slyest", none), "slyest", "slyest", defArgs s_slyest, defBody s_slyest, defScope s_slyest, [], []⟩
def d_seen_on : He.DefD := ⟨("seen_on", none), "seen_on", "seen_on", defArgs s_seen_on, defBody s_seen_on, defScope s_seen_on, [], []⟩
def d__law_floors : He.DefD := ⟨("_law_floors", none), "_law_floors", "_law_floors", defArgs s__law_floors, defBody s__law_floors, defScope s__law_floors, [], []⟩
def d__law_some : He.DefD := ⟨("_law_some", none), "_law_some", "_law_some", defArgs s__law_some, defBody s__law_some, defScope s__law_some, [], []⟩
def d__law_are_all : He.DefD := ⟨("_law_are_all", none), "_law_are_all", "_law_are_all", defArgs s__law_are_all, defBody s__law_are_all, defScope s__law_are_all, [], []⟩
def d_law : He.DefD := ⟨("law", none), "law", "law", defArgs s_law, defBody s_law, defScope s_law, [], []⟩
def fn : List He.DefD := [d__law_drawn, d__law_hall, d_cells, d_is_free, d_is_inside, d_neighbours, d_part_of, d_parts, d__law_cell_at, d__law_mixed, d_need_cell, d_sign_at, d__law_walk, d_is_near, d_side_of, d_is_crossed, d_crossed, d_sees, d_is_seen, d_costs_to, d_slyest, d_seen_on, d__law_floors, d__law_some, d__law_are_all, d_law]
def fa : List He.Fa := [.glo "_law_drawn", .glo "_law_hall", .glo "cells", .glo "is_free", .glo "is_inside", .glo "neighbours", .glo "part_of", .glo "parts", .glo "_law_cell_at", .glo "_law_mixed", .glo "need_cell", .glo "sign_at", .glo "_law_walk", .glo "is_near", .glo "side_of", .glo "is_crossed", .glo "crossed", .glo "sees", .glo "is_seen", .glo "costs_to", .glo "slyest", .glo "seen_on", .glo "_law_floors", .glo "_law_some", .glo "_law_are_all", .glo "law", .free "abs", .free "all", .free "any", .free "dict", .free "enumerate", .free "int", .free "len", .free "list", .free "max", .free "min", .free "range", .free "set", .free "sorted", .free "tuple", .free "zip", .glo "NoCell", .exc "NoCell", .glo "NoWay", .exc "NoWay"]
def gl : List (Str × D) := [("BLOCKING", (.gtup [(.str "#"), (.str "x")])), ("STEPS", (.gtup [(.gtup [(.int (-1)), (.int 0)]), (.gtup [(.int 0), (.int (-1))]), (.gtup [(.int 0), (.int 1)]), (.gtup [(.int 1), (.int 0)])]))]
def exq (K : PySem.W.Frag) : Bool := (gl.all fun p => globB K p.1 p.2) && (true && (true && true))
def tfn : List He.Defn := [("costs_to", none)]
abbrev R : PySem.W.OpenRow := PySem.W.OpenLaw.row PySem.Challenge.rw_lookhalls_k31_whole_slyest
abbrev hk : PySem.W.Hook := He.hookX 4 fa fn [] tfn exq
def ob (s : PySem.W.SharedT) : He.AlX := He.obsX 4 fa fn [] tfn exq (HandSHeadRun.getT s)
theorem ob_eq (s : PySem.W.SharedT) : ob s = hk.obs s.abs := He.obsX_eq (HandSHeadRun.getT_eq s)
def loose0 : List PySem.Str := ["LookError", "NoCell", "NoWay", "WALL", "SHUT", "BLOCKING", "is_inside", "need_cell", "sign_at", "is_free", "cells", "side_of", "is_crossed", "crossed", "is_near", "sees", "STEPS", "neighbours", "part_of", "parts", "is_seen", "seen_on", "costs_to", "slyest", "_law_cell_at", "_law_mixed", "_law_drawn", "_law_hall", "_law_floors", "_law_some"]
def loose1 : List PySem.Str := ["_law_walk", "_law_are_all"]
def loose : List PySem.Str := loose0 ++ loose1
theorem run (w : World) : HandSHeadRun.RunEq R (PySem.W.view R.prog [37]) hk ob 20000 loose w := by
  intro os
  kernel_rfl
theorem gl_at {K : PySem.W.Frag} (h : exq K = true) (i : Nat) {x : Str} {d : D} (e : gl[i]? = some (x, d) := by rfl) : globB K x d = true := List.all_eq_true.mp (He.ba h).1 (x, d) (List.mem_of_getElem? e)
theorem tx_of {w : World} {K : PySem.W.Frag} {h : Heap} {mg : Str → Option Value} (X : K.In h) (G : h.Ns mainGlobals mg) (c : He.SaysX fa fn [] tfn exq w h K) : Tx K mg where
  f__law_drawn := ft_of X G (c.t.d.fact 0 (f := .glo "_law_drawn")) (c.t.d.def_ 0 (d := d__law_drawn)) fun _ _ _ _ _ _ us hl => match us, hl with | [_, _], _ => rfl
  f__law_hall := ft_of X G (c.t.d.fact 1 (f := .glo "_law_hall")) (c.t.d.def_ 1 (d := d__law_hall)) fun _ _ _ _ _ _ us hl => match us, hl with | [_, _], _ => rfl
  f_cells := ft_of X G (c.t.d.fact 2 (f := .glo "cells")) (c.t.d.def_ 2 (d := d_cells)) fun _ _ _ _ _ _ us hl => match us, hl with | [_], _ => rfl
  f_is_free := ft_of X G (c.t.d.fact 3 (f := .glo "is_free")) (c.t.d.def_ 3 (d := d_is_free)) fun _ _ _ _ _ _ us hl => match us, hl with | [_, _], _ => rfl
  f_is_inside := ft_of X G (c.t.d.fact 4 (f := .glo "is_inside")) (c.t.d.def_ 4 (d := d_is_inside)) fun _ _ _ _ _ _ us hl => match us, hl with | [_, _], _ => rfl
  f_neighbours := ft_of X G (c.t.d.fact 5 (f := .glo "neighbours")) (c.t.d.def_ 5 (d := d_neighbours)) fun _ _ _ _ _ _ us hl => match us, hl with | [_, _], _ => rfl
  f_part_of := ft_of X G (c.t.d.fact 6 (f := .glo "part_of")) (c.t.d.def_ 6 (d := d_part_of)) fun _ _ _ _ _ _ us hl => match us, hl with | [_, _], _ => rfl
  f_parts := ft_of X G (c.t.d.fact 7 (f := .glo "parts")) (c.t.d.def_ 7 (d := d_parts)) fun _ _ _ _ _ _ us hl => match us, hl with | [_], _ => rfl
  f__law_cell_at := ft_of X G (c.t.d.fact 8 (f := .glo "_law_cell_at")) (c.t.d.def_ 8 (d := d__law_cell_at)) fun _ _ _ _ _ _ us hl => match us, hl with | [_, _], _ => rfl
  f__law_mixed := ft_of X G (c.t.d.fact 9 (f := .glo "_law_mixed")) (c.t.d.def_ 9 (d := d__law_mixed)) fun _ _ _ _ _ _ us hl => match us, hl with | [_, _], _ => rfl
  f_need_cell := ft_of X G (c.t.d.fact 10 (f := .glo "need_cell")) (c.t.d.def_ 10 (d := d_need_cell)) fun _ _ _ _ _ _ us hl => match us, hl with | [_, _], _ => rfl
  f_sign_at := ft_of X G (c.t.d.fact 11 (f := .glo "sign_at")) (c.t.d.def_ 11 (d := d_sign_at)) fun _ _ _ _ _ _ us hl => match us, hl with | [_, _], _ => rfl
  f__law_walk := ft_of X G (c.t.d.fact 12 (f := .glo "_law_walk")) (c.t.d.def_ 12 (d := d__law_walk)) fun _ _ _ _ _ _ us hl => match us, hl with | [_, _, _], _ => rfl
  f_is_near := ft_of X G (c.t.d.fact 13 (f := .glo "is_near")) (c.t.d.def_ 13 (d := d_is_near)) fun _ _ _ _ _ _ us hl => match us, hl with | [_, _, _], _ => rfl
  f_side_of := ft_of X G (c.t.d.fact 14 (f := .glo "side_of")) (c.t.d.def_ 14 (d := d_side_of)) fun _ _ _ _ _ _ us hl => match us, hl with | [_, _, _], _ => rfl
  f_is_crossed := ft_of X G (c.t.d.fact 15 (f := .glo "is_crossed")) (c.t.d.def_ 15 (d := d_is_crossed)) fun _ _ _ _ _ _ us hl => match us, hl with | [_, _, _], _ => rfl
  f_crossed := ft_of X G (c.t.d.fact 16 (f := .glo "crossed")) (c.t.d.def_ 16 (d := d_crossed)) fun _ _ _ _ _ _ us hl => match us, hl with | [_, _], _ => rfl
  f_sees := ft_of X G (c.t.d.fact 17 (f := .glo "sees")) (c.t.d.def_ 17 (d := d_sees)) fun _ _ _ _ _ _ us hl => match us, hl with | [_, _, _], _ => rfl
  f_is_seen := ft_of X G (c.t.d.fact 18 (f := .glo "is_seen")) (c.t.d.def_ 18 (d := d_is_seen)) fun _ _ _ _ _ _ us hl => match us, hl with | [_, _, _], _ => rfl
  f_costs_to := ft_of X G (c.t.d.fact 19 (f := .glo "costs_to")) (c.t.d.def_ 19 (d := d_costs_to)) fun _ _ _ _ _ _ us hl => match us, hl with | [_, _, _], _ => rfl
  f_slyest := ft_of X G (c.t.d.fact 20 (f := .glo "slyest")) (c.t.d.def_ 20 (d := d_slyest)) fun _ _ _ _ _ _ us hl => match us, hl with | [_, _, _, _], _ => rfl
  f_seen_on := ft_of X G (c.t.d.fact 21 (f := .glo "seen_on")) (c.t.d.def_ 21 (d := d_seen_on)) fun _ _ _ _ _ _ us hl => match us, hl with | [_, _, _], _ => rfl
  f__law_floors := ft_of X G (c.t.d.fact 22 (f := .glo "_law_floors")) (c.t.d.def_ 22 (d := d__law_floors)) fun _ _ _ _ _ _ us hl => match us, hl with | [_], _ => rfl
  f__law_some := ft_of X G (c.t.d.fact 23 (f := .glo "_law_some")) (c.t.d.def_ 23 (d := d__law_some)) fun _ _ _ _ _ _ us hl => match us, hl with | [_, _], _ => rfl
  f__law_are_all := ft_of X G (c.t.d.fact 24 (f := .glo "_law_are_all")) (c.t.d.def_ 24 (d := d__law_are_all)) fun _ _ _ _ _ _ us hl => match us, hl with | [_, _], _ => rfl
  f_law := ft_of X G (c.t.d.fact 25 (f := .glo "law")) (c.t.d.def_ 25 (d := d_law)) fun _ _ _ _ _ _ us hl => match us, hl with | [_], _ => rfl
  n_abs := He.free_ok X G (c.t.d.fact 26 (f := .free "abs"))
  n_all := He.free_ok X G (c.t.d.fact 27 (f := .free "all"))
  n_any := He.free_ok X G (c.t.d.fact 28 (f := .free "any"))
  n_dict := He.free_ok X G (c.t.d.fact 29 (f := .free "dict"))
  n_enumerate := He.free_ok X G (c.t.d.fact 30 (f := .free "enumerate"))
  n_int := He.free_ok X G (c.t.d.fact 31 (f := .free "int"))
  n_len := He.free_ok X G (c.t.d.fact 32 (f := .free "len"))
  n_list := He.free_ok X G (c.t.d.fact 33 (f := .free "list"))
  n_max := He.free_ok X G (c.t.d.fact 34 (f := .free "max"))
  n_min := He.free_ok X G (c.t.d.fact 35 (f := .free "min"))
  n_range := He.free_ok X G (c.t.d.fact 36 (f := .free "range"))
  n_set := He.free_ok X G (c.t.d.fact 37 (f := .free "set"))
  n_sorted := He.free_ok X G (c.t.d.fact 38 (f := .free "sorted"))
  n_tuple := He.free_ok X G (c.t.d.fact 39 (f := .free "tuple"))
  n_zip := He.free_ok X G (c.t.d.fact 40 (f := .free "zip"))
  g_BLOCKING := glob_of X G (gl_at c.more 0)
  g_STEPS := glob_of X G (gl_at c.more 1)
  e_NoCell := exc_of X G (c.t.d.fact 41 (f := .glo "NoCell")) (c.t.d.fact 42 (f := .exc "NoCell"))
  e_NoWay := exc_of X G (c.t.d.fact 43 (f := .glo "NoWay")) (c.t.d.fact 44 (f := .exc "NoWay"))
end Lw

set_option Elab.async false
set_option linter.all false
set_option maxRecDepth 100000
set_option maxHeartbeats 1000000
namespace Lw
open PySem PySem.Spec PyProof.Rows L2 DL
theorem four_abs {a b : Cell} (h : b ∈ four a) : (a.1 - b.1).natAbs + (a.2 - b.2).natAbs = 1 := by
  unfold four at h
  simp only [List.mem_cons, List.not_mem_nil, or_false] at h
  rcases h with rfl | rfl | rfl | rfl <;> simp <;> omega
theorem Wy.zip {g : Hall} {a b : Cell} {w : List Cell} (h : Wy g a b w) : ∀ p ∈ w.dropLast.zip (w.drop 1), p.2 ∈ four p.1 ∧ p.2 ∈ w := by
  induction h with
  | one _ => simp
  | @step a b c w ka d hw ih =>
    obtain ⟨r, rfl⟩ := hw.head
    intro p hp
    simp only [List.dropLast_cons_cons, List.drop_succ_cons, List.drop_zero, List.zip_cons_cons, List.mem_cons] at hp
    rcases hp with rfl | hp
    · exact ⟨(List.mem_filter.mp (mem_nbr.mpr ⟨hw.ok1, d⟩)).1, by simp⟩
    · obtain ⟨h1, h2⟩ := ih p (by simpa using hp)
      exact ⟨h1, List.mem_cons_of_mem _ h2⟩
theorem seenN_nil (g : Hall) (w : List Cell) : seenN g [] w = 0 := by
  unfold seenN seenB
  simp
theorem seenN_mono {g : Hall} {ls ms : List Cell} (h : ∀ l ∈ ls, l ∈ ms) (w : List Cell) : seenN g ls w ≤ seenN g ms w := by
  unfold seenN
  induction w with
  | nil => simp
  | cons x r ih =>
    have : seenB g ls x = true → seenB g ms x = true := fun q => by
      unfold seenB at q ⊢
      obtain ⟨l, h1, h2⟩ := List.any_eq_true.mp q
      exact List.any_eq_true.mpr ⟨l, h l h1, h2⟩
    rw [List.filter_cons, List.filter_cons]
    cases c1 : seenB g ls x with
    | true =>
      rw [this c1]
      simp
      omega
    | false =>
      cases c2 : seenB g ms x with
      | true => simp; omega
      | false => simpa using ih
theorem Best.seen_le {g : Hall} {ls : List Cell} {a b : Cell} {w v : List Cell} (h : Best g ls a b w) (hv : Wy g a b v) : seenN g ls w ≤ seenN g ls v := by
  have := h.2 v hv
  unfold leW worthC at this
  simp only at this
  omega
theorem Best.self {g : Hall} {ls : List Cell} {a : Cell} {w : List Cell} (h : Best g ls a a w) : w = [a] := by
  have nd := h.nodup
  obtain ⟨r, rfl⟩ := h.1.head
  have l := h.1.last
  cases r with
  | nil => rfl
  | cons x r =>
    rw [List.getLast?_cons_cons] at l
    exact ((List.nodup_cons.mp nd).1 (List.mem_of_getLast? l)).elim
theorem atI_last {xs : List Cell} {b : Cell} (h : xs.getLast? = some b) : atI (xs.map cellD) (-1) = some (cellD b) := by
  obtain ⟨r, rfl⟩ : ∃ r, xs = r ++ [b] := by
    have ne : xs ≠ [] := fun z => by rw [z] at h; cases h
    refine ⟨xs.dropLast, ?_⟩
    have q := List.dropLast_concat_getLast ne
    rw [List.getLast?_eq_some_getLast ne] at h
    rw [Option.some.inj h] at q
    exact q.symm
  rw [List.map_append]
  exact tup_last _ _
theorem cut_ends {w : List Cell} : DL.cutD (w.map cellD) none (some (-1)) = w.dropLast.map cellD ∧ DL.cutD (w.map cellD) (some 1) none = (w.drop 1).map cellD := by
  constructor
  · unfold DL.cutD
    cases w with
    | nil => rfl
    | cons a r => rw [List.length_map, sIx_m1 _ _ (by simp), sIx_no, List.drop_zero, Nat.sub_zero, ← List.map_take, List.dropLast_eq_take]
  · unfold DL.cutD
    cases w with
    | nil => rfl
    | cons a r => rw [List.length_map, sIx_1 _ _ (by simp), sIx_no, List.take_of_length_le (by simp), ← List.map_drop]
theorem loop {p : List Cell} {w : List Cell} (hz : ∀ q ∈ w.dropLast.zip (w.drop 1), q.2 ∈ four q.1 ∧ q.2 ∈ w) (hp : ∀ c ∈ w, c ∈ p) (A0 A1 A2 A3 A4 A5 A7 A8 A9 A10 A11 A12 x13 x14 : DL.Slot) :
    ∃ y13 y14, forL (.tp [13, 14]) b_law_1 ((w.dropLast.zip (w.drop 1)).map fun q => D.tup [cellD q.1, cellD q.2]) [A0, A1, A2, A3, A4, A5, .fz (.tup (p.map cellD)), A7, A8, A9, A10, A11, A12, x13, x14] =
      .nx [A0, A1, A2, A3, A4, A5, .fz (.tup (p.map cellD)), A7, A8, A9, A10, A11, A12, y13, y14] := by
  obtain ⟨ρ', h1, y13, y14, rfl⟩ := forL_ix0 (t := .tp [13, 14]) (body := b_law_1) (fun q : Cell × Cell => D.tup [cellD q.1, cellD q.2]) (fun _ ρ => ∃ y13 y14, ρ = [A0, A1, A2, A3, A4, A5, .fz (.tup (p.map cellD)), A7, A8, A9, A10, A11, A12, y13, y14]) (w.dropLast.zip (w.drop 1))
    [A0, A1, A2, A3, A4, A5, .fz (.tup (p.map cellD)), A7, A8, A9, A10, A11, A12, x13, x14] ⟨_, _, rfl⟩ (by
      rintro i ⟨a, b⟩ ρ hi ⟨y13, y14, rfl⟩
      obtain ⟨f1, f2⟩ := hz _ (List.mem_of_getElem? hi)
      have ab : (a.1 - b.1).natAbs + (a.2 - b.2).natAbs = 1 := four_abs f1
      have ip : dNotIn (cellD b) (.tup (p.map cellD)) = some (.bl false) := by
        rw [dNotIn_cells, decide_eq_true (hp b f2)]
        rfl
      generalize p.map cellD = P at *
      refine ⟨_, [A0, A1, A2, A3, A4, A5, .fz (.tup P), A7, A8, A9, A10, A11, A12, .fz (cellD a), .fz (cellD b)], rfl, .inl ?_, ⟨_, _, rfl⟩⟩
      unfold b_law_1
      refine (q_no1 ?_).trans rfl
      simp [ip]
      omega)
  exact ⟨_, _, h1⟩
theorem law_true (ns : List Int) (_ : ns.length ≤ 63) : m_law [.scr ns] = .ok (.bl true) := by
  have m0 := mixN_range ns 0
  have hg := e_law_hall (n := mixN ns 0) (m := 8) m0.1 (by decide) (by decide)
  have ok : (hallOf (mixN ns 0) 8).Ok := hallOf_ok m0.1 (by decide) (by decide)
  generalize hallOf (mixN ns 0) 8 = g at *
  have so := e_law_some ok (mixN ns 1)
  have so2 := e_law_some ok (mixN ns 2)
  have hl0 : ∀ k, ∀ c ∈ someL g k, g.ins c = true := fun k c hc => (mem_floors.mp (someL_mem c hc)).1
  have sl := some_len g ok
  have hk1 := hl0 (mixN ns 1)
  have hk2 := hl0 (mixN ns 2)
  have sl1 := sl (mixN ns 1)
  have sl2 := sl (mixN ns 2)
  generalize someL g (mixN ns 1) = ls0 at *
  generalize someL g (mixN ns 2) = ms0 at *
  have cutm : ∀ (xs : List Cell) (k : Int), (∀ c ∈ xs, g.ins c = true) → xs.length ≤ 64 → ∃ ys : List Cell, DL.cutD (xs.map cellD) none (some k) = ys.map cellD ∧ (∀ c ∈ ys, g.ins c = true) ∧ ys.length ≤ 64 := fun xs k h1 h2 =>
    ⟨_, cutD_map cellD xs none (some k), fun c hc => h1 c (List.mem_of_mem_drop (List.mem_of_mem_take hc)), by
      refine Nat.le_trans (List.length_take_le' _ _) ?_
      rw [List.length_drop]
      omega⟩
  obtain ⟨ls, ec, hl, hn1⟩ := cutm ls0 5 hk1 sl1
  obtain ⟨ms, ec2, hm, hn2⟩ := cutm ms0 3 hk2 sl2
  have inl : ∀ c ∈ ddP (ls ++ ms), c ∈ cellsL g := fun c hc => by
    rcases List.mem_append.mp (mem_ddP.mp hc) with h | h
    · exact mem_cells.mpr (hl c h)
    · exact mem_cells.mpr (hm c h)
  have d64 : (ddP (ls ++ ms)).length ≤ 64 := Nat.le_trans (nodup_le (ddP_nodup _) inl) (cells_len64 ok)
  have s64 := sort64_cells d64
  have hms : ∀ c ∈ sortP (ddP (ls ++ ms)), g.ins c = true := fun c hc => mem_cells.mp (inl c (mem_sortP.mp hc))
  have hsub : ∀ c ∈ ls, c ∈ sortP (ddP (ls ++ ms)) := fun c hc => mem_sortP.mpr (mem_ddP.mpr (List.mem_append_left _ hc))
  generalize sortP (ddP (ls ++ ms)) = more at *
  have da : dAdd (.tup (ls.map cellD)) (.tup (ms.map cellD)) = some (.tup ((ls ++ ms).map cellD)) := by
    rw [dAdd_tup (by simp; omega), List.map_append]
  have pt := e_parts ok
  have pall := e_law_are_all ok
  have pm := fun p (h : p ∈ partsL g) => part_mem ok h
  have pcl : ∀ p ∈ partsL g, Rising p ∧ ∀ a ∈ p, ∀ b, Reach g a b → b ∈ p := fun p h => by
    obtain ⟨a, ha, rfl⟩ := ((parts_spec ok).2 p).mp h
    obtain ⟨r1, r2⟩ := part_spec ok ha
    exact ⟨r1, fun c hc d hd => (r2 d).mpr (((r2 c).mp hc).trans hd)⟩
  generalize partsL g = ps at *
  show outOf (b_law (rho0 15 [.scr ns])) = _
  simp [rho0]
  unfold b_law
  ((first | (refine (congrArg outOf (q_set (d := ?_) ?_)).trans ?_; rotate_left; focus (simp [hg]; try exact rfl)) | (refine (congrArg outOf (q_drop (d := ?_) ?_)).trans ?_; rotate_left; focus (simp [hg]; try exact rfl)) | (refine (congrArg outOf (q_new (d := ?_) ?_)).trans ?_; rotate_left; focus (simp [hg]; try exact rfl)) | (refine (congrArg outOf (q_par (x := ?_) (y := ?_) ?_)).trans ?_; rotate_left 2; focus (simp [hg]; try exact ⟨rfl, rfl⟩)) | (refine (congrArg outOf (q_unp (d := ?_) (ρ' := ?_) ?_ ?_)).trans ?_; rotate_left 2; focus (simp [hg]; try exact rfl); focus (simp [hg]; try exact rfl)) | (refine (congrArg outOf (q_pass ?_)).trans ?_; focus (simp [hg]; done)) | (refine (congrArg outOf (q_ret (d := ?_) ?_)).trans ?_; rotate_left; focus (simp [hg]; try exact rfl))); try simp only [List.set_cons_succ, List.set_cons_zero])
  ((first | (refine (congrArg outOf (q_set (d := ?_) ?_)).trans ?_; rotate_left; focus (simp [so, ec]; try exact rfl)) | (refine (congrArg outOf (q_drop (d := ?_) ?_)).trans ?_; rotate_left; focus (simp [so, ec]; try exact rfl)) | (refine (congrArg outOf (q_new (d := ?_) ?_)).trans ?_; rotate_left; focus (simp [so, ec]; try exact rfl)) | (refine (congrArg outOf (q_par (x := ?_) (y := ?_) ?_)).trans ?_; rotate_left 2; focus (simp [so, ec]; try exact ⟨rfl, rfl⟩)) | (refine (congrArg outOf (q_unp (d := ?_) (ρ' := ?_) ?_ ?_)).trans ?_; rotate_left 2; focus (simp [so, ec]; try exact rfl); focus (simp [so, ec]; try exact rfl)) | (refine (congrArg outOf (q_pass ?_)).trans ?_; focus (simp [so, ec]; done)) | (refine (congrArg outOf (q_ret (d := ?_) ?_)).trans ?_; rotate_left; focus (simp [so, ec]; try exact rfl))); try simp only [List.set_cons_succ, List.set_cons_zero])
  refine (congrArg outOf (q_set (d := .tup (more.map cellD)) (by
    generalize (ls ++ ms).map cellD = LM at *
    generalize more.map cellD = MO at *
    simp [so2, ec2, da, s64]))).trans ?_
  simp only [List.set_cons_succ, List.set_cons_zero]
  ((first | (refine (congrArg outOf (q_set (d := ?_) ?_)).trans ?_; rotate_left; focus (simp [pt]; try exact rfl)) | (refine (congrArg outOf (q_drop (d := ?_) ?_)).trans ?_; rotate_left; focus (simp [pt]; try exact rfl)) | (refine (congrArg outOf (q_new (d := ?_) ?_)).trans ?_; rotate_left; focus (simp [pt]; try exact rfl)) | (refine (congrArg outOf (q_par (x := ?_) (y := ?_) ?_)).trans ?_; rotate_left 2; focus (simp [pt]; try exact ⟨rfl, rfl⟩)) | (refine (congrArg outOf (q_unp (d := ?_) (ρ' := ?_) ?_ ?_)).trans ?_; rotate_left 2; focus (simp [pt]; try exact rfl); focus (simp [pt]; try exact rfl)) | (refine (congrArg outOf (q_pass ?_)).trans ?_; focus (simp [pt]; done)) | (refine (congrArg outOf (q_ret (d := ?_) ?_)).trans ?_; rotate_left; focus (simp [pt]; try exact rfl))); try simp only [List.set_cons_succ, List.set_cons_zero])
  refine (congrArg outOf (q_pass ?_)).trans ?_
  · generalize ps.map partD = PD at *
    simp [pall]
  have d0 := dEq_parts0 ps
  by_cases hz : ps = []
  · have d0 : dEq (.tup (ps.map partD)) (.tup []) = some (.bl true) := by rw [d0]; simp [hz]
    generalize ps.map partD = PD at *
    simp [d0]
  · have d0 : dEq (.tup (ps.map partD)) (.tup []) = some (.bl false) := by rw [d0]; simp [hz]
    have hlen : 0 < ps.length := List.length_pos_iff.mpr hz
    have lp : dLen [.tup (ps.map partD)] = some (.int (ps.length : Nat)) := by
      show some (D.int ((ps.map partD).length : Nat)) = _
      rw [List.length_map]
    obtain ⟨p, hp, ep⟩ := pick_at partD hz (mixN ns 3)
    obtain ⟨p1, p2, p3⟩ := pm p hp
    obtain ⟨pr, pc⟩ := pcl p hp
    have plen : 0 < p.length := List.length_pos_iff.mpr p1
    have lq : dLen [.tup (p.map cellD)] = some (.int (p.length : Nat)) := by
      show some (D.int ((p.map cellD).length : Nat)) = _
      rw [List.length_map]
    obtain ⟨one, ho, eo⟩ := pick_at cellD p1 (mixN ns 3 / 16)
    have m1 := dMod_len (n := mixN ns 3) hlen
    have m2 := dMod_len (n := mixN ns 3 / 16) plen
    have epd : partD p = .tup (p.map cellD) := rfl
    rw [epd] at ep
    obtain ⟨wk, other, ewk, hwk, lwk⟩ := e_law_walk ok (p2 one ho) (mixN ns 4)
    have he : other ∈ p := pc one ho other hwk.reach
    have sp64 : (ddP p).length ≤ 64 := Nat.le_trans (nodup_le (ddP_nodup _) fun c hc => mem_cells.mpr (ok_ins (p2 c (mem_ddP.mp hc)))) (cells_len64 ok)
    have sp := sort64_cells sp64
    rw [ddP_id pr.nodup, sortP_id pr] at sp
    have inp : dNotIn (cellD other) (.tup (p.map cellD)) = some (.bl false) := by
      rw [dNotIn_cells, decide_eq_true he]
      rfl
    have neq : dNe (.lst (p.map cellD)) (.lst (p.map cellD)) = some (.bl false) := by
      rw [dNe_cellsL, decide_eq_true rfl]
      rfl
    have lo := fun (w : List Cell) (h1 : ∀ q ∈ w.dropLast.zip (w.drop 1), q.2 ∈ four q.1 ∧ q.2 ∈ w) (h2 : ∀ c ∈ w, c ∈ p) => loop h1 h2
    generalize ps.map partD = PD at *
    generalize p.map cellD = QD at *
    refine (congrArg outOf (q_pass ?_)).trans ?_
    · simp [d0]
    ((first | (refine (congrArg outOf (q_set (d := ?_) ?_)).trans ?_; rotate_left; focus (simp []; try exact rfl)) | (refine (congrArg outOf (q_drop (d := ?_) ?_)).trans ?_; rotate_left; focus (simp []; try exact rfl)) | (refine (congrArg outOf (q_new (d := ?_) ?_)).trans ?_; rotate_left; focus (simp []; try exact rfl)) | (refine (congrArg outOf (q_par (x := ?_) (y := ?_) ?_)).trans ?_; rotate_left 2; focus (simp []; try exact ⟨rfl, rfl⟩)) | (refine (congrArg outOf (q_unp (d := ?_) (ρ' := ?_) ?_ ?_)).trans ?_; rotate_left 2; focus (simp []; try exact rfl); focus (simp []; try exact rfl)) | (refine (congrArg outOf (q_pass ?_)).trans ?_; focus (simp []; done)) | (refine (congrArg outOf (q_ret (d := ?_) ?_)).trans ?_; rotate_left; focus (simp []; try exact rfl))); try simp only [List.set_cons_succ, List.set_cons_zero])
    refine (congrArg outOf (q_set (d := .tup QD) (by simp [lp, m1, ep]))).trans ?_
    simp only [List.set_cons_succ, List.set_cons_zero]
    refine (congrArg outOf (q_set (d := cellD one) (by simp [lq, m2, eo]))).trans ?_
    simp only [List.set_cons_succ, List.set_cons_zero]
    have lastw := atI_last hwk.last
    refine (congrArg outOf (q_set (d := .tup (wk.map cellD)) (by simp [ewk]))).trans ?_
    simp only [List.set_cons_succ, List.set_cons_zero]
    have lwkd : dLen [.tup (wk.map cellD)] = some (.int (wk.length : Nat)) := by
      show some (D.int ((wk.map cellD).length : Nat)) = _
      rw [List.length_map]
    have swk := e_seen_on ok hl hwk.ins
    refine (congrArg outOf (q_set (d := cellD other) (by
      generalize wk.map cellD = WK at *
      simp [lastw]))).trans ?_
    simp only [List.set_cons_succ, List.set_cons_zero]
    refine (congrArg outOf (q_pass ?_)).trans ?_
    · simp [inp, sp, neq]
    obtain ⟨w, ew, hb⟩ := (e_slyest ok hl one other).2.2 (p2 one ho) hwk.reach
    obtain ⟨v, ev, hv⟩ := (e_slyest ok hl other one).2.2 (p2 other he) (p3 other he one ho)
    obtain ⟨u, eu, hu⟩ := (e_slyest ok (ls := []) (by simp) one other).2.2 (p2 one ho) hwk.reach
    obtain ⟨x, ex, hx⟩ := (e_slyest ok hms one other).2.2 (p2 one ho) hwk.reach
    obtain ⟨y, ey, hy⟩ := (e_slyest ok hl one one).2.2 (p2 one ho) .refl
    have ey1 := hy.self
    subst ey1
    have w64 := hb.len64 ok
    -- what is asked, in plain words
    have sw := e_seen_on ok hl hb.1.ins
    have sv := e_seen_on ok hl hv.1.ins
    have sr := e_seen_on ok hl hb.1.rev.ins
    have su := e_seen_on ok hl hu.1.ins
    have sx := e_seen_on ok hms hx.1.ins
    have s0 := e_seen_on ok (ls := []) (by simp) hb.1.ins
    rw [seenN_nil] at s0
    have wv : worthC g ls v = worthC g ls w := by
      have a1 := hv.2 _ hb.1.rev
      have a2 := hb.2 _ hv.1.rev
      rw [worth_rev] at a1 a2
      exact leW_anti a1 a2
    have wv1 : (seenN g ls v : Int) = seenN g ls w := congrArg Prod.fst wv
    have wv2 : (v.length : Int) = w.length := congrArg Prod.snd wv
    have wr1 : (seenN g ls w.reverse : Int) = seenN g ls w := congrArg Prod.fst (worth_rev (g := g) (ls := ls) (w := w))
    have wk1 : seenN g ls w ≤ seenN g ls wk := hb.seen_le hwk
    have uk : u.length ≤ wk.length := by
      have := hu.2 _ hwk
      unfold leW worthC at this
      simp only [seenN_nil] at this
      omega
    have uw : seenN g ls u = seenN g ls w → w.length = u.length := fun e => by
      have a1 := hb.2 _ hu.1
      have a2 := hu.2 _ hb.1
      unfold leW worthC at a1 a2
      simp only [seenN_nil] at a1 a2
      omega
    have xm : seenN g ls w ≤ seenN g more x := Nat.le_trans (hb.seen_le hx.1) (seenN_mono hsub x)
    have at0 : atI (w.map cellD) 0 = some (cellD one) := by
      obtain ⟨r, er⟩ := hb.1.head
      exact atI_map cellD (i := 0) (by rw [er]; rfl)
    have atm := atI_last hb.1.last
    have lw : dLen [.tup (w.map cellD)] = some (.int (w.length : Nat)) := by
      show some (D.int ((w.map cellD).length : Nat)) = _
      rw [List.length_map]
    have lv : dLen [.tup (v.map cellD)] = some (.int (v.length : Nat)) := by
      show some (D.int ((v.map cellD).length : Nat)) = _
      rw [List.length_map]
    have lu : dLen [.tup (u.map cellD)] = some (.int (u.length : Nat)) := by
      show some (D.int ((u.map cellD).length : Nat)) = _
      rw [List.length_map]
    have l64 := len64_cells (l := w) (by rw [ddP_id hb.nodup]; exact w64)
    rw [ddP_id hb.nodup] at l64
    obtain ⟨c1, c2⟩ := cut_ends (w := w)
    have zz : zipO [.tup (w.dropLast.map cellD), .tup ((w.drop 1).map cellD)] = some ((w.dropLast.zip (w.drop 1)).map fun p => .tup [cellD p.1, cellD p.2]) := by
      rw [zipO_tup (by simp; omega)]
      unfold zipD
      rw [List.zip_map, List.map_map]
      rfl
    have hin : ∀ c ∈ w, c ∈ p := fun c hc => by
      obtain ⟨i, hi, e⟩ := List.getElem_of_mem hc
      exact pc one ho c (hb.1.take i c (by rw [List.getElem?_eq_getElem hi, e])).reach
    have lo := lo w hb.1.zip hin
    have rv : (w.map cellD).reverse = w.reverse.map cellD := by rw [List.map_reverse]
    rw [← rv] at sr
    have one1 : dNe (.tup [cellD one]) (.tup [cellD one]) = some (.bl false) := by
      have := dNe_cells [one] [one]
      rwa [decide_eq_true rfl] at this
    generalize (w.dropLast.zip (w.drop 1)).map (fun p => D.tup [cellD p.1, cellD p.2]) = Z at *
    generalize w.dropLast.map cellD = WD at *
    generalize (w.drop 1).map cellD = WT at *
    generalize w.map cellD = W at *
    generalize v.map cellD = V at *
    generalize u.map cellD = U at *
    generalize x.map cellD = XX at *
    generalize wk.map cellD = WK at *
    generalize ls.map cellD = LS at *
    generalize more.map cellD = MO at *
    simp only [List.map_nil] at eu s0
    simp only [List.map_cons, List.map_nil] at ey
    refine (congrArg outOf (q_set (d := .tup W) (by simp [ew]))).trans ?_
    simp only [List.set_cons_succ, List.set_cons_zero]
    refine (congrArg outOf (q_pass ?_)).trans ?_
    · simp [at0, atm, l64, lw]
    obtain ⟨y13, y14, lo⟩ := lo (.fz (.scr ns)) (.fz (hallD g)) (.fz (.tup LS)) (.fz (.tup MO)) (.fz (.tup PD)) (.fz (.int (mixN ns 3))) (.fz (cellD one)) (.fz (.tup WK)) (.fz (cellD other)) (.fz (.tup W)) .no .no .no .no
    refine (congrArg outOf (q_for (ds := Z) (by simp [c1, c2, zz]) lo)).trans ?_
    refine (congrArg outOf (q_set (d := .int (seenN g ls w)) (by simp [sw]))).trans ?_
    simp only [List.set_cons_succ, List.set_cons_zero]
    refine (congrArg outOf (q_set (d := .tup V) (by simp [ev]))).trans ?_
    simp only [List.set_cons_succ, List.set_cons_zero]
    refine (congrArg outOf (q_pass ?_)).trans ?_
    · simp [sv, sr, lv, lw, wv1, wv2, wr1]
    refine (congrArg outOf (q_pass ?_)).trans ?_
    · simp [swk, lwkd, eu, lu]
      rw [if_neg (by omega), decide_eq_false (by omega)]
    refine (congrArg outOf (q_pass ?_)).trans ?_
    · simp [su, lw, eu, lu]
      omega
    refine (congrArg outOf (q_pass ?_)).trans ?_
    · simp [ex, sx, ey, one1]
      omega
    refine (congrArg outOf (q_ret (d := .bl true) (by simp [s0]))).trans rfl
end Lw

set_option Elab.async false
set_option linter.all false
set_option maxRecDepth 100000
set_option maxHeartbeats 4000000
open PySem PySem.W PySem.Calls PyProof.Rows
set_option maxRecDepth 100000 in
set_option maxHeartbeats 0 in
theorem PySem.Challenge.cw_lookhalls_k31_whole_slyest_holds : PySem.Challenge.rw_lookhalls_k31_whole_slyest.Holds := by
  w_on; o_law
  refine HandSHeadRun.head_any (r := OpenLaw.row PySem.Challenge.rw_lookhalls_k31_whole_slyest) (q := view (OpenLaw.row PySem.Challenge.rw_lookhalls_k31_whole_slyest).prog [37]) (H := Lw.hk) (ob := Lw.ob) (M := 20000) (loose := Lw.loose) (d := HandSHeadRun.topDef (OpenLaw.row PySem.Challenge.rw_lookhalls_k31_whole_slyest).prog 37) (kwd := []) Lw.ob_eq
    (by kernel_rfl) (fun s => by kernel_rfl) Lw.run (by kernel_rfl) (by kernel_rfl) (by kernel_rfl) (by rfl) (by first | assumption | decide +kernel) (by decide +kernel) ⟨rfl, rfl, rfl, rfl, rfl, by decide +kernel⟩ ?hw ?hc
  case hw => w_witness2
  case hc =>
    refine LamX.walk_ofTsE (l := PySem.Challenge.rw_lookhalls_k31_whole_slyest) (n := 63) (k := 8) (x := "script") (CX := fun _ => L2.CX0) rfl (by decide) (by kernel_rfl) ⟨rfl, by decide, by decide⟩ ?F (fun _ _ _ _ _ z => z)
    intro w mg fa h Y G hmg0
    obtain ⟨K, KX, c⟩ := Y
    have hmg : mg ("law" : PySem.Str) = some (.ref fa) := by
      have e : (HandSHeadRun.topDef (OpenLaw.row PySem.Challenge.rw_lookhalls_k31_whole_slyest).prog 37).name = ("law" : PySem.Str) := by kernel_rfl
      rw [← e]
      exact hmg0
    have T := Lw.tx_of KX G c
    have e := hmg.symm.trans T.f_law.g
    cases e
    obtain ⟨fd, F, _⟩ := T.f_law.ex
    have b := L2.FunD.bindsA (ps := ["script"]) F fun _ _ _ _ _ _ us hl => match us, hl with | [_], _ => rfl
    have tfm : ∀ p ∈ Lw.tf.map fun p => He.cT K p.1, ∃ q ∈ Lw.tfn, p = He.cT K q := fun p hp => by
      obtain ⟨q, hq, rfl⟩ := List.mem_map.mp hp
      exact ⟨q.1, by have := List.mem_map_of_mem (f := fun z : He.Defn × PySem.Str => z.1) hq; exact this, rfl⟩
    exact ⟨K, KX, fd, Lw.tf.map fun p => He.cT K p.1, fun vs H Q _ => DL.spD K (DL.tbs K Lw.tf) Lw.m_law vs H Q (fun _ _ _ => False), fun p hp => by obtain ⟨q, hq, rfl⟩ := tfm p hp; exact c.empty q hq, fun p hp => by obtain ⟨q, hq, rfl⟩ := tfm p hp; exact c.out q hq,
      fun p hp => by obtain ⟨q, hq, rfl⟩ := tfm p hp; exact PySem.W.codeHd_of_K KX (c.hd q hq), fun s v => b s [v] rfl, fun H a ns hl _ hH hS => DL.law_sp (DL.tabs_of hH) hS (Lw.law_true ns hl), fun base _ _ TB => DL.fn_calm (Lw.fn_law T F TB)⟩
