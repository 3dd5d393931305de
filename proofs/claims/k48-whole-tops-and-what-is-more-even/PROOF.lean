import PyProof.Rows.All
import Wide.All
import OpenK.AllK
import Wide.FinOn
import HandS.ForMost
import HandS.Zip
import HandS.WideBits
import HandS.TupAny
import HandS.TupMul
import HandS.IsInst
import HandS.Style
import HandS.Conv
import HandS.Gcd
import PyProof.StrBlock2
import PyProof.EqAt
import PyProof.NeKinds
import HandS.SortInts
import HandS.SortOrd
import HandS.More
import KE.DataMinMax
import KE.KTupSum
import KE.KSortedM
import HandS.Flow
import HandS.Star
import KE.GoesEnum
import HandS.NoneIn
import HandS.Words
import PySem.Challenge.RW_leveldrops_k48_whole_tops_and_what_is_mo
import PyProof.ReprLen
set_option Elab.async false
set_option linter.all false
set_option maxRecDepth 100000
/-! IA: plain data, the store, and what they are in the layer's heap. -/
namespace IL
open PySem PySem.Spec PyProof.Rows L2

/-- plain data; lst, dic: lists and dicts that nobody changes any more; ref: a cell of the store -/
inductive D where
  | non | bl (b : Bool) | int (i : Int) | str (x : Str)
  | tup (xs : List D) | lst (xs : List D) | dic (ks : List Key) (xs : List D) | ref (n : Nat)

inductive Cell where
  | lst (xs : List D) | ro (xs : List D) | dic (kvs : List (Key × D)) | ins (c : Nat) (fs : List Str) (xs : List D)
abbrev Store := List Cell

inductive Slot where
  | no | val (d : D) | own (xs : List D)
abbrev Env := List Slot

/-- a result: a value, or bad (nothing is said) -/
inductive R (α : Type) where
  | ok (a : α) (S : Store) | exc (c : Nat) (xs : List D) (S : Store) | bad

def R.bind {α β : Type} (r : R α) (f : α → Store → R β) : R β :=
  match r with
  | .ok a S => f a S
  | .exc c xs S => .exc c xs S
  | .bad => .bad

abbrev Frag := PySem.W.Frag

mutual
inductive RV (K : Frag) (H : Hp) (ρ : List Addr) (B : Addr → Prop) : D → V → Prop
  | non : RV K H ρ B .non .non
  | bl (b : Bool) : RV K H ρ B (.bl b) (.bl b)
  | int (i : Int) : RV K H ρ B (.int i) (.int i)
  | str (x : Str) : RV K H ρ B (.str x) (.str x)
  | tup {a : Addr} {xs : List D} {vs : List V} : SqT K H a vs → RVs K H ρ B xs vs → RV K H ρ B (.tup xs) (.ref a)
  | lst {a : Addr} {xs : List D} {vs : List V} : H a = some (.lst vs) → a ∉ ρ → ¬ B a → RVs K H ρ B xs vs → RV K H ρ B (.lst xs) (.ref a)
  | dic {a : Addr} {ks : List Key} {xs : List D} {vs : List V} : H a = some (.dK (ks.zip vs)) → ks.length = vs.length → a ∉ ρ → ¬ B a → RVs K H ρ B xs vs → RV K H ρ B (.dic ks xs) (.ref a)
  | ref {n : Nat} {a : Addr} : ρ[n]? = some a → RV K H ρ B (.ref n) (.ref a)
inductive RVs (K : Frag) (H : Hp) (ρ : List Addr) (B : Addr → Prop) : List D → List V → Prop
  | nil : RVs K H ρ B [] []
  | cons {d : D} {v : V} {ds : List D} {vs : List V} : RV K H ρ B d v → RVs K H ρ B ds vs → RVs K H ρ B (d :: ds) (v :: vs)
end

/-- the heap has grown: all that is no cell of ρ stands -/
structure Ext (K : Frag) (ρ : List Addr) (H : Hp) (ρ' : List Addr) (H' : Hp) : Prop where
  pre : ∀ (n : Nat) (a : Addr), ρ[n]? = some a → ρ'[n]? = some a
  sub : ∀ a, a ∈ ρ → a ∈ ρ'
  keep : ∀ a o, H a = some o → a ∉ ρ → H' a = some o
  tup : ∀ a vs, SqT K H a vs → SqT K H' a vs
  new : ∀ a, a ∈ ρ' → a ∉ ρ → H a = none

theorem Ext.refl {K : Frag} {ρ : List Addr} {H : Hp} : Ext K ρ H ρ H := ⟨fun _ _ h => h, fun _ h => h, fun _ _ h _ => h, fun _ _ h => h, fun _ h h' => absurd h h'⟩
theorem Ext.trans {K : Frag} {ρ ρ1 ρ2 : List Addr} {H H1 H2 : Hp} (a : Ext K ρ H ρ1 H1) (b : Ext K ρ1 H1 ρ2 H2) : Ext K ρ H ρ2 H2 where
  pre := fun n x h => b.pre n x (a.pre n x h)
  sub := fun x h => b.sub x (a.sub x h)
  keep := fun x o h hn => b.keep x o (a.keep x o h hn) fun h1 => by
    have := a.new x h1 hn
    rw [h] at this; cases this
  tup := fun x vs h => b.tup x vs (a.tup x vs h)
  new := fun x h hn => by
    by_cases h1 : x ∈ ρ1
    · exact a.new x h1 hn
    · cases e : H x with
      | none => rfl
      | some o =>
        have := a.keep x o e hn
        rw [b.new x h h1] at this; cases this

mutual
theorem RV.mono {K : Frag} {ρ ρ' : List Addr} {H H' : Hp} {B : Addr → Prop} (e : Ext K ρ H ρ' H') : ∀ {d : D} {v : V}, RV K H ρ B d v → RV K H' ρ' B d v
  | _, _, .non => .non
  | _, _, .bl b => .bl b
  | _, _, .int i => .int i
  | _, _, .str x => .str x
  | _, _, .tup h r => .tup (e.tup _ _ h) (RVs.mono e r)
  | _, _, .lst h n b r => .lst (e.keep _ _ h n) (fun h' => by rw [e.new _ h' n] at h; cases h) b (RVs.mono e r)
  | _, _, .dic h l n b r => .dic (e.keep _ _ h n) l (fun h' => by rw [e.new _ h' n] at h; cases h) b (RVs.mono e r)
  | _, _, .ref h => .ref (e.pre _ _ h)
theorem RVs.mono {K : Frag} {ρ ρ' : List Addr} {H H' : Hp} {B : Addr → Prop} (e : Ext K ρ H ρ' H') : ∀ {d : List D} {v : List V}, RVs K H ρ B d v → RVs K H' ρ' B d v
  | _, _, .nil => .nil
  | _, _, .cons h r => .cons (RV.mono e h) (RVs.mono e r)
end

mutual
/-- fewer are forbidden -/
theorem RV.less {K : Frag} {ρ : List Addr} {H : Hp} {B B' : Addr → Prop} (e : ∀ a, B' a → B a) : ∀ {d : D} {v : V}, RV K H ρ B d v → RV K H ρ B' d v
  | _, _, .non => .non
  | _, _, .bl b => .bl b
  | _, _, .int i => .int i
  | _, _, .str x => .str x
  | _, _, .tup h r => .tup h (RVs.less e r)
  | _, _, .lst h n b r => .lst h n (fun h' => b (e _ h')) (RVs.less e r)
  | _, _, .dic h l n b r => .dic h l n (fun h' => b (e _ h')) (RVs.less e r)
  | _, _, .ref h => .ref h
theorem RVs.less {K : Frag} {ρ : List Addr} {H : Hp} {B B' : Addr → Prop} (e : ∀ a, B' a → B a) : ∀ {d : List D} {v : List V}, RVs K H ρ B d v → RVs K H ρ B' d v
  | _, _, .nil => .nil
  | _, _, .cons h r => .cons (RV.less e h) (RVs.less e r)
end

mutual
/-- more are forbidden: none of them tracked -/
theorem RV.more {K : Frag} {ρ : List Addr} {H : Hp} {B B' : Addr → Prop} (e : ∀ a o, B' a → H a = some o → B a) : ∀ {d : D} {v : V}, RV K H ρ B d v → RV K H ρ B' d v
  | _, _, .non => .non
  | _, _, .bl b => .bl b
  | _, _, .int i => .int i
  | _, _, .str x => .str x
  | _, _, .tup h r => .tup h (RVs.more e r)
  | _, _, .lst h n b r => .lst h n (fun h' => b (e _ _ h' h)) (RVs.more e r)
  | _, _, .dic h l n b r => .dic h l n (fun h' => b (e _ _ h' h)) (RVs.more e r)
  | _, _, .ref h => .ref h
theorem RVs.more {K : Frag} {ρ : List Addr} {H : Hp} {B B' : Addr → Prop} (e : ∀ a o, B' a → H a = some o → B a) : ∀ {d : List D} {v : List V}, RVs K H ρ B d v → RVs K H ρ B' d v
  | _, _, .nil => .nil
  | _, _, .cons h r => .cons (RV.more e h) (RVs.more e r)
end

/-- a tuple's place is not written -/
theorem sqT_upd {K : Frag} {H : Hp} {a b : Addr} {o u : HO} {vs : List V} (h : SqT K H b vs) (ha : H a = some u) (hu : ∀ ws, u ≠ .tup ws) (hf : ∀ ob ws, u ≠ .frz ob (.tup ws)) : SqT K (upd H a o) b vs := by
  rcases h with (h | ⟨ob, h⟩) | h
  · by_cases e : b = a
    · subst e; rw [ha] at h; cases h; exact absurd rfl (hu _)
    · exact .inl (.inl (by rw [upd_ne e]; exact h))
  · by_cases e : b = a
    · subst e; rw [ha] at h; cases h; exact absurd rfl (hf _ _)
    · exact .inl (.inr ⟨ob, by rw [upd_ne e]; exact h⟩)
  · exact .inr h
theorem sqT_new {K : Frag} {H : Hp} {a b : Addr} {o : HO} {vs : List V} (h : SqT K H b vs) (ha : H a = none) : SqT K (upd H a o) b vs := by
  rcases h with (h | ⟨ob, h⟩) | h
  · exact .inl (.inl (by rw [upd_ne (ne_of_none h ha)]; exact h))
  · exact .inl (.inr ⟨ob, by rw [upd_ne (ne_of_none h ha)]; exact h⟩)
  · exact .inr h

/-- what may be written: no tuple -/
def Wr (u : HO) : Prop := (∀ ws, u ≠ .tup ws) ∧ ∀ ob ws, u ≠ .frz ob (.tup ws)
theorem wr_lst {xs : List V} : Wr (.lst xs) := ⟨fun _ h => (by cases h), fun _ _ h => (by cases h)⟩
theorem wr_dK {xs : List (Key × V)} : Wr (.dK xs) := ⟨fun _ h => (by cases h), fun _ _ h => (by cases h)⟩
theorem wr_ins {C dx : Addr} {xs : List (Str × V)} : Wr (.ins C dx xs) := ⟨fun _ h => (by cases h), fun _ _ h => (by cases h)⟩

mutual
/-- a cell or a forbidden place is written -/
theorem RV.upd {K : Frag} {ρ : List Addr} {H : Hp} {B : Addr → Prop} {a : Addr} {o u : HO} (m : a ∈ ρ ∨ B a) (ha : H a = some u) (hu : Wr u) : ∀ {d : D} {v : V}, RV K H ρ B d v → RV K (L2.upd H a o) ρ B d v
  | _, _, .non => .non
  | _, _, .bl b => .bl b
  | _, _, .int i => .int i
  | _, _, .str x => .str x
  | _, _, .tup h r => .tup (sqT_upd h ha hu.1 hu.2) (RVs.upd m ha hu r)
  | _, _, .lst (a := b) h n nb r => .lst (by rw [upd_ne (fun e => by subst e; exact m.elim n nb)]; exact h) n nb (RVs.upd m ha hu r)
  | _, _, .dic (a := b) h l n nb r => .dic (by rw [upd_ne (fun e => by subst e; exact m.elim n nb)]; exact h) l n nb (RVs.upd m ha hu r)
  | _, _, .ref h => .ref h
theorem RVs.upd {K : Frag} {ρ : List Addr} {H : Hp} {B : Addr → Prop} {a : Addr} {o u : HO} (m : a ∈ ρ ∨ B a) (ha : H a = some u) (hu : Wr u) : ∀ {d : List D} {v : List V}, RVs K H ρ B d v → RVs K (L2.upd H a o) ρ B d v
  | _, _, .nil => .nil
  | _, _, .cons h r => .cons (RV.upd m ha hu h) (RVs.upd m ha hu r)
end

mutual
/-- a forbidden place becomes a cell -/
theorem RV.grow {K : Frag} {ρ : List Addr} {H : Hp} {B : Addr → Prop} {a : Addr} : ∀ {d : D} {v : V}, RV K H ρ (fun b => B b ∨ b = a) d v → RV K H (ρ ++ [a]) B d v
  | _, _, .non => .non
  | _, _, .bl b => .bl b
  | _, _, .int i => .int i
  | _, _, .str x => .str x
  | _, _, .tup h r => .tup h (RVs.grow r)
  | _, _, .lst h n b r => .lst h (fun q => (List.mem_append.mp q).elim n fun q => b (.inr (List.mem_singleton.mp q))) (fun q => b (.inl q)) (RVs.grow r)
  | _, _, .dic h l n b r => .dic h l (fun q => (List.mem_append.mp q).elim n fun q => b (.inr (List.mem_singleton.mp q))) (fun q => b (.inl q)) (RVs.grow r)
  | _, _, .ref h => .ref (by rw [List.getElem?_append_left (List.getElem?_eq_some_iff.mp h).1]; exact h)
theorem RVs.grow {K : Frag} {ρ : List Addr} {H : Hp} {B : Addr → Prop} {a : Addr} : ∀ {d : List D} {v : List V}, RVs K H ρ (fun b => B b ∨ b = a) d v → RVs K H (ρ ++ [a]) B d v
  | _, _, .nil => .nil
  | _, _, .cons h r => .cons (RV.grow h) (RVs.grow r)
end

theorem RVs.length {K : Frag} {ρ : List Addr} {H : Hp} {B : Addr → Prop} : ∀ {ds : List D} {vs : List V}, RVs K H ρ B ds vs → ds.length = vs.length
  | _, _, .nil => rfl
  | _, _, .cons _ r => by rw [List.length_cons, List.length_cons, RVs.length r]
theorem RVs.append {K : Frag} {ρ : List Addr} {H : Hp} {B : Addr → Prop} : ∀ {ds es : List D} {vs ws : List V}, RVs K H ρ B ds vs → RVs K H ρ B es ws → RVs K H ρ B (ds ++ es) (vs ++ ws)
  | _, _, _, _, .nil, s => s
  | _, _, _, _, .cons h r, s => .cons h (RVs.append r s)
theorem RVs.get {K : Frag} {ρ : List Addr} {H : Hp} {B : Addr → Prop} : ∀ {ds : List D} {vs : List V} {i : Nat} {d : D}, RVs K H ρ B ds vs → ds[i]? = some d → ∃ v, vs[i]? = some v ∧ RV K H ρ B d v
  | _, _, _, _, .nil, e => by simp at e
  | _, _, 0, _, .cons h _, e => by
    rw [List.getElem?_cons_zero] at e
    cases e
    exact ⟨_, by rw [List.getElem?_cons_zero], h⟩
  | _, _, i + 1, _, .cons _ r, e => by
    rw [List.getElem?_cons_succ] at e
    rw [List.getElem?_cons_succ]
    exact RVs.get r e
theorem RVs.getV {K : Frag} {ρ : List Addr} {H : Hp} {B : Addr → Prop} {ds : List D} {vs : List V} {i : Nat} {v : V} (r : RVs K H ρ B ds vs) (e : vs[i]? = some v) : ∃ d, ds[i]? = some d ∧ RV K H ρ B d v := by
  have hi : i < ds.length := by
    rw [r.length]
    exact (List.getElem?_eq_some_iff.mp e).1
  obtain ⟨v', e', h⟩ := r.get (List.getElem?_eq_getElem hi)
  rw [e] at e'; cases e'
  exact ⟨_, List.getElem?_eq_getElem hi, h⟩
theorem RVs.set {K : Frag} {ρ : List Addr} {H : Hp} {B : Addr → Prop} {d : D} {v : V} (h : RV K H ρ B d v) : ∀ {ds : List D} {vs : List V} (i : Nat), RVs K H ρ B ds vs → RVs K H ρ B (ds.set i d) (vs.set i v)
  | _, _, _, .nil => .nil
  | _, _, 0, .cons _ r => .cons h r
  | _, _, i + 1, .cons g r => .cons g (RVs.set h i r)
theorem RVs.take {K : Frag} {ρ : List Addr} {H : Hp} {B : Addr → Prop} : ∀ {ds : List D} {vs : List V} (n : Nat), RVs K H ρ B ds vs → RVs K H ρ B (ds.take n) (vs.take n)
  | _, _, 0, _ => .nil
  | _, _, _ + 1, .nil => .nil
  | _, _, n + 1, .cons h r => .cons h (RVs.take n r)
theorem RVs.drop {K : Frag} {ρ : List Addr} {H : Hp} {B : Addr → Prop} : ∀ {ds : List D} {vs : List V} (n : Nat), RVs K H ρ B ds vs → RVs K H ρ B (ds.drop n) (vs.drop n)
  | _, _, 0, r => r
  | _, _, _ + 1, .nil => .nil
  | _, _, n + 1, .cons _ r => RVs.drop n r
theorem RVs.dropLast {K : Frag} {ρ : List Addr} {H : Hp} {B : Addr → Prop} {ds : List D} {vs : List V} (r : RVs K H ρ B ds vs) : RVs K H ρ B ds.dropLast vs.dropLast := by
  rw [List.dropLast_eq_take, List.dropLast_eq_take, r.length]
  exact r.take _
theorem RVs.eraseIdx {K : Frag} {ρ : List Addr} {H : Hp} {B : Addr → Prop} : ∀ {ds : List D} {vs : List V} (n : Nat), RVs K H ρ B ds vs → RVs K H ρ B (ds.eraseIdx n) (vs.eraseIdx n)
  | _, _, _, .nil => .nil
  | _, _, 0, .cons _ r => r
  | _, _, n + 1, .cons h r => .cons h (RVs.eraseIdx n r)
theorem RVs.reverse {K : Frag} {ρ : List Addr} {H : Hp} {B : Addr → Prop} : ∀ {ds : List D} {vs : List V}, RVs K H ρ B ds vs → RVs K H ρ B ds.reverse vs.reverse
  | _, _, .nil => .nil
  | _, _, .cons h r => by
    rw [List.reverse_cons, List.reverse_cons]
    exact (RVs.reverse r).append (.cons h .nil)

/-! ### the store -/
inductive CellOk (K : Frag) (H : Hp) (ρ : List Addr) (B : Addr → Prop) : Cell → HO → Prop
  | lst {xs : List D} {vs : List V} : RVs K H ρ B xs vs → CellOk K H ρ B (.lst xs) (.lst vs)
  | ro {xs : List D} {vs : List V} {o : Obj} : RVs K H ρ B xs vs → CellOk K H ρ B (.ro xs) (.frz o (.lst vs))
  | dic {kvs : List (Key × D)} {vs : List V} : RVs K H ρ B (kvs.map (·.2)) vs → CellOk K H ρ B (.dic kvs) (.dK ((kvs.map (·.1)).zip vs))
theorem CellOk.wr {K : Frag} {H : Hp} {ρ : List Addr} {B : Addr → Prop} {c : Cell} {o : HO} (h : CellOk K H ρ B c o) : Wr o := by
  cases h with
  | lst _ => exact wr_lst
  | ro _ => exact ⟨fun _ h => (by cases h), fun _ _ h => (by cases h)⟩
  | dic _ => exact wr_dK
def RS (K : Frag) (H : Hp) (ρ : List Addr) (B : Addr → Prop) (S : Store) : Prop :=
  ρ.length = S.length ∧ ∀ (n : Nat) (c : Cell), S[n]? = some c → ∃ a o, ρ[n]? = some a ∧ H a = some o ∧ CellOk K H ρ B c o
theorem CellOk.more {K : Frag} {H : Hp} {ρ : List Addr} {B B' : Addr → Prop} (e : ∀ a o, B' a → H a = some o → B a) {c : Cell} {o : HO} (h : CellOk K H ρ B c o) : CellOk K H ρ B' c o := by
  cases h with
  | lst r => exact .lst (r.more e)
  | ro r => exact .ro (r.more e)
  | dic r => exact .dic (r.more e)
theorem CellOk.less {K : Frag} {H : Hp} {ρ : List Addr} {B B' : Addr → Prop} (e : ∀ a, B' a → B a) {c : Cell} {o : HO} (h : CellOk K H ρ B c o) : CellOk K H ρ B' c o := by
  cases h with
  | lst r => exact .lst (r.less e)
  | ro r => exact .ro (r.less e)
  | dic r => exact .dic (r.less e)
theorem CellOk.mono {K : Frag} {ρ ρ' : List Addr} {H H' : Hp} {B : Addr → Prop} (e : Ext K ρ H ρ' H') {c : Cell} {o : HO} (h : CellOk K H ρ B c o) : CellOk K H' ρ' B c o := by
  cases h with
  | lst r => exact .lst (r.mono e)
  | ro r => exact .ro (r.mono e)
  | dic r => exact .dic (r.mono e)
theorem CellOk.upd {K : Frag} {ρ : List Addr} {H : Hp} {B : Addr → Prop} {a : Addr} {u v : HO} (m : a ∈ ρ ∨ B a) (ha : H a = some u) (hu : Wr u) {c : Cell} {o : HO} (h : CellOk K H ρ B c o) : CellOk K (L2.upd H a v) ρ B c o := by
  cases h with
  | lst r => exact .lst (r.upd m ha hu)
  | ro r => exact .ro (r.upd m ha hu)
  | dic r => exact .dic (r.upd m ha hu)
theorem RS.more {K : Frag} {H : Hp} {ρ : List Addr} {B B' : Addr → Prop} {S : Store} (e : ∀ a o, B' a → H a = some o → B a) (h : RS K H ρ B S) : RS K H ρ B' S :=
  ⟨h.1, fun n c q => let ⟨a, o, h1, h2, h3⟩ := h.2 n c q; ⟨a, o, h1, h2, h3.more e⟩⟩
theorem RS.less {K : Frag} {H : Hp} {ρ : List Addr} {B B' : Addr → Prop} {S : Store} (e : ∀ a, B' a → B a) (h : RS K H ρ B S) : RS K H ρ B' S :=
  ⟨h.1, fun n c q => let ⟨a, o, h1, h2, h3⟩ := h.2 n c q; ⟨a, o, h1, h2, h3.less e⟩⟩
/-- new objects beside: no cell is touched -/
theorem RS.ext {K : Frag} {ρ : List Addr} {H H' : Hp} {B : Addr → Prop} {S : Store} (e : Ext K ρ H ρ H') (hc : ∀ a, a ∈ ρ → H' a = H a) (h : RS K H ρ B S) : RS K H' ρ B S :=
  ⟨h.1, fun n c q => let ⟨a, o, h1, h2, h3⟩ := h.2 n c q; ⟨a, o, h1, by rw [hc a (List.mem_of_getElem? h1)]; exact h2, h3.mono e⟩⟩
/-- a forbidden place is written -/
theorem RS.updB {K : Frag} {ρ : List Addr} {H : Hp} {B : Addr → Prop} {S : Store} {a : Addr} {u v : HO} (hn : a ∉ ρ) (m : B a) (ha : H a = some u) (hu : Wr u) (h : RS K H ρ B S) : RS K (upd H a v) ρ B S :=
  ⟨h.1, fun n c q => let ⟨b, o, h1, h2, h3⟩ := h.2 n c q; ⟨b, o, h1, by rw [upd_ne (fun e => hn (by rw [← e]; exact List.mem_of_getElem? h1))]; exact h2, h3.upd (.inr m) ha hu⟩⟩
/-- a cell is written -/
theorem RS.set {K : Frag} {ρ : List Addr} {H : Hp} {B : Addr → Prop} {S : Store} {n : Nat} {a : Addr} {u v : HO} {c : Cell} (nd : ρ.Nodup) (hn : ρ[n]? = some a) (ha : H a = some u) (hu : Wr u) (hc : CellOk K (upd H a v) ρ B c v) (h : RS K H ρ B S) : RS K (upd H a v) ρ B (S.set n c) := by
  refine ⟨by rw [List.length_set]; exact h.1, fun m c' q => ?_⟩
  by_cases e : n = m
  · subst e
    have hl : n < S.length := by
      rw [← h.1]
      exact (List.getElem?_eq_some_iff.mp hn).1
    rw [List.getElem?_set_self hl] at q
    cases q
    exact ⟨a, v, hn, upd_same, hc⟩
  · rw [List.getElem?_set_ne e] at q
    obtain ⟨b, o, h1, h2, h3⟩ := h.2 m c' q
    have hb : b ≠ a := fun eb => by
      subst eb
      have l1 := (List.getElem?_eq_some_iff.mp hn)
      have l2 := (List.getElem?_eq_some_iff.mp h1)
      obtain ⟨i1, e1⟩ := l1
      obtain ⟨i2, e2⟩ := l2
      exact e ((List.getElem_inj nd).mp (e1.trans e2.symm))
    exact ⟨b, o, h1, by rw [upd_ne hb]; exact h2, h3.upd (.inl (List.mem_of_getElem? hn)) ha hu⟩

/-! ### the growing of the heap -/
theorem Ext.upd_new {K : Frag} {ρ : List Addr} {H : Hp} {a : Addr} {o : HO} (hn : H a = none) (hr : ∀ b ∈ ρ, H b ≠ none) : Ext K ρ H ρ (upd H a o) :=
  ⟨fun _ _ h => h, fun _ h => h, fun b u h _ => by rw [upd_ne (ne_of_none h hn)]; exact h, fun _ _ h => sqT_new h hn, fun _ h h' => absurd h h'⟩
theorem Ext.upd_cell {K : Frag} {ρ : List Addr} {H : Hp} {a : Addr} {o u : HO} (hm : a ∈ ρ) (ha : H a = some u) (hu : Wr u) : Ext K ρ H ρ (upd H a o) :=
  ⟨fun _ _ h => h, fun _ h => h, fun b v h hb => by rw [upd_ne (fun e => hb (by rw [e]; exact hm))]; exact h, fun _ _ h => sqT_upd h ha hu.1 hu.2, fun _ h h' => absurd h h'⟩

/-- what holds of the frame's slots, the store and the heap. B: places that no value may name -/
inductive SlotOk (K : Frag) (H : Hp) (ρ : List Addr) (B : Addr → Prop) : Slot → Option (Option V) → Prop
  | no {o : Option (Option V)} : SlotOk K H ρ B .no o
  | val {d : D} {v : V} : RV K H ρ B d v → SlotOk K H ρ B (.val d) (some (some v))
  | own {xs : List D} {vs : List V} {a : Addr} : H a = some (.lst vs) → RVs K H ρ B xs vs → B a → SlotOk K H ρ B (.own xs) (some (some (.ref a)))
structure Rel (K : Frag) (env : Env) (S : Store) (ρ : List Addr) (B : Addr → Prop) (σ : L2.St) (H : Hp) : Prop where
  eo : ∀ (i : Nat) (s : Slot), env[i]? = some s → SlotOk K H ρ B s σ[i]?
  rs : RS K H ρ B S
  nd : ρ.Nodup
  bt : ∀ a, B a → H a ≠ none ∧ a ∉ ρ
  len : env.length = σ.length
theorem RS.trk {K : Frag} {ρ : List Addr} {H : Hp} {B : Addr → Prop} {S : Store} (h : RS K H ρ B S) : ∀ a, a ∈ ρ → H a ≠ none := fun a ha e => by
  obtain ⟨n, hn, e1⟩ := List.getElem_of_mem ha
  have hl : n < S.length := by rw [← h.1]; exact hn
  obtain ⟨b, o, h1, h2, _⟩ := h.2 n _ (List.getElem?_eq_getElem hl)
  rw [List.getElem?_eq_getElem hn, e1] at h1
  cases h1
  rw [e] at h2; cases h2
theorem SlotOk.mono {K : Frag} {ρ ρ' : List Addr} {H H' : Hp} {B : Addr → Prop} (e : Ext K ρ H ρ' H') (hb : ∀ a, B a → a ∉ ρ) {s : Slot} {o : Option (Option V)} (h : SlotOk K H ρ B s o) : SlotOk K H' ρ' B s o := by
  cases h with
  | no => exact .no
  | val r => exact .val (r.mono e)
  | own h r b => exact .own (e.keep _ _ h (hb _ b)) (r.mono e) b
/-- the frame behind an expression -/
theorem Rel.mono {K : Frag} {env : Env} {S S' : Store} {ρ ρ' : List Addr} {B : Addr → Prop} {σ : L2.St} {H H' : Hp} (r : Rel K env S ρ B σ H) (e : Ext K ρ H ρ' H') (rs : RS K H' ρ' B S') (nd : ρ'.Nodup) : Rel K env S' ρ' B σ H' where
  eo := fun i s h => (r.eo i s h).mono e fun a ha => (r.bt a ha).2
  rs := rs
  nd := nd
  bt := fun a ha => by
    obtain ⟨h1, h2⟩ := r.bt a ha
    cases q : H a with
    | none => exact absurd q h1
    | some o => exact ⟨by rw [e.keep a o q h2]; exact fun z => (by cases z), fun h3 => by rw [e.new a h3 h2] at q; cases q⟩
  len := r.len
theorem Rel.trk {K : Frag} {env : Env} {S : Store} {ρ : List Addr} {B : Addr → Prop} {σ : L2.St} {H : Hp} (r : Rel K env S ρ B σ H) : ∀ a, a ∈ ρ → H a ≠ none := r.rs.trk
end IL
/-! IB: an own small syntax, and what it computes over plain data. -/
namespace IL
open PySem PySem.Spec PyProof.Rows L2

inductive Ty where
  | int | bool | str | tup | lst | dic
  deriving DecidableEq
/-- built-ins of one argument -/
inductive B1 where
  | len | int | str | repr | abs | max | min | sum | sorted | all | any | tup | lst
  deriving DecidableEq
/-- .. of two -/
inductive B2 where
  | max | min | gcd | index
  deriving DecidableEq

/-- expressions; nl, cs: lists of them -/
inductive E where
  | nl | cs (a es : E) | st (a es : E)
  | non | bl (b : Bool) | int (i : Int) | str (x : Str) | glo (x : Str)
  | var (i : Nat) | own (i : Nat)
  | bin (o : Operator) (a b : E) | neg (a : E)
  | cmp (o : CmpOp) (a b : E) | ch (o p : CmpOp) (a b c : E) | ch3 (o p q : CmpOp) (a b c d : E)
  | not (a : E) | and (a b : E) | or (a b : E) | ife (c a b : E)
  | tup (es : E) | lst (es : E) | tups (es : E) | lsts (es : E) | lr1 (a : E) | tr1 (a : E) | revl (a : E) | lr2 (a b : E) | cell (e : E) | dic (ks : List Str) (es : E) | dn | dc
  | call (f : Str) (es : E) | cak (f : Str) (m : Nat) (es : E) (ks : List Str) (kes : E) (perm : List Nat)
  | b1 (f : B1) (a : E) | b2 (f : B2) (a b : E) | isa (t : Ty) (a : E)
  | ix (a i : E) | sl (a lo hi : E) | get2 (a k d : E)
  | comp (el t src c : E) | compc (el t src c : E) | rng1 (a : E) | rng2 (a b : E) | rng3 (a b c : E) | enu (a : E) | zip (a b : E)
  | pop (a : E) | popi (a i : E) | ins (a i e : E) | app (a e : E) | extd (a e : E)

/-- statements -/
inductive S where
  | nop | sq (a b : S)
  | asg (t e : E) | par (ts : List (Nat × Bool)) (es : E) | seto (i : Nat) (e : E)
  | app (i : Nat) (e : E) | ext (i : Nat) (e : E) | popo (t : Nat) (i : Nat) (e : E) | expr (e : E)
  | aug (i : Nat) (o : Operator) (e : E)
  | ife (c : E) (a b : S) | whl (c : E) (b : S) | for_ (t src : E) (b : S) | forc (t src : E) (b : S)
  | ret (e : E) | reto (i : Nat) | retn | brk | cnt | pas | frz (i : Nat)

/-! ### operations on data -/
def lenOk (n : Nat) : Bool := decide (n ≤ sizeLine)
/-- the items of a sequence -/
def itemsD (d : D) (S : Store) : Option (List D) :=
  match d with
  | .tup xs => some xs
  | .lst xs => some xs
  | .ref n => match S[n]? with
    | some (.lst xs) => some xs
    | some (.ro xs) => some xs
    | _ => none
  | _ => none
instance {i j : Int} : Decidable (CMul i j) := by unfold CMul; infer_instance
instance {i j : Int} : Decidable (CMulX i j) := by unfold CMulX; infer_instance
instance {i j : Int} : Decidable (CShl i j) := by unfold CShl; infer_instance
instance {i j : Int} : Decidable (CDivW i j) := by unfold CDivW; infer_instance
instance {i j : Int} : Decidable (CPow i j) := by unfold CPow; infer_instance
instance {x : Str} {n : Int} : Decidable (MulOk x n) := by unfold MulOk; infer_instance
/-- a sequence's items, no cell -/
def seqD : D → Option (List D)
  | .tup xs => some xs
  | .lst xs => some xs
  | _ => none
def rep {α : Type} (n : Nat) (xs : List α) : List α := (List.replicate n xs).flatten
def binD (o : Operator) (a b : D) (S : Store) : R D :=
  match o, a, b with
  | .Add, .int i, .int j => .ok (.int (i + j)) S
  | .Sub, .int i, .int j => .ok (.int (i - j)) S
  | .Mult, .int i, .int j => if CMul i j ∨ CMulX i j then .ok (.int (i * j)) S else .bad
  | .FloorDiv, .int i, .int j => if CDivW i j then .ok (.int (i / j)) S else .bad
  | .Mod, .int i, .int j => if 0 < j then .ok (.int (i % j)) S else .bad
  | .Pow, .int i, .int j => if CPow i j then .ok (.int (i ^ j.toNat)) S else .bad
  | .LShift, .int i, .int j => if CShl i j then .ok (.int (i * 2 ^ j.toNat)) S else .bad
  | .RShift, .int i, .int j => if 0 ≤ j then .ok (.int (i / 2 ^ j.toNat)) S else .bad
  | .BitAnd, .int i, .int j => .ok (.int (Builtin.bitAnd i j)) S
  | .BitXor, .int i, .int j => .ok (.int (Builtin.bitXor i j)) S
  | .Add, .str x, .str y => if x.length + y.length ≤ sizeLine then .ok (.str (x ++ y)) S else .bad
  | .Add, .lst xs, .lst ys => if xs.length + ys.length ≤ sizeLine then .ok (.lst (xs ++ ys)) S else .bad
  | .Add, .tup xs, .tup ys => if xs.length + ys.length ≤ sizeLine then .ok (.tup (xs ++ ys)) S else .bad
  | .Mult, .lst xs, .int k => if -(2 ^ 63) ≤ k ∧ k < 2 ^ 63 ∧ xs.length * k.toNat ≤ sizeLine then .ok (.lst (rep k.toNat xs)) S else .bad
  | .Mult, .tup xs, .int k => if xs ≠ [] ∧ 2 ≤ k ∧ k ≤ 1000 ∧ xs.length ≤ 1000 then .ok (.tup (rep k.toNat xs)) S else if (xs = [] ∨ k = 1) ∧ -(2 ^ 63) ≤ k ∧ k < 2 ^ 63 then .ok (.tup xs) S else if xs ≠ [] ∧ k ≤ 0 ∧ -(2 ^ 63) ≤ k then .ok (.tup []) S else .bad
  | .Mult, .str x, .int k => if MulOk x k then .ok (.str (Txt.mul x k)) S else .bad
  | .Add, .lst xs, .ref n => match S[n]? with
    | some (.lst ys) => if xs.length + ys.length ≤ sizeLine then .ok (.lst (xs ++ ys)) S else .bad
    | _ => .bad
  | .Add, .ref n, .lst ys => match S[n]? with
    | some (.lst xs) => if xs.length + ys.length ≤ sizeLine then .ok (.lst (xs ++ ys)) S else .bad
    | _ => .bad
  | _, _, _ => .bad

/-- plain data as the library's data -/
def toP : D → Option PyData
  | .non => some .none
  | .bl b => some (.bool b)
  | .int i => some (.int i)
  | .str x => some (.str x)
  | .tup xs => (toPs xs).map .tuple
  | .lst xs => (toPs xs).map .list
  | .dic [] [] => some (.dict [])
  | .dic _ _ => none
  | .ref _ => none
where toPs : List D → Option (List PyData)
  | [] => some []
  | d :: ds => match toP d, toPs ds with
    | some p, some ps => some (p :: ps)
    | _, _ => none
/-- .. a list that is a cell is seen through -/
def toPS (d : D) (S : Store) : Option PyData :=
  match d with
  | .ref n => match S[n]? with
    | some (.lst xs) => (toP.toPs xs).map .list
    | some (.ro xs) => (toP.toPs xs).map .list
    | _ => none
  | d => toP d
def eqD0 (a b : D) (S : Store) : Option Bool :=
  match a, b with
  | .int i, .int j => some (decide (i = j))
  | .str i, .str j => some (decide (i = j))
  | .non, .non => some true
  | a, b => match toPS a S, toPS b S with
    | some p, some q => if SeqAt.shaped p = true ∧ SeqAt.shaped q = true then some (PyData.eqv p q) else none
    | _, _ => none
/-- against a list, a tuple of no items -/
def emptyD (a b : D) (S : Store) : Option Bool := match b with
  | .tup [] => match a with
    | .tup xs => some xs.isEmpty
    | _ => none
  | .lst [] => match a with
    | .tup _ => none
    | a => (itemsD a S).map (·.isEmpty)
  | _ => none
def eqD (a b : D) (S : Store) : Option Bool := match emptyD a b S with
  | some r => some r
  | none => eqD0 a b S
theorem eqD_empty {a b : D} {S : Store} {r : Bool} (h : emptyD a b S = some r) : eqD a b S = some r := by
  unfold eqD
  rw [h]
def keyD : D → Option Key
  | .int i => some (.inl i)
  | .str x => some (.inr x)
  | _ => none
def dget {α : Type} (kvs : List (Key × α)) (k : Key) : Option α := (kvs.find? fun kv => decide (kv.1 = k)).map (·.2)
def dput {α : Type} (kvs : List (Key × α)) (k : Key) (v : α) : List (Key × α) :=
  if (kvs.any fun kv => decide (kv.1 = k)) = true then kvs.map (fun kv => if kv.1 = k then (kv.1, v) else kv) else kvs ++ [(k, v)]
/-- flat data: what `in` looks through -/
def flatD : D → Bool
  | .non => true
  | .bl _ => true
  | .int _ => true
  | .str _ => true
  | _ => false
def eqFD : D → D → Bool
  | .non, .non => true
  | .bl a, .bl b => a == b
  | .bl a, .int b => (if a then 1 else 0) == b
  | .int a, .bl b => a == (if b then 1 else 0)
  | .int a, .int b => a == b
  | .str a, .str b => a == b
  | _, _ => false
def inD (a b : D) (S : Store) : Option Bool :=
  match b with
  | .str y => match a with
    | .str x => some (!(Builtin.Str.occurrences y x 0 y.length 1).isEmpty)
    | _ => none
  | .ref n => match S[n]? with
    | some (.dic kvs) => (keyD a).map fun k => (dget kvs k).isSome
    | _ => match itemsD b S with
      | some xs => if flatD a && xs.all flatD then some (xs.any fun y => eqFD y a) else none
      | none => none
  | b => match itemsD b S with
    | some xs => if flatD a && xs.all flatD then some (xs.any fun y => eqFD y a) else none
    | none => none
def isD (a b : D) : Option Bool :=
  match a, b with
  | .non, .non => some true
  | .bl i, .bl j => some (decide (i = j))
  | .non, .bl _ => none
  | .bl _, .non => some false
  | .int _, .non => some false
  | .str _, .non => some false
  | .tup _, .non => some false
  | .lst _, .non => some false
  | .ref _, .non => some false
  | _, _ => none
def cmpD (o : CmpOp) (a b : D) (S : Store) : R D :=
  match o, a, b with
  | .Lt, .int i, .int j => .ok (.bl (decide (i < j))) S
  | .LtE, .int i, .int j => .ok (.bl (decide (i ≤ j))) S
  | .Gt, .int i, .int j => .ok (.bl (decide (j < i))) S
  | .GtE, .int i, .int j => .ok (.bl (decide (j ≤ i))) S
  | .Eq, a, b => match eqD a b S with | some c => .ok (.bl c) S | none => .bad
  | .NotEq, a, b => match eqD a b S with | some c => .ok (.bl (!c)) S | none => .bad
  | .Is, a, b => match isD a b with | some c => .ok (.bl c) S | none => .bad
  | .IsNot, a, b => match isD a b with | some c => .ok (.bl (!c)) S | none => .bad
  | .In, a, b => match inD a b S with | some c => .ok (.bl c) S | none => .bad
  | .NotIn, a, b => match inD a b S with | some c => .ok (.bl (!c)) S | none => .bad
  | _, _, _ => .bad
def truD (d : D) (S : Store) : Option Bool :=
  match d with
  | .non => some false
  | .bl b => some b
  | .int i => some (i != 0)
  | .str x => if x.length ≤ sizeLine then some ((x.length : Int) != 0) else none
  | .tup xs => some (!xs.isEmpty)
  | .lst xs => some (!xs.isEmpty)
  | .ref n => match S[n]? with
    | some (.lst xs) => some (!xs.isEmpty)
    | some (.ro xs) => some (!xs.isEmpty)
    | some (.dic kvs) => some (!kvs.isEmpty)
    | _ => none
  | _ => none
/-- a value's truth -/
def truR (d : D) (S : Store) : R Bool := match truD d S with
  | some b => .ok b S
  | none => .bad
/-- a truth that comes out of a value -/
def blD (k : D) (S : Store) : R Bool := match k with
  | .bl b => .ok b S
  | _ => .bad
/-- all whole numbers -/
def intsD : List D → Option (List Int)
  | [] => some []
  | .int i :: r => match intsD r with
    | some is => some (i :: is)
    | none => none
  | _ :: _ => none
def blsD : List D → Option (List Bool)
  | [] => some []
  | .bl i :: r => match blsD r with
    | some is => some (i :: is)
    | none => none
  | _ :: _ => none
/-- the greatest, the least of some whole numbers -/
def maxI : List Int → Int
  | [] => 0
  | x :: r => r.foldl max x
def minI : List Int → Int
  | [] => 0
  | x :: r => r.foldl min x
def srt (ns : List Int) : List Int := ns.mergeSort
/-- pairs of whole numbers -/
def pairsD : List D → Option (List (Int × Int))
  | [] => some []
  | .tup [.int i, .int j] :: r => match pairsD r with
    | some is => some ((i, j) :: is)
    | none => none
  | _ :: _ => none
def pairT (p : Int × Int) : D := .tup [.int p.1, .int p.2]
def leP (p q : Int × Int) : Bool := decide (p.1 < q.1 ∨ (p.1 = q.1 ∧ p.2 ≤ q.2))
def srtP (ps : List (Int × Int)) : List (Int × Int) := ps.mergeSort leP
def lenD (d : D) (S : Store) : R D :=
  match d with
  | .str x => if x.length ≤ sizeLine then .ok (.int x.length) S else .bad
  | d => match itemsD d S with
    | some xs => .ok (.int xs.length) S
    | none => match d with
      | .ref n => match S[n]? with
        | some (.dic kvs) => .ok (.int kvs.length) S
        | _ => .bad
      | _ => .bad
/-- whether d may be shown: no number too long, not too long together -/
def showP (p : PyData) : Bool := PyData.showable p && decide (PyData.depth p ≤ 64) && decide ((PyData.shown p).length ≤ sizeLine)
def reprD (d : D) (S : Store) : R D :=
  match toPS d S with
  | some p => if showP p = true then .ok (.str (PyData.shown p)) S else .bad
  | none => .bad
def b1D (f : B1) (d : D) (S : Store) : R D :=
  match f with
  | .len => lenD d S
  | .int => match d with
    | .int i => .ok (.int i) S
    | .bl k => .ok (.int (if k then 1 else 0)) S
    | .str x => match PySem.intText? x with
      | some n => if x.length ≤ 640 then .ok (.int n) S else .bad
      | none => .bad
    | _ => .bad
  | .str => match d with
    | .int i => if i.natAbs.log2 < 1920 then .ok (.str (toString i)) S else .bad
    | _ => .bad
  | .repr => reprD d S
  | .abs => match d with
    | .int i => .ok (.int (if i < 0 then -i else i)) S
    | _ => .bad
  | .max => match (itemsD d S).bind intsD with
    | some ns => if ns ≠ [] then .ok (.int (maxI ns)) S else .bad
    | none => .bad
  | .min => match (itemsD d S).bind intsD with
    | some ns => if ns ≠ [] then .ok (.int (minI ns)) S else .bad
    | none => .bad
  | .sum => match (itemsD d S).bind intsD with
    | some ns => .ok (.int ns.sum) S
    | none => .bad
  | .sorted => match (itemsD d S).bind intsD with
    | some ns => if ns.length < 64 then .ok (.lst ((srt ns).map .int)) S else .bad
    | none => match d with
      | .tup xs => match pairsD xs with
        | some ps => .ok (.lst ((srtP ps).map pairT)) S
        | none => .bad
      | d => match (itemsD d S).bind pairsD with
        | some ps => .ok (.lst ((srtP ps).map pairT)) S
        | none => .bad
  | .all => match d with
    | .tup _ => .bad
    | d => match (itemsD d S).bind blsD with
      | some bs => .ok (.bl (bs.all id)) S
      | none => .bad
  | .any => match d with
    | .tup _ => .bad
    | d => match (itemsD d S).bind blsD with
      | some bs => .ok (.bl (bs.any id)) S
      | none => .bad
  | .tup => match itemsD d S with
    | some xs => .ok (.tup xs) S
    | none => .bad
  | .lst => match itemsD d S with
    | some xs => .ok (.lst xs) S
    | none => .bad
def b2D (f : B2) (a b : D) (S : Store) : R D :=
  match f, a, b with
  | .max, .int i, .int j => .ok (.int (if j > i then j else i)) S
  | .min, .int i, .int j => .ok (.int (if j < i then j else i)) S
  | .gcd, .int i, .int j => .ok (.int (Int.gcd i j)) S
  | _, _, _ => .bad
def isaD (t : Ty) (d : D) (S : Store) : Option Bool :=
  match d with
  | .non => some false
  | .bl _ => some (t == .bool || t == .int)
  | .int _ => some (t == .int)
  | .str _ => some (t == .str)
  | .tup _ => some (t == .tup)
  | .lst _ => some (t == .lst)
  | .dic _ _ => some (t == .dic)
  | .ref n => match S[n]? with
    | some (.lst _) => some (t == .lst)
    | some (.dic _) => some (t == .dic)
    | _ => none
def ixD (a i : D) (S : Store) : R D :=
  match a with
  | .str x => match i with
    | .int k => if x.length ≤ sizeLine then match atI x.cps.toList k with
        | some c => .ok (.str ⟨#[c]⟩) S
        | none => .bad
      else .bad
    | _ => .bad
  | a => match itemsD a S with
    | some xs => match i with
      | .int k => match atI xs k with
        | some d => .ok d S
        | none => .bad
      | _ => .bad
    | none => match a with
      | .ref n => match S[n]? with
        | some (.dic kvs) => match (keyD i).bind (dget kvs) with
          | some d => .ok d S
          | none => .bad
        | _ => .bad
      | _ => .bad
/-- the items between two places -/
def cut {α : Type} (xs : List α) (lo hi : Option Int) : List α := (xs.drop (HT.sIx xs.length 0 lo)).take (HT.sIx xs.length xs.length hi - HT.sIx xs.length 0 lo)
def slD (a : D) (lo hi : Option Int) (S : Store) : R D :=
  match a with
  | .tup xs => .ok (.tup (cut xs lo hi)) S
  | a => match itemsD a S with
    | some xs => .ok (.lst (cut xs lo hi)) S
    | none => .bad
def get2D (a k d : D) (S : Store) : R D :=
  match a with
  | .ref n => match S[n]? with
    | some (.dic kvs) => match keyD k with
      | some k => .ok ((dget kvs k).getD d) S
      | none => .bad
    | _ => .bad
  | _ => .bad
def rngD (a b : Int) : List D := (List.range (b - a).toNat).map fun (i : Nat) => D.int (a + (i : Int))
def rngOk (a b : Int) : Prop := -(2 ^ 62) ≤ a ∧ a < 2 ^ 62 ∧ -(2 ^ 62) ≤ b ∧ b < 2 ^ 62
instance {a b : Int} : Decidable (rngOk a b) := by unfold rngOk; infer_instance
/-- range of three -/
def rg3Ok (i j c : Int) : Prop := c ≠ 0 ∧ c.natAbs < 1073741824 ∧ Builtin.Range.small i j c = true ∧ Builtin.Range.rangeSize i j c = ((Builtin.Range.rangeSize i j c).toNat : Int)
instance {a b c : Int} : Decidable (rg3Ok a b c) := by unfold rg3Ok; infer_instance
def rng3D (i j c : Int) : List D := (List.range (Builtin.Range.rangeSize i j c).toNat).map fun (n : Nat) => D.int (i + (n : Int) * c)
def enuD : Nat → List D → List D
  | _, [] => []
  | n, d :: ds => .tup [.int n, d] :: enuD (n + 1) ds
def zipD : List D → List D → List D
  | a :: as, b :: bs => .tup [a, b] :: zipD as bs
  | _, _ => []
/-- the turns of a comprehension -/
def compF (step : D → Store → R (Option D)) : List D → List D → Store → R D
  | [], acc, S => if acc.length ≤ sizeLine then .ok (.lst acc) S else .bad
  | d :: ds, acc, S => (step d S).bind fun o S1 => match o with
    | some x => compF step ds (acc ++ [x]) S1
    | none => compF step ds acc S1
/-- what is walked, where lists may be cells: items that are read when their turn comes -/
inductive It1 where
  | d (x : D) | at (n i len : Nat) | pr (a b : It1)
def rdI : It1 → Store → Option D
  | .d x, _ => some x
  | .at n i len, S => match S[n]? with
    | some (.lst ys) => if ys.length = len then ys[i]? else none
    | _ => none
  | .pr a b, S => match rdI a S, rdI b S with
    | some x, some y => some (.tup [x, y])
    | _, _ => none
abbrev EndsI := List (Nat × Nat)
/-- the cells are as long as they were -/
def endsOk (ends : EndsI) (S : Store) : Bool := ends.all fun p => match S[p.1]? with
  | some (.lst ys) => decide (ys.length = p.2)
  | _ => false
def cellI (n len : Nat) : List It1 := (List.range len).map fun i => It1.at n i len
def lsI (x : D) (S : Store) : Option (List It1 × EndsI) :=
  match x with
  | .lst xs => some (xs.map .d, [])
  | .ref n => match S[n]? with
    | some (.lst xs) => some (cellI n xs.length, [(n, xs.length)])
    | _ => none
  | _ => none
def enuI : Nat → List It1 → List It1
  | _, [] => []
  | k, it :: r => .pr (.d (.int k)) it :: enuI (k + 1) r
def zipI : List It1 → List It1 → List It1
  | a :: as, b :: bs => .pr a b :: zipI as bs
  | _, _ => []
def compC (step : D → Store → R (Option D)) (ends : EndsI) : List It1 → List D → Store → R D
  | [], acc, S => if endsOk ends S = true ∧ acc.length ≤ sizeLine then .ok (.lst acc) S else .bad
  | it :: its, acc, S => match rdI it S with
    | some d => (step d S).bind fun o S1 => match o with
      | some x => compC step ends its (acc ++ [x]) S1
      | none => compC step ends its acc S1
    | none => .bad
def permL {α : Type} (perm : List Nat) (xs : List α) : List α := perm.filterMap fun i => xs[i]?
abbrev permD (perm : List Nat) (xs : List D) : List D := permL perm xs
/-- a cell that is a list is changed -/
def setCell (n : Nat) (S : Store) (f : List D → Option (D × List D)) : R D :=
  match S[n]? with
  | some (.lst xs) => match f xs with
    | some (d, ys) => if ys.length ≤ sizeLine then .ok d (S.set n (.lst ys)) else .bad
    | none => .bad
  | _ => .bad
def isLst (d : D) (S : Store) : Bool :=
  match d with
  | .ref n => match S[n]? with
    | some (.lst _) => true
    | _ => false
  | _ => false
def isDct (d : D) (S : Store) : Bool :=
  match d with
  | .ref n => match S[n]? with
    | some (.dic _) => true
    | _ => false
  | _ => false
def popiD (x y : D) (S : Store) : R D :=
  match x, y with
  | .ref n, .int k => setCell n S fun xs => if -(2 ^ 63) ≤ k ∧ k < 2 ^ 63 then (seqIndex? k xs.length).bind fun j => (xs[j]?).map fun d => (d, xs.eraseIdx j) else none
  | _, _ => .bad
def insD (x y z : D) (S : Store) : R D :=
  match x, y with
  | .ref n, .int k => setCell n S fun xs => if 0 ≤ k ∧ k < 2 ^ 63 ∧ xs.length < sizeLine then some (.non, xs.take k.toNat ++ [z] ++ xs.drop k.toNat) else none
  | _, _ => .bad
def appD (x y : D) (S : Store) : R D :=
  match x with
  | .ref n => setCell n S fun xs => if xs.length < sizeLine then some (.non, xs ++ [y]) else none
  | _ => .bad
def extD (x y : D) (S : Store) : R D :=
  match x, y with
  | .ref n, .lst ys => setCell n S fun xs => if xs.length + ys.length ≤ sizeLine then some (.non, xs ++ ys) else none
  | _, _ => .bad
def setIxD (a i d : D) (S : Store) : R Unit :=
  match a with
  | .ref n => match S[n]? with
    | some (.lst xs) => match i with
      | .int k => match ixN xs.length k with
        | some j => .ok () (S.set n (.lst (xs.set j d)))
        | none => .bad
      | _ => .bad
    | some (.dic kvs) => match keyD i with
      | some k => if kvs.length < sizeLine then .ok () (S.set n (.dic (dput kvs k d))) else .bad
      | none => .bad
    | _ => .bad
  | _ => .bad

/-- the slots of a target of names -/
def slotsOf : E → List Nat
  | .var i => [i]
  | .tup es => slotsOf es
  | .cs a b => slotsOf a ++ slotsOf b
  | _ => []
def wipeE (v : Env) : List Nat → Env
  | [] => v
  | i :: is => (wipeE v is).set i .no
mutual
/-- names get data -/
def asgN : E → D → Env → Store → R Env
  | .var i, d, v, S => .ok (v.set i (.val d)) S
  | .tup es, d, v, S => match d with
    | .tup xs => asgNs es xs v S
    | _ => .bad
  | _, _, _, _ => .bad
def asgNs : E → List D → Env → Store → R Env
  | .nl, [], v, S => .ok v S
  | .cs t es, d :: ds, v, S => (asgN t d v S).bind fun v1 S1 => asgNs es ds v1 S1
  | _, _, _, _ => .bad
end

/-- the rest of a chain, of an and; of an or -/
def onT (k : D) (r : R D) (S : Store) : R D := match k with
  | .bl true => r
  | .bl false => .ok (.bl false) S
  | _ => .bad
def onF (k : D) (r : R D) (S : Store) : R D := match k with
  | .bl false => r
  | .bl true => .ok (.bl true) S
  | _ => .bad
/-! ### what an expression computes -/
abbrev Cal := Str → List D → Store → R D
section
variable (G : Str → Option D) (cal : Cal)
mutual
def den : E → Env → Store → R D
  | .non, _, S => .ok .non S
  | .bl b, _, S => .ok (.bl b) S
  | .int i, _, S => .ok (.int i) S
  | .str x, _, S => .ok (.str x) S
  | .glo x, _, S => match G x with
    | some d => .ok d S
    | none => .bad
  | .var i, v, S => match v[i]? with
    | some (.val d) => .ok d S
    | _ => .bad
  | .own i, v, S => match v[i]? with
    | some (.own xs) => .ok (.lst xs) S
    | _ => .bad
  | .bin o a b, v, S => (den a v S).bind fun x S1 => (den b v S1).bind fun y S2 => binD o x y S2
  | .neg a, v, S => (den a v S).bind fun x S1 => match x with
    | .int i => .ok (.int (-i)) S1
    | _ => .bad
  | .cmp o a b, v, S => (den a v S).bind fun x S1 => (den b v S1).bind fun y S2 => cmpD o x y S2
  | .ch o p a b c, v, S => (den a v S).bind fun x S1 => (den b v S1).bind fun y S2 => (cmpD o x y S2).bind fun k S3 => onT k ((den c v S3).bind fun z S4 => cmpD p y z S4) S3
  | .ch3 o p q a b c d, v, S => (den a v S).bind fun x S1 => (den b v S1).bind fun y S2 => (cmpD o x y S2).bind fun k S3 => onT k ((den c v S3).bind fun z S4 => (cmpD p y z S4).bind fun k S5 => onT k ((den d v S5).bind fun w S6 => cmpD q z w S6) S5) S3
  | .not a, v, S => (den a v S).bind fun x S1 => (truR x S1).bind fun b S2 => .ok (.bl (!b)) S2
  | .and a b, v, S => (den a v S).bind fun x S1 => onT x (den b v S1) S1
  | .or a b, v, S => (den a v S).bind fun x S1 => onF x (den b v S1) S1
  | .ife c a b, v, S => (tst c v S).bind fun k S1 => if k = true then den a v S1 else den b v S1
  | .tup es, v, S => (dens es v S).bind fun xs S1 => if xs.length ≤ sizeLine then .ok (.tup xs) S1 else .bad
  | .lst es, v, S => (dens es v S).bind fun xs S1 => if xs.length ≤ sizeLine then .ok (.lst xs) S1 else .bad
  | .tups es, v, S => (dens es v S).bind fun xs S1 => if xs.length ≤ sizeLine then .ok (.tup xs) S1 else .bad
  | .lsts es, v, S => (dens es v S).bind fun xs S1 => if xs.length ≤ sizeLine then .ok (.lst xs) S1 else .bad
  | .tr1 a, v, S => (den a v S).bind fun x S1 => match x with
    | .int n => if rngOk 0 n ∧ n ≤ 16777216 then .ok (.tup (rngD 0 n)) S1 else .bad
    | _ => .bad
  | .revl a, v, S => (den a v S).bind fun x S1 => match x with
    | .tup _ => .bad
    | x => match itemsD x S1 with
      | some xs => .ok (.lst xs.reverse) S1
      | none => .bad
  | .lr1 a, v, S => (den a v S).bind fun x S1 => match x with
    | .int n => if rngOk 0 n ∧ n ≤ 16777216 then .ok (.lst (rngD 0 n)) S1 else .bad
    | _ => .bad
  | .lr2 a b, v, S => (den a v S).bind fun x S1 => (den b v S1).bind fun y S2 => match x, y with
    | .int i, .int j => if rngOk i j ∧ j - i ≤ 16777216 then .ok (.lst (rngD i j)) S2 else .bad
    | _, _ => .bad
  | .cell e, v, S => (den e v S).bind fun x S1 => match x with
    | .lst xs => .ok (.ref S1.length) (S1 ++ [.lst xs])
    | _ => .bad
  | .dic ks es, v, S => (dens es v S).bind fun xs S1 => if ks.length = xs.length ∧ ks.Nodup ∧ ks.length ≤ 15 then .ok (.ref S1.length) (S1 ++ [.dic (ks.zipWith (fun (k : Str) (d : D) => ((Sum.inr k : Key), d)) xs)]) else .bad
  | .dn, _, S => .ok (.dic [] []) S
  | .dc, _, S => .ok (.ref S.length) (S ++ [.dic []])
  | .call f es, v, S => (dens es v S).bind fun xs S1 => cal f xs S1
  | .cak f m es ks kes perm, v, S => (dens es v S).bind fun xs S1 => (dens kes v S1).bind fun ys S2 => if xs.length = m ∧ ys.length = ks.length then cal f (permD perm (xs ++ ys)) S2 else .bad
  | .b1 f a, v, S => (den a v S).bind fun x S1 => b1D f x S1
  | .b2 f a b, v, S => (den a v S).bind fun x S1 => (den b v S1).bind fun y S2 => b2D f x y S2
  | .isa t a, v, S => (den a v S).bind fun x S1 => match isaD t x S1 with
    | some b => .ok (.bl b) S1
    | none => .bad
  | .ix a i, v, S => (den a v S).bind fun x S1 => (den i v S1).bind fun y S2 => ixD x y S2
  | .sl a lo hi, v, S => (den a v S).bind fun x S1 => (par lo v S1).bind fun l S2 => (par hi v S2).bind fun h S3 => slD x l h S3
  | .get2 a k d, v, S => (den a v S).bind fun x S1 => if isDct x S1 = true then (den k v S1).bind fun y S2 => (den d v S2).bind fun z S3 => get2D x y z S3 else .bad
  | .comp el t src c, v, S => (itr src v S).bind fun ds S1 => compF (fun d S2 => (asgN t d (wipeE v (slotsOf t)) S2).bind fun v1 S3 => (cnd c v1 S3).bind fun b S4 => if b = true then (den el v1 S4).bind fun x S5 => .ok (some x) S5 else .ok none S4) ds [] S1
  | .compc el t src c, v, S => (itrC src v S).bind fun p S1 => compC (fun d S2 => (asgN t d (wipeE v (slotsOf t)) S2).bind fun v1 S3 => (cnd c v1 S3).bind fun b S4 => if b = true then (den el v1 S4).bind fun x S5 => .ok (some x) S5 else .ok none S4) p.2 p.1 [] S1
  | .pop a, v, S => (den a v S).bind fun x S1 => match x with
    | .ref n => setCell n S1 fun xs => (xs[xs.length - 1]?).map fun d => (d, xs.dropLast)
    | _ => .bad
  | .popi a i, v, S => (den a v S).bind fun x S1 => if isLst x S1 = true then (den i v S1).bind fun y S2 => popiD x y S2 else .bad
  | .ins a i e, v, S => (den a v S).bind fun x S1 => if isLst x S1 = true then (den i v S1).bind fun y S2 => (den e v S2).bind fun z S3 => insD x y z S3 else .bad
  | .app a e, v, S => (den a v S).bind fun x S1 => if isLst x S1 = true then (den e v S1).bind fun y S2 => appD x y S2 else .bad
  | .extd a e, v, S => (den a v S).bind fun x S1 => if isLst x S1 = true then (den e v S1).bind fun y S2 => extD x y S2 else .bad
  | _, _, _ => .bad
/-- a test -/
def tst : E → Env → Store → R Bool
  | .not a, v, S => (tst a v S).bind fun b S1 => .ok (!b) S1
  | .and a b, v, S => (tst a v S).bind fun k S1 => if k = true then tst b v S1 else .ok false S1
  | .or a b, v, S => (tst a v S).bind fun k S1 => if k = true then .ok true S1 else tst b v S1
  | .cmp o a b, v, S => ((den a v S).bind fun x S1 => (den b v S1).bind fun y S2 => cmpD o x y S2).bind blD
  | .ch o p a b c, v, S => ((den a v S).bind fun x S1 => (den b v S1).bind fun y S2 => (cmpD o x y S2).bind fun k S3 => onT k ((den c v S3).bind fun z S4 => cmpD p y z S4) S3).bind blD
  | .ch3 o p q a b c d, v, S => ((den a v S).bind fun x S1 => (den b v S1).bind fun y S2 => (cmpD o x y S2).bind fun k S3 => onT k ((den c v S3).bind fun z S4 => (cmpD p y z S4).bind fun k S5 => onT k ((den d v S5).bind fun w S6 => cmpD q z w S6) S5) S3).bind blD
  | .call f es, v, S => ((dens es v S).bind fun xs S1 => cal f xs S1).bind truR
  | .isa t a, v, S => ((den a v S).bind fun x S1 => match isaD t x S1 with
    | some b => .ok (.bl b) S1
    | none => .bad).bind truR
  | .b1 f a, v, S => ((den a v S).bind fun x S1 => b1D f x S1).bind truR
  | .ix a i, v, S => ((den a v S).bind fun x S1 => (den i v S1).bind fun y S2 => ixD x y S2).bind truR
  | .var i, v, S => (match v[i]? with
    | some (.val d) => .ok d S
    | _ => .bad : R D).bind truR
  | .own i, v, S => (match v[i]? with
    | some (.own xs) => .ok (.lst xs) S
    | _ => .bad : R D).bind truR
  | _, _, _ => .bad
/-- no test, or one -/
def cnd : E → Env → Store → R Bool
  | .nl, _, S => .ok true S
  | .cs a _, v, S => tst a v S
  | _, _, _ => .bad
/-- a list of expressions -/
def dens : E → Env → Store → R (List D)
  | .nl, _, S => .ok [] S
  | .cs a es, v, S => (den a v S).bind fun x S1 => (dens es v S1).bind fun xs S2 => .ok (x :: xs) S2
  | .st a es, v, S => (den a v S).bind fun x S1 => match seqD x with
    | some xs => (dens es v S1).bind fun ys S2 => .ok (xs ++ ys) S2
    | none => .bad
  | _, _, _ => .bad
/-- a part of a slice -/
def par : E → Env → Store → R (Option Int)
  | .nl, _, S => .ok none S
  | .cs a _, v, S => (den a v S).bind fun x S1 => match x with
    | .int i => .ok (some i) S1
    | _ => .bad
  | _, _, _ => .bad
/-- what is walked -/
def itr : E → Env → Store → R (List D)
  | .rng1 a, v, S => (den a v S).bind fun x S1 => match x with
    | .int n => if rngOk 0 n then .ok (rngD 0 n) S1 else .bad
    | _ => .bad
  | .rng2 a b, v, S => (den a v S).bind fun x S1 => (den b v S1).bind fun y S2 => match x, y with
    | .int i, .int j => if rngOk i j then .ok (rngD i j) S2 else .bad
    | _, _ => .bad
  | .rng3 a b c, v, S => (den a v S).bind fun x S1 => (den b v S1).bind fun y S2 => (den c v S2).bind fun z S3 => match x, y, z with
    | .int i, .int j, .int k => if rg3Ok i j k then .ok (rng3D i j k) S3 else .bad
    | _, _, _ => .bad
  | .enu a, v, S => (den a v S).bind fun x S1 => match x with
    | .lst xs => .ok (enuD 0 xs) S1
    | .tup xs => .ok (enuD 0 xs) S1
    | _ => .bad
  | .zip a b, v, S => (den a v S).bind fun x S1 => (den b v S1).bind fun y S2 => match x, y with
    | .tup xs, .tup ys => .ok (zipD xs ys) S2
    | .lst xs, .lst ys => .ok (zipD xs ys) S2
    | .tup xs, .lst ys => .ok (zipD xs ys) S2
    | _, _ => .bad
  | .cs a _, v, S => (den a v S).bind fun x S1 => match x with
    | .tup xs => .ok xs S1
    | .lst xs => .ok xs S1
    | _ => .bad
  | _, _, _ => .bad
/-- what is walked, cells too -/
def itrC : E → Env → Store → R (List It1 × EndsI)
  | .enu a, v, S => (den a v S).bind fun x S1 => match lsI x S1 with
    | some p => .ok (enuI 0 p.1, p.2) S1
    | none => .bad
  | .zip a b, v, S => (den a v S).bind fun x S1 => (den b v S1).bind fun y S2 => match lsI x S2, lsI y S2 with
    | some p, some q => .ok (zipI p.1 q.1, p.2 ++ q.2) S2
    | _, _ => .bad
  | .cs a _, v, S => (den a v S).bind fun x S1 => match lsI x S1 with
    | some p => .ok p S1
    | none => .bad
  | _, _, _ => .bad
end
end
end IL
/-! IC: statements, loops, calls. -/
namespace IL
open PySem PySem.Spec PyProof.Rows L2

inductive O where
  | nx (v : Env) (S : Store) | brk (v : Env) (S : Store) | cnt (v : Env) (S : Store) | ret (d : D) (S : Store) | exc (c : Nat) (xs : List D) (S : Store) | bad

def R.o {α : Type} (r : R α) (f : α → Store → O) : O :=
  match r with
  | .ok a S => f a S
  | .exc c xs S => .exc c xs S
  | .bad => .bad
def O.thn (o : O) (f : Env → Store → O) : O :=
  match o with
  | .nx v S => f v S
  | o => o
/-- a body's end in a loop: what comes next -/
def O.lp (o : O) (f : Env → Store → O) : O :=
  match o with
  | .nx v S => f v S
  | .cnt v S => f v S
  | .brk v S => .nx v S
  | o => o

def whilN (c : Env → Store → R Bool) (b : Env → Store → O) : Nat → Env → Store → O
  | 0, _, _ => .bad
  | n + 1, v, S => (c v S).o fun k S1 => if k = true then (b v S1).lp (whilN c b n) else .nx v S1
open Classical in
noncomputable def whil (c : Env → Store → R Bool) (b : Env → Store → O) (v : Env) (S : Store) : O :=
  if h : ∃ n, whilN c b n v S ≠ .bad then whilN c b (choose h) v S else .bad
theorem whilN_mono (c : Env → Store → R Bool) (b : Env → Store → O) : ∀ (n : Nat) (v : Env) (S : Store), whilN c b n v S ≠ .bad → ∀ m, n ≤ m → whilN c b m v S = whilN c b n v S
  | 0, _, _, h, _, _ => absurd rfl h
  | n + 1, v, S, h, 0, hm => absurd hm (by omega)
  | n + 1, v, S, h, m + 1, hm => by
    unfold whilN at h ⊢
    cases hc : c v S with
    | bad => rfl
    | exc _ _ _ => rfl
    | ok k S1 =>
      rw [hc] at h
      cases k with
      | false => rfl
      | true =>
        have h' : (b v S1).lp (whilN c b n) ≠ .bad := h
        show (b v S1).lp (whilN c b m) = (b v S1).lp (whilN c b n)
        cases hb : b v S1 with
        | nx v2 S2 =>
          rw [hb] at h'
          exact whilN_mono c b n v2 S2 h' m (by omega)
        | cnt v2 S2 =>
          rw [hb] at h'
          exact whilN_mono c b n v2 S2 h' m (by omega)
        | brk v2 S2 => rfl
        | ret d S2 => rfl
        | exc _ _ _ => rfl
        | bad => rfl
theorem whil_of {c : Env → Store → R Bool} {b : Env → Store → O} {n : Nat} {v : Env} {S : Store} (h : whilN c b n v S ≠ .bad) : whil c b v S = whilN c b n v S := by
  have hx : ∃ n, whilN c b n v S ≠ .bad := ⟨n, h⟩
  unfold whil
  rw [dif_pos hx]
  have h2 := Classical.choose_spec hx
  rcases Nat.le_total n (Classical.choose hx) with l | l
  · exact whilN_mono c b _ _ _ h _ l
  · exact (whilN_mono c b _ _ _ h2 _ l).symm
theorem whil_bad {c : Env → Store → R Bool} {b : Env → Store → O} {v : Env} {S : Store} (h : ∀ n, whilN c b n v S = .bad) : whil c b v S = .bad := by
  unfold whil
  rw [dif_neg (fun ⟨n, q⟩ => q (h n))]
/-- one turn -/
theorem whil_eq (c : Env → Store → R Bool) (b : Env → Store → O) (v : Env) (S : Store) :
    whil c b v S = (c v S).o fun k S1 => if k = true then (b v S1).lp (whil c b) else .nx v S1 := by
  by_cases h : ∃ n, whilN c b n v S ≠ .bad
  · obtain ⟨n, hn⟩ := h
    rw [whil_of hn]
    cases n with
    | zero => exact absurd rfl hn
    | succ n =>
      unfold whilN at hn ⊢
      cases hc : c v S with
      | bad => rfl
      | exc _ _ _ => rfl
      | ok k S1 =>
        rw [hc] at hn
        cases k with
        | false => rfl
        | true =>
          have h' : (b v S1).lp (whilN c b n) ≠ .bad := hn
          show (b v S1).lp (whilN c b n) = (b v S1).lp (whil c b)
          cases hb : b v S1 with
          | nx v2 S2 =>
            rw [hb] at h'
            exact (whil_of (show whilN c b n v2 S2 ≠ .bad from h')).symm
          | cnt v2 S2 =>
            rw [hb] at h'
            exact (whil_of (show whilN c b n v2 S2 ≠ .bad from h')).symm
          | brk v2 S2 => rfl
          | ret d S2 => rfl
          | exc _ _ _ => rfl
          | bad => rfl
  · have h0 : ∀ n, whilN c b n v S = .bad := fun n => Classical.byContradiction fun q => h ⟨n, q⟩
    rw [whil_bad h0]
    cases hc : c v S with
    | bad => rfl
    | exc x y z =>
      have := h0 1
      unfold whilN at this
      rw [hc] at this
      cases this
    | ok k S1 =>
      cases k with
      | false =>
        have := h0 1
        unfold whilN at this
        rw [hc] at this
        cases this
      | true =>
        show _ = (b v S1).lp (whil c b)
        have hs : ∀ n, (b v S1).lp (whilN c b n) = .bad := fun n => by
          have := h0 (n + 1)
          unfold whilN at this
          rw [hc] at this
          exact this
        cases hb : b v S1 with
        | nx v2 S2 =>
          rw [hb] at hs
          exact (whil_bad hs).symm
        | cnt v2 S2 =>
          rw [hb] at hs
          exact (whil_bad hs).symm
        | brk v2 S2 => have := hs 0; rw [hb] at this; cases this
        | ret d S2 => have := hs 0; rw [hb] at this; cases this
        | exc _ _ _ => have := hs 0; rw [hb] at this; cases this
        | bad => rfl

def forF (g : D → Env → Store → R Env) (b : Env → Store → O) : List D → Env → Store → O
  | [], v, S => .nx v S
  | d :: ds, v, S => (g d v S).o fun v1 S1 => (b v1 S1).lp (forF g b ds)

def forC (g : D → Env → Store → R Env) (b : Env → Store → O) (ends : EndsI) : List It1 → Env → Store → O
  | [], v, S => if endsOk ends S = true then .nx v S else .bad
  | it :: its, v, S => match rdI it S with
    | some d => (g d v S).o fun v1 S1 => (b v1 S1).lp (forC g b ends its)
    | none => .bad
def setPar : List (Nat × Bool) → List D → Env → Option Env
  | [], [], v => some v
  | (i, true) :: ts, .lst xs :: ds, v => setPar ts ds (v.set i (.own xs))
  | (i, false) :: ts, d :: ds, v => setPar ts ds (v.set i (.val d))
  | _, _, _ => none

structure Fn where
  np : Nat
  nn : Nat
  body : S

/-- a list of the frame's own, subscripted -/
def ownIx : E → Option Nat
  | .own j => some j
  | _ => none
def setOwnD (j : Nat) (y d : D) (v : Env) (S : Store) : R Env :=
  match v[j]? with
  | some (.own xs) => match y with
    | .int k => match ixN xs.length k with
      | some n => .ok (v.set j (.own (xs.set n d))) S
      | none => .bad
    | _ => .bad
  | _ => .bad
section
variable (G : Str → Option D) (cal : Cal)
mutual
/-- a target gets data -/
def asgS : E → D → Env → Store → R Env
  | .var i, d, v, S => .ok (v.set i (.val d)) S
  | .tup es, d, v, S => match d with
    | .tup xs => asgSs es xs v S
    | .lst xs => asgSs es xs v S
    | _ => .bad
  | .ix a i, d, v, S => match ownIx a with
    | some j => (den G cal i v S).bind fun y S1 => setOwnD j y d v S1
    | none => (den G cal a v S).bind fun x S1 => (den G cal i v S1).bind fun y S2 => (setIxD x y d S2).bind fun _ S3 => .ok v S3
  | _, _, _, _ => .bad
def asgSs : E → List D → Env → Store → R Env
  | .nl, [], v, S => .ok v S
  | .cs t es, d :: ds, v, S => (asgS t d v S).bind fun v1 S1 => asgSs es ds v1 S1
  | _, _, _, _ => .bad
end
noncomputable def exec : S → Env → Store → O
  | .nop, v, S => .nx v S
  | .sq a b, v, S => (exec a v S).thn (exec b)
  | .asg t e, v, S => (den G cal e v S).o fun d S1 => (asgS G cal t d v S1).o fun v1 S2 => .nx v1 S2
  | .par ts es, v, S => (dens G cal es v S).o fun ds S1 => match setPar ts ds v with
    | some v1 => .nx v1 S1
    | none => .bad
  | .seto i e, v, S => (den G cal e v S).o fun d S1 => match d with
    | .lst xs => .nx (v.set i (.own xs)) S1
    | _ => .bad
  | .app i e, v, S => (den G cal e v S).o fun d S1 => match v[i]? with
    | some (.own xs) => if xs.length < sizeLine then .nx (v.set i (.own (xs ++ [d]))) S1 else .bad
    | _ => .bad
  | .ext i e, v, S => (den G cal e v S).o fun d S1 => match v[i]?, d with
    | some (.own xs), .lst ys => if xs.length + ys.length ≤ sizeLine then .nx (v.set i (.own (xs ++ ys))) S1 else .bad
    | _, _ => .bad
  | .expr e, v, S => (den G cal e v S).o fun _ S1 => .nx v S1
  | .ife c a b, v, S => (tst G cal c v S).o fun k S1 => if k = true then exec a v S1 else exec b v S1
  | .whl c b, v, S => whil (tst G cal c) (exec b) v S
  | .for_ t src b, v, S => (itr G cal src v S).o fun ds S1 => forF (asgN t) (exec b) ds v S1
  | .forc t src b, v, S => (itrC G cal src v S).o fun p S1 => forC (asgN t) (exec b) p.2 p.1 v S1
  | .ret e, v, S => (den G cal e v S).o fun d S1 => .ret d S1
  | .reto i, v, S => match v[i]? with
    | some (.own xs) => .ret (.lst xs) S
    | _ => .bad
  | .retn, _, S => .ret .non S
  | .brk, v, S => .brk v S
  | .cnt, v, S => .cnt v S
  | .pas, v, S => .nx v S
  | .frz i, v, S => match v[i]? with
    | some (.own xs) => .nx (v.set i (.val (.lst xs))) S
    | _ => .bad
  | _, _, _ => .bad
end
/-- the slots at a def's entry -/
def startE (np nn : Nat) (args : List D) : Env := args.map .val ++ List.replicate (nn - np) .no
noncomputable def callF (G : Str → Option D) (T : Str → Option Fn) : Nat → Str → List D → Store → R D
  | 0, _, _, _ => .bad
  | n + 1, f, args, S => match T f with
    | none => .bad
    | some d => if args.length = d.np then
        match exec G (callF G T n) d.body (startE d.np d.nn args) S with
        | .ret x S1 => .ok x S1
        | .nx _ S1 => .ok .non S1
        | .exc c xs S1 => .exc c xs S1
        | _ => .bad
      else .bad
end IL
/-! ID: how the layer's readings carry what is computed. -/
namespace IL
open PySem PySem.Spec PyProof.Rows L2

/-- an expression's value: any; a new list (where it is a list); a list that may be the frame's own -/
inductive Kd where
  | val | fr | own
  deriving DecidableEq

abbrev Bd := Addr → Prop
/-- a value that may be read -/
def RW (K : Frag) (H : Hp) (ρ : List Addr) (B : Bd) (d : D) (v : V) : Prop :=
  match d with
  | .lst xs => ∃ a vs, v = .ref a ∧ H a = some (.lst vs) ∧ a ∉ ρ ∧ RVs K H ρ B xs vs
  | d => RV K H ρ B d v
/-- a new list at a, which nothing names -/
def RF (K : Frag) (H H' : Hp) (ρ' : List Addr) (B : Bd) (S' : Store) (d : D) (v : V) : Prop :=
  match d with
  | .lst xs => ∃ a vs, v = .ref a ∧ H a = none ∧ H' a = some (.lst vs) ∧ a ∉ ρ' ∧ RVs K H' ρ' (fun b => B b ∨ b = a) xs vs ∧ RS K H' ρ' (fun b => B b ∨ b = a) S'
  | d => RV K H' ρ' B d v
def RK (K : Frag) (k : Kd) (B : Bd) (H H' : Hp) (ρ' : List Addr) (S' : Store) (d : D) (v : V) : Prop :=
  match k with
  | .val => RV K H' ρ' B d v
  | .fr => RF K H H' ρ' B S' d v
  | .own => RW K H' ρ' B d v
theorem RV.rw {K : Frag} {H : Hp} {ρ : List Addr} {B : Bd} {d : D} {v : V} (r : RV K H ρ B d v) : RW K H ρ B d v := by
  cases r with
  | lst h n b r => exact ⟨_, _, rfl, h, n, r⟩
  | non => exact .non
  | bl b => exact .bl b
  | int i => exact .int i
  | str x => exact .str x
  | tup h r => exact .tup h r
  | dic h l n b r => exact .dic h l n b r
  | ref h => exact .ref h
theorem RF.rv {K : Frag} {H H' : Hp} {ρ' : List Addr} {B : Bd} {S' : Store} {d : D} {v : V} (bt : ∀ a, B a → H a ≠ none) (r : RF K H H' ρ' B S' d v) : RV K H' ρ' B d v := by
  cases d with
  | lst xs =>
    obtain ⟨a, vs, rfl, h0, h1, hn, rs, _⟩ := r
    exact .lst h1 hn (fun q => bt a q h0) (rs.less fun b q => .inl q)
  | non => exact r
  | bl b => exact r
  | int i => exact r
  | str x => exact r
  | tup xs => exact r
  | dic ks xs => exact r
  | ref n => exact r
theorem RK.rw {K : Frag} {k : Kd} {H H' : Hp} {ρ' : List Addr} {B : Bd} {S' : Store} {d : D} {v : V} (bt : ∀ a, B a → H a ≠ none) (r : RK K k B H H' ρ' S' d v) : RW K H' ρ' B d v := by
  cases k with
  | val => exact RV.rw r
  | fr => exact (RF.rv bt r).rw
  | own => exact r
theorem RK.rv {K : Frag} {k : Kd} {H H' : Hp} {ρ' : List Addr} {B : Bd} {S' : Store} {d : D} {v : V} (bt : ∀ a, B a → H a ≠ none) (hk : k ≠ .own) (r : RK K k B H H' ρ' S' d v) : RV K H' ρ' B d v := by
  cases k with
  | val => exact r
  | fr => exact RF.rv bt r
  | own => exact absurd rfl hk
theorem RW.mono {K : Frag} {ρ ρ' : List Addr} {H H' : Hp} {B : Bd} (e : Ext K ρ H ρ' H') {d : D} {v : V} (r : RW K H ρ B d v) : RW K H' ρ' B d v := by
  cases d with
  | lst xs =>
    obtain ⟨a, vs, rfl, h1, n, rs⟩ := r
    exact ⟨a, vs, rfl, e.keep _ _ h1 n, fun h' => (by rw [e.new _ h' n] at h1; cases h1), rs.mono e⟩
  | non => exact RV.mono e r
  | bl b => exact RV.mono e r
  | int i => exact RV.mono e r
  | str x => exact RV.mono e r
  | tup xs => exact RV.mono e r
  | dic ks xs => exact RV.mono e r
  | ref n => exact RV.mono e r

/-- what is wanted behind a computation -/
abbrev Wish (α β : Type) := Bd → Hp → Hp → List Addr → Store → α → β → Prop
def Fin {α β : Type} (K : Frag) (B : Bd) (ρ : List Addr) (H : Hp) (P : Wish α β) (r : R α) (Q : β → Hp → Prop) : Prop :=
  match r with
  | .ok a S' => ∀ b H' ρ', Ext K ρ H ρ' H' → ρ'.Nodup → RS K H' ρ' B S' → P B H H' ρ' S' a b → Q b H'
  | _ => False
def tG {α β : Type} (K : Frag) (P : Wish α β) (f : Env → Store → R α) : L2.St → Hp → (β → Hp → Prop) → Prop := fun σ H Q =>
  ∃ env S ρ B, Rel K env S ρ B σ H ∧ Fin K B ρ H P (f env S) Q
def Down {α β : Type} (K : Frag) (P : Wish α β) : Prop := ∀ B ρ H ρ1 H1 ρ' H' S' a b, Ext K ρ H ρ1 H1 → Ext K ρ1 H1 ρ' H' → P B H1 H' ρ' S' a b → P B H H' ρ' S' a b
abbrev wE (K : Frag) (k : Kd) : Wish D V := RK K k
abbrev wT : Wish Bool Bool := fun _ _ _ _ _ a b => a = b
abbrev wO : Wish (Option Int) (Option Int) := fun _ _ _ _ _ a b => a = b
abbrev wA (K : Frag) : Wish (List D) (List V) := fun B _ H' ρ' _ ds vs => RVs K H' ρ' B ds vs
theorem down_E {K : Frag} {k : Kd} : Down K (wE K k) := by
  intro B ρ H ρ1 H1 ρ' H' S' d v e e' r
  cases k with
  | val => exact r
  | own => exact r
  | fr =>
    cases d with
    | lst xs =>
      obtain ⟨a, vs, rfl, h0, h1, hn, rs, q⟩ := r
      refine ⟨a, vs, rfl, ?_, h1, hn, rs, q⟩
      cases hh : H a with
      | none => rfl
      | some o =>
        have ha : a ∉ ρ := fun z => hn (e'.sub a (e.sub a z))
        rw [e.keep a o hh ha] at h0; cases h0
    | non => exact r
    | bl b => exact r
    | int i => exact r
    | str x => exact r
    | tup xs => exact r
    | dic ks xs => exact r
    | ref n => exact r
theorem down_T {K : Frag} : Down K wT := fun _ _ _ _ _ _ _ _ _ _ _ _ h => h
theorem down_O {K : Frag} : Down K wO := fun _ _ _ _ _ _ _ _ _ _ _ _ h => h
theorem down_A {K : Frag} : Down K (wA K) := fun _ _ _ _ _ _ _ _ _ _ _ _ h => h
section
variable {α β γ δ : Type} {K : Frag} {P : Wish α β} {P' : Wish γ δ} {env : Env} {S : Store} {ρ : List Addr} {B : Bd} {σ : L2.St} {H : Hp}
theorem Fin.step {r : R α} {Q : β → Hp → Prop} {ρ1 : List Addr} {H1 : Hp} (d : Down K P) (e : Ext K ρ H ρ1 H1) (h : Fin K B ρ H P r Q) : Fin K B ρ1 H1 P r Q := by
  cases r with
  | ok a S' => exact fun b H' ρ' e' nd rs p => h b H' ρ' (e.trans e') nd rs (d _ _ _ _ _ _ _ _ _ _ e e' p)
  | exc _ _ _ => exact h
  | bad => exact h
/-- first the one part, then the other -/
theorem Fin.bind {f : Env → Store → R α} {g : α → Store → R γ} {Q : δ → Hp → Prop} {T : β → Hp → Prop} (d : Down K P') (rel : Rel K env S ρ B σ H) (fin : Fin K B ρ H P' ((f env S).bind g) Q)
    (h : ∀ a S1 b H1 ρ1, Rel K env S1 ρ1 B σ H1 → Ext K ρ H ρ1 H1 → P B H H1 ρ1 S1 a b → Fin K B ρ1 H1 P' (g a S1) Q → T b H1) : tG K P f σ H T := by
  refine ⟨env, S, ρ, B, rel, ?_⟩
  cases hf : f env S with
  | ok a S1 =>
    rw [hf] at fin
    intro b H1 ρ1 e nd rs p
    exact h a S1 b H1 ρ1 (rel.mono e rs nd) e p (Fin.step d e fin)
  | exc _ _ _ => rw [hf] at fin; exact fin
  | bad => rw [hf] at fin; exact fin
/-- .. the last part -/
theorem Fin.last {f : Env → Store → R α} {Q : β → Hp → Prop} (rel : Rel K env S ρ B σ H) (fin : Fin K B ρ H P (f env S) Q) : tG K P f σ H Q := ⟨env, S, ρ, B, rel, fin⟩
/-- a value, the heap as it stands -/
theorem Fin.here {a : α} {Q : β → Hp → Prop} {b : β} (rel : Rel K env S ρ B σ H) (fin : Fin K B ρ H P (.ok a S) Q) (h : P B H H ρ S a b) : Q b H := fin b H ρ .refl rel.nd rel.rs h
theorem Rel.b0 (rel : Rel K env S ρ B σ H) : ∀ a, B a → H a ≠ none := fun a h => (rel.bt a h).1
/-- data that is no list -/
def notL : D → Bool
  | .lst _ => false
  | _ => true
theorem RK.of_rv {k : Kd} {H' : Hp} {ρ' : List Addr} {S' : Store} {d : D} {v : V} (hl : notL d = true) (r : RV K H' ρ' B d v) : RK K k B H H' ρ' S' d v := by
  cases k with
  | val => exact r
  | fr => cases d <;> first | exact r | (cases hl)
  | own => cases d <;> first | exact r | (cases hl)
/-- a value that is no list comes of the rule at hand -/
theorem Fin.flat {k : Kd} {d : D} {v : V} {Q : V → Hp → Prop} (rel : Rel K env S ρ B σ H) (fin : Fin K B ρ H (wE K k) (.ok d S) Q) (hl : notL d = true) (r : RV K H ρ B d v) : Q v H :=
  Fin.here rel fin (RK.of_rv hl r)
theorem RVs.new {ds : List D} {vs : List V} {p : Addr} {o : HO} (hp : H p = none) (rt : ∀ a, a ∈ ρ → H a ≠ none) (r : RVs K H ρ B ds vs) : RVs K (L2.upd H p o) ρ (fun b => B b ∨ b = p) ds vs :=
  (r.more (B' := fun b => B b ∨ b = p) fun a u h e => h.elim _root_.id fun q => by subst q; rw [hp] at e; cases e).mono (Ext.upd_new hp rt)
theorem RS.new {p : Addr} {o : HO} (hp : H p = none) (r : RS K H ρ B S) : RS K (L2.upd H p o) ρ (fun b => B b ∨ b = p) S :=
  (r.more (B' := fun b => B b ∨ b = p) fun a u h e => h.elim _root_.id fun q => by subst q; rw [hp] at e; cases e).ext (Ext.upd_new hp r.trk) fun a ha => upd_ne fun q => by subst q; exact r.trk _ ha hp
theorem Fin.newL {k : Kd} {xs : List D} {vs : List V} {Q : V → Hp → Prop} (rel : Rel K env S ρ B σ H) (fin : Fin K B ρ H (wE K k) (.ok (.lst xs) S) Q) (r : RVs K H ρ B xs vs) : ∀ p, H p = none → Q (.ref p) (upd H p (.lst vs)) := by
  intro p hp
  have hr : p ∉ ρ := fun z => rel.trk p z hp
  have e : Ext K ρ H ρ (upd H p (.lst vs)) := Ext.upd_new hp rel.trk
  have rs := RS.new (o := .lst vs) hp rel.rs
  have rv := r.new (o := .lst vs) hp rel.trk
  refine fin _ _ ρ e rel.nd (rs.less fun b q => .inl q) ?_
  cases k with
  | fr => exact ⟨p, vs, rfl, hp, upd_same, hr, rv, rs⟩
  | val => exact .lst upd_same hr (fun q => rel.b0 p q hp) (rv.less fun b q => .inl q)
  | own => exact ⟨p, vs, rfl, upd_same, hr, rv.less fun b q => .inl q⟩
theorem Fin.newT {k : Kd} {xs : List D} {vs : List V} {Q : V → Hp → Prop} (rel : Rel K env S ρ B σ H) (fin : Fin K B ρ H (wE K k) (.ok (.tup xs) S) Q) (r : RVs K H ρ B xs vs) : ∀ p, H p = none → Q (.ref p) (upd H p (.tup vs)) := by
  intro p hp
  have e : Ext K ρ H ρ (upd H p (.tup vs)) := Ext.upd_new hp rel.trk
  have rs := RS.new (o := .tup vs) hp rel.rs
  have rv := r.new (o := .tup vs) hp rel.trk
  exact fin _ _ ρ e rel.nd (rs.less fun b q => .inl q) (RK.of_rv rfl (.tup (SqT.of upd_same) (rv.less fun b q => .inl q)))
end
end IL
set_option maxHeartbeats 4000000
/-! IE0: tuple * 1, tuple * 0. -/
namespace L2
open PySem PySem.Spec PyProof.Rows
theorem il_mul_same (l : Addr) (items : Array Value) (n : Nat) (dd : Option Addr) (sl : Array (Option Value)) (x : Int) (u : Tok) (c0 : (decide (x < -(2 ^ 63)) || decide (x ≥ 2 ^ 63)) = false) (c1 : (items.isEmpty || x == 1) = true) :
    Meets (Builtin.«tuple.__mul__» ⟨[.ref l, .int x u], []⟩) (fun _ R s => s.heap.get? l = some { cls := .type "tuple", dict := dd, data := .seq items n, slots := sl } ∧
      R (.ok (.ret (Value.ref l))) s) :=
  .of_wp fun prog w A R s h => by
    obtain ⟨hp, g, d, tk, os⟩ := s
    obtain ⟨hl, h⟩ := h
    have f1 := AutoSeq1.idx_int
    wp_walk using wpAny_loadPart' hl
    repeat (first
      | (refine wpAny_ite_false (decide_eq_false (by rw [c0]; exact Bool.false_ne_true)) ?_; wp_walk using wpAny_loadPart' hl)
      | (refine wpAny_ite_true (decide_eq_true c1) ?_; wp_walk using wpAny_loadPart' hl))
    exact ⟨_, rfl, h⟩
theorem il_mul_none (l : Addr) (items : Array Value) (n : Nat) (dd : Option Addr) (sl : Array (Option Value)) (x : Int) (u : Tok) (c0 : (decide (x < -(2 ^ 63)) || decide (x ≥ 2 ^ 63)) = false) (c1 : (items.isEmpty || x == 1) = false) (c2 : (decide (x ≤ 0) || items.isEmpty) = true) :
    Meets (Builtin.«tuple.__mul__» ⟨[.ref l, .int x u], []⟩) (fun _ R s => s.heap.get? l = some { cls := .type "tuple", dict := dd, data := .seq items n, slots := sl } ∧
      R (.ok (.ret (Value.ref s.heap.objs.size))) { s with heap := s.heap.push { cls := Value.type "tuple", data := Data.seq #[] } }) :=
  .of_wp fun prog w A R s h => by
    obtain ⟨hp, g, d, tk, os⟩ := s
    obtain ⟨hl, h⟩ := h
    have f1 := AutoSeq1.idx_int
    wp_walk using wpAny_loadPart' hl
    repeat (first
      | (refine wpAny_ite_false (decide_eq_false (by rw [c0]; exact Bool.false_ne_true)) ?_; wp_walk using wpAny_loadPart' hl)
      | (refine wpAny_ite_false (decide_eq_false (by rw [c1]; exact Bool.false_ne_true)) ?_; wp_walk using wpAny_loadPart' hl)
      | (refine wpAny_ite_true (decide_eq_true c2) ?_; wp_walk using wpAny_loadPart' hl))
    exact ⟨_, rfl, h⟩
end L2
namespace IL
open PySem PySem.Spec PyProof.Rows L2
section
variable {X : Cx}
def rRep1 (K : PySem.W.Frag) : R2 := fun x y H Q => ∃ l k xs, x = .ref l ∧ y = .int k ∧ SqT K H l xs ∧ (xs = [] ∨ k = 1) ∧ -(2 ^ 63) ≤ k ∧ k < 2 ^ 63 ∧ Q (.ref l) H
def rRep0 (K : PySem.W.Frag) : R2 := fun x y H Q => ∃ l k xs, x = .ref l ∧ y = .int k ∧ SqT K H l xs ∧ xs ≠ [] ∧ k ≤ 0 ∧ -(2 ^ 63) ≤ k ∧ ∀ p, H p = none → Q (.ref p) (upd H p (.tup []))
theorem op_rep1 : OpR X (binaryOp .Mult) (rRep1 X.K) := by
  intro pins s σ H x y v u Q I rx ry h
  obtain ⟨l, k, xs, rfl, rfl, hT, hk, h1, h2, q⟩ := h
  cases rx
  obtain ⟨t, rfl⟩ := ry
  obtain ⟨its, r, ⟨⟨cls, dd, data, sl⟩, ho, hc, n, hd⟩, hs⟩ := I.tuple hT
  simp only at hc hd
  subst hc hd
  have c0 : (decide (k < -(2 ^ 63)) || decide (k ≥ 2 ^ 63)) = false := by
    rw [decide_eq_false (by omega), decide_eq_false (by omega)] <;> rfl
  have c1 : (its.toArray.isEmpty || k == 1) = true := by
    rcases hk with hk | hk
    · subst hk
      cases r
      rfl
    · subst hk
      rw [Bool.or_eq_true]
      exact .inr rfl
  exact wpAny_binaryOp_repeat_ref (T := "tuple") (U := "int") (by decide) ⟨_, ho, rfl⟩ (fun s' => typeIs_int s' k t) noFill_tuple_mul F.fills_int_mul F.slot_int_rmul repeat_tuple F.slot_int_index.lookup
    (call_meets F.slot_int_rmul (typeIs_int s k t) F.entry_int_rmul (F.args_int_rmul_2 _ _) (int_rmul_tuple k t l its.toArray n dd sl)
      ⟨ho, rfl, ⟨_, ho, rfl⟩, call_meets F.slot_tuple_mul ⟨_, ho, rfl⟩ F.entry_tuple_mul (F.args_tuple_mul_2 _ _) (il_mul_same l its.toArray n dd sl k t c0 c1) ⟨ho, .ref l, H, I, rfl, q⟩⟩)
theorem op_rep0 : OpR X (binaryOp .Mult) (rRep0 X.K) := by
  intro pins s σ H x y v u Q I rx ry h
  obtain ⟨l, k, xs, rfl, rfl, hT, hne, h1, h2, q⟩ := h
  cases rx
  obtain ⟨t, rfl⟩ := ry
  obtain ⟨its, r, ⟨⟨cls, dd, data, sl⟩, ho, hc, n, hd⟩, hs⟩ := I.tuple hT
  simp only at hc hd
  subst hc hd
  have hi : its.toArray.isEmpty = false := by
    cases r with
    | nil => exact absurd rfl hne
    | cons _ _ => rfl
  have c0 : (decide (k < -(2 ^ 63)) || decide (k ≥ 2 ^ 63)) = false := by
    rw [decide_eq_false (by omega), decide_eq_false (by omega)] <;> rfl
  have c1 : (its.toArray.isEmpty || k == 1) = false := by
    rw [hi, Bool.false_or]
    exact beq_eq_false_iff_ne.mpr (by omega)
  have c2 : (decide (k ≤ 0) || its.toArray.isEmpty) = true := by
    rw [decide_eq_true h1] <;> rfl
  refine wpAny_binaryOp_repeat_ref (T := "tuple") (U := "int") (by decide) ⟨_, ho, rfl⟩ (fun s' => typeIs_int s' k t) noFill_tuple_mul F.fills_int_mul F.slot_int_rmul repeat_tuple F.slot_int_index.lookup
    (call_meets F.slot_int_rmul (typeIs_int s k t) F.entry_int_rmul (F.args_int_rmul_2 _ _) (int_rmul_tuple k t l its.toArray n dd sl)
      ⟨ho, rfl, ⟨_, ho, rfl⟩, call_meets F.slot_tuple_mul ⟨_, ho, rfl⟩ F.entry_tuple_mul (F.args_tuple_mul_2 _ _) (il_mul_none l its.toArray n dd sl k t c0 c1 c2) ⟨ho, ?_⟩⟩)
  refine ⟨.ref s.heap.objs.size, _, I.laid (t' := s.toks) (o := .tup []) (fun b ob q => Heap.get?_push_of_some _ q) (Nat.le_refl _) ?_, rfl, q _ (I.hok.fresh (Nat.le_refl _))⟩
  exact ⟨Nat.zero_le _, [], .nil, IsTup.new _ _⟩
/-- two lists, two tuples, of which the second one has no items -/
def rEmp (K : PySem.W.Frag) (f : Bool → Bool) : R2 := fun x y H Q => ∃ a b xs, x = .ref a ∧ y = .ref b ∧ ((SqT K H a xs ∧ SqT K H b []) ∨ (SqL K H a xs ∧ SqL K H b [])) ∧ Q (.bl (f xs.isEmpty)) H
theorem emp_its {xs : List V} {its : List Value} (r : Vals xs its) : its.isEmpty = xs.isEmpty := by cases r <;> rfl
theorem op_eqE (hu : X.A.units + 64 < cLine) : OpR X (compareOp .Eq) (rEmp X.K id) := by
  intro pins s σ H x y v u Q I rx ry h
  obtain ⟨a, b, xs, rfl, rfl, h, q⟩ := h
  cases rx
  cases ry
  rcases h with ⟨h1, h2⟩ | ⟨h1, h2⟩
  · obtain ⟨its, r, p, _⟩ := I.tuple h1
    obtain ⟨its2, r2, p2, _⟩ := I.tuple h2
    cases r2
    refine SeqAt.RcAt.tuples (e := fun _ => true) (show s.heap.IsTuple a its.toArray from p) (show s.heap.IsTuple b ([] : List Value).toArray from p2) (by omega) (fun j _ h2 => absurd h2 (by simp)) X.prog X.w X.xe _ ?_
    refine ⟨.bl xs.isEmpty, H, I, ?_, q⟩
    rw [← emp_its r]
    cases its <;> rfl
  · obtain ⟨its, r, p, _⟩ := I.list h1
    obtain ⟨its2, r2, p2, _⟩ := I.list h2
    cases r2
    cases r with
    | nil => exact SeqAt.RcAt.lists (e := fun _ => true) p.isList p2.isList rfl (by omega) (fun j _ h2 => absurd h2 (by simp)) X.prog X.w X.xe _ ⟨.bl true, H, I, rfl, q⟩
    | cons _ _ => exact SeqAt.RcAt.lists_lengths p.isList p2.isList (by simp) (by omega) X.prog X.w X.xe _ ⟨.bl false, H, I, rfl, q⟩
theorem op_neE (hu : X.A.units + 64 < cLine) : OpR X (compareOp .NotEq) (rEmp X.K not) := by
  intro pins s σ H x y v u Q I rx ry h
  obtain ⟨a, b, xs, rfl, rfl, h, q⟩ := h
  cases rx
  cases ry
  rcases h with ⟨h1, h2⟩ | ⟨h1, h2⟩
  · obtain ⟨its, r, p, _⟩ := I.tuple h1
    obtain ⟨its2, r2, p2, _⟩ := I.tuple h2
    cases r2
    refine SeqAt.RcNeAt.tuples (e := fun _ => true) (show s.heap.IsTuple a its.toArray from p) (show s.heap.IsTuple b ([] : List Value).toArray from p2) (by omega) (fun j _ h2 => absurd h2 (by simp)) X.prog X.w X.xe _ ?_
    refine ⟨.bl (!xs.isEmpty), H, I, ?_, q⟩
    rw [← emp_its r]
    cases its <;> rfl
  · obtain ⟨its, r, p, _⟩ := I.list h1
    obtain ⟨its2, r2, p2, _⟩ := I.list h2
    cases r2
    cases r with
    | nil => exact SeqAt.RcNeAt.lists (e := fun _ => true) p.isList p2.isList rfl (by omega) (fun j _ h2 => absurd h2 (by simp)) X.prog X.w X.xe _ ⟨.bl false, H, I, rfl, q⟩
    | cons _ _ => exact SeqAt.RcNeAt.lists_lengths p.isList p2.isList (by simp) (by omega) X.prog X.w X.xe _ ⟨.bl true, H, I, rfl, q⟩
end
end IL
/-! IE: the operations on data, as the layer's rules see them. -/
namespace IL
open PySem PySem.Spec PyProof.Rows L2
section
variable {X : Cx} {K : Frag} {env : Env} {S : Store} {ρ : List Addr} {B : Bd} {σ : L2.St} {H : Hp} {k : Kd} {Q : V → Hp → Prop} {a b c : D} {x y z : V}

theorem PE.mono {e : Expr} {t t' : TE} (h : PE X e t) (m : ∀ σ H Q, t' σ H Q → t σ H Q) : PE X e t' := ⟨fun pins s σ H Q I q => h.run pins s σ H Q I (m σ H Q q)⟩
theorem PT.mono {e : Expr} {t t' : TT} (h : PT X e t) (m : ∀ σ H Q, t' σ H Q → t σ H Q) : PT X e t' := ⟨fun pins s σ H Q I q => h.run pins s σ H Q I (m σ H Q q)⟩
theorem PA.mono {e : List Expr} {t t' : TA} (h : PA X e t) (m : ∀ σ H Q, t' σ H Q → t σ H Q) : PA X e t' := ⟨fun pos pins s σ H Q I q => h.run pos pins s σ H Q I (m σ H Q q)⟩
theorem PI.mono {tg e : Expr} {t t' : TI} (h : PI X tg e t) (m : ∀ σ H Q, t' σ H Q → t σ H Q) : PI X tg e t' := ⟨fun pins s σ H Q I q => h.run pins s σ H Q I (m σ H Q q)⟩
theorem PO.mono {e : Option Expr} {t t' : TO} (h : PO X e t) (m : ∀ σ H Q, t' σ H Q → t σ H Q) : PO X e t' := ⟨fun pins s σ H Q I q => h.run pins s σ H Q I (m σ H Q q)⟩
theorem PS.mono {e : Stmt} {t t' : TS} (h : PS X e t) (m : ∀ D σ H, t' D σ H → t D σ H) : PS X e t' := ⟨fun pins s σ H Q I q => h.run pins s σ H Q I (m Q σ H q)⟩
theorem PSs.mono {e : List Stmt} {t t' : TS} (h : PSs X e t) (m : ∀ D σ H, t' D σ H → t D σ H) : PSs X e t' := ⟨fun pins s σ H Q I q => h.run pins s σ H Q I (m Q σ H q)⟩
theorem PG.mono {e : Expr} {t t' : TG} (h : PG X e t) (m : ∀ v σ H Q, t' v σ H Q → t v σ H Q) : PG X e t' := ⟨fun pins s σ H v u Q I r q => h.run pins s σ H v u Q I r (m v σ H Q q)⟩

theorem RW.int {i : Int} (h : RW K H ρ B (.int i) x) : x = .int i := by cases h with | int _ => rfl
theorem RW.bl {i : Bool} (h : RW K H ρ B (.bl i) x) : x = .bl i := by cases h with | bl _ => rfl
theorem RW.str {i : Str} (h : RW K H ρ B (.str i) x) : x = .str i := by cases h with | str _ => rfl
theorem RW.non (h : RW K H ρ B .non x) : x = .non := by cases h with | non => rfl
theorem RW.lst {xs : List D} (h : RW K H ρ B (.lst xs) x) : ∃ a vs, x = .ref a ∧ H a = some (.lst vs) ∧ a ∉ ρ ∧ RVs K H ρ B xs vs := h
theorem RW.tup {xs : List D} (h : RW K H ρ B (.tup xs) x) : ∃ a vs, x = .ref a ∧ SqT K H a vs ∧ RVs K H ρ B xs vs := by cases h with | tup h r => exact ⟨_, _, rfl, h, r⟩
theorem RW.ref {n : Nat} (h : RW K H ρ B (.ref n) x) : ∃ a, x = .ref a ∧ ρ[n]? = some a := by cases h with | ref h => exact ⟨_, rfl, h⟩
theorem flat_int (rel : Rel K env S ρ B σ H) {i : Int} (fin : Fin K B ρ H (wE K k) (.ok (.int i) S) Q) : Q (.int i) H := Fin.flat rel fin rfl (.int i)
theorem flat_bl (rel : Rel K env S ρ B σ H) {i : Bool} (fin : Fin K B ρ H (wE K k) (.ok (.bl i) S) Q) : Q (.bl i) H := Fin.flat rel fin rfl (.bl i)
theorem flat_str (rel : Rel K env S ρ B σ H) {i : Str} (fin : Fin K B ρ H (wE K k) (.ok (.str i) S) Q) : Q (.str i) H := Fin.flat rel fin rfl (.str i)
theorem flat_non (rel : Rel K env S ρ B σ H) (fin : Fin K B ρ H (wE K k) (.ok .non S) Q) : Q .non H := Fin.flat rel fin rfl .non
theorem ok_if {α β : Type} {P : Wish α β} {p : Prop} [Decidable p] {r : R α} {Q : β → Hp → Prop} (fin : Fin K B ρ H P (if p then r else .bad) Q) : p ∧ Fin K B ρ H P r Q := by
  split at fin
  · exact ⟨‹p›, fin⟩
  · exact fin.elim
theorem RVs.append_nil {ds : List D} {vs : List V} (r : RVs K H ρ B ds vs) : vs = [] ↔ ds = [] := by
  cases r with
  | nil => simp
  | cons _ _ => simp

/-! ### two-place operators -/
def rNo : R2 := fun _ _ _ _ => False
def rAddA (K : Frag) : R2 := fun x y H Q => (rI0 fun i j => .int (i + j)) x y H Q ∨ (fun x y H Q => ∃ i j, x = .str i ∧ y = .str j ∧ i.length + j.length ≤ sizeLine ∧ Q (.str (i ++ j)) H) x y H Q ∨ rCat x y H Q ∨ rCatA K x y H Q
def rMulS : R2 := fun x y H Q => ∃ i n, x = .str i ∧ y = .int n ∧ MulOk i n ∧ Q (.str (Txt.mul i n)) H
theorem op_mulS : OpR X (binaryOp .Mult) rMulS := by
  intro pins s σ H x y v u Q I rx ry h
  obtain ⟨i, n, rfl, rfl, h1, q⟩ := h
  obtain ⟨t, rfl⟩ := rx
  obtain ⟨t', rfl⟩ := ry
  exact SB.mul h1 fun t'' k => ⟨.str _, H, I.tok _, ⟨_, rfl⟩, q⟩
def rMulA (K : Frag) : R2 := fun x y H Q => ((rI CMul fun i j => .int (i * j)) x y H Q ∨ (rI CMulX fun i j => .int (i * j)) x y H Q) ∨ rRep x y H Q ∨ rRepT K x y H Q ∨ rMulS x y H Q ∨ rRep1 K x y H Q ∨ rRep0 K x y H Q
theorem op_addA : OpR X (binaryOp .Add) (rAddA X.K) := OpR.or op_add (OpR.or op_add_str (OpR.or op_cat op_catA))
theorem op_mulA : OpR X (binaryOp .Mult) (rMulA X.K) := OpR.or (OpR.or op_mul op_mulX) (OpR.or op_rep (OpR.or op_repT (OpR.or op_mulS (OpR.or op_rep1 op_rep0))))
def rBin (K : Frag) : Operator → R2
  | .Add => rAddA K
  | .Sub => rI0 fun i j => .int (i - j)
  | .Mult => rMulA K
  | .FloorDiv => rI CDivW fun i j => .int (i / j)
  | .Mod => rI (fun _ j => 0 < j) fun i j => .int (i % j)
  | .Pow => rI CPow fun i j => .int (i ^ j.toNat)
  | .LShift => rI CShl fun i j => .int (i * 2 ^ j.toNat)
  | .RShift => rI (fun _ j => 0 ≤ j) fun i j => .int (i / 2 ^ j.toNat)
  | .BitAnd => rI0 fun i j => .int (Builtin.bitAnd i j)
  | .BitXor => rI0 fun i j => .int (Builtin.bitXor i j)
  | _ => rNo
theorem op_bin (o : Operator) : OpR X (binaryOp o) (rBin X.K o) := by
  cases o with
  | Add => exact op_addA
  | Sub => exact op_sub
  | Mult => exact op_mulA
  | FloorDiv => exact op_fdivW
  | Mod => exact op_mod
  | Pow => exact op_pow
  | LShift => exact op_shlW
  | RShift => exact op_shr
  | BitAnd => exact op_and
  | BitXor => exact op_xor
  | MatMult => exact fun _ _ _ _ _ _ _ _ _ _ _ _ h => h.elim
  | Div => exact fun _ _ _ _ _ _ _ _ _ _ _ _ h => h.elim
  | BitOr => exact fun _ _ _ _ _ _ _ _ _ _ _ _ h => h.elim
theorem RVs.repl {ds : List D} {vs : List V} (r : RVs K H ρ B ds vs) : ∀ n, RVs K H ρ B (rep n ds) (rep n vs)
  | 0 => .nil
  | n + 1 => by
    unfold rep
    rw [List.replicate_succ, List.replicate_succ, List.flatten_cons, List.flatten_cons]
    exact r.append (RVs.repl r n)
theorem cell_lst {n : Nat} {xs : List D} {p : Addr} (rs : RS K H ρ B S) (hn : ρ[n]? = some p) (h : S[n]? = some (.lst xs)) : ∃ vs, H p = some (.lst vs) ∧ RVs K H ρ B xs vs := by
  obtain ⟨q, o, h1, h2, h3⟩ := rs.2 n _ h
  rw [hn] at h1; cases h1
  cases h3 with
  | lst r => exact ⟨_, h2, r⟩
theorem sem_bin (o : Operator) (rel : Rel K env S ρ B σ H) (ra : RW K H ρ B a x) (rb : RW K H ρ B b y) (fin : Fin K B ρ H (wE K k) (binD o a b S) Q) : rBin K o x y H Q := by
  unfold binD at fin
  split at fin
  · cases ra.int; cases rb.int
    exact .inl ⟨_, _, rfl, rfl, flat_int rel fin⟩
  · cases ra.int; cases rb.int
    exact ⟨_, _, rfl, rfl, flat_int rel fin⟩
  · cases ra.int; cases rb.int
    obtain ⟨h, fin⟩ := ok_if fin
    exact .inl (h.imp (fun h => ⟨_, _, rfl, rfl, h, flat_int rel fin⟩) fun h => ⟨_, _, rfl, rfl, h, flat_int rel fin⟩)
  · cases ra.int; cases rb.int
    obtain ⟨h, fin⟩ := ok_if fin
    exact ⟨_, _, rfl, rfl, h, flat_int rel fin⟩
  · cases ra.int; cases rb.int
    obtain ⟨h, fin⟩ := ok_if fin
    exact ⟨_, _, rfl, rfl, h, flat_int rel fin⟩
  · cases ra.int; cases rb.int
    obtain ⟨h, fin⟩ := ok_if fin
    exact ⟨_, _, rfl, rfl, h, flat_int rel fin⟩
  · cases ra.int; cases rb.int
    obtain ⟨h, fin⟩ := ok_if fin
    exact ⟨_, _, rfl, rfl, h, flat_int rel fin⟩
  · cases ra.int; cases rb.int
    obtain ⟨h, fin⟩ := ok_if fin
    exact ⟨_, _, rfl, rfl, h, flat_int rel fin⟩
  · cases ra.int; cases rb.int
    exact ⟨_, _, rfl, rfl, flat_int rel fin⟩
  · cases ra.int; cases rb.int
    exact ⟨_, _, rfl, rfl, flat_int rel fin⟩
  · cases ra.str; cases rb.str
    obtain ⟨h, fin⟩ := ok_if fin
    exact .inr (.inl ⟨_, _, rfl, rfl, h, flat_str rel fin⟩)
  · obtain ⟨p, vs, rfl, h1, _, r1⟩ := ra.lst
    obtain ⟨q, ws, rfl, h2, _, r2⟩ := rb.lst
    obtain ⟨h, fin⟩ := ok_if fin
    exact .inr (.inr (.inl ⟨_, _, _, _, rfl, rfl, h1, h2, by rw [← r1.length, ← r2.length]; exact h, Fin.newL rel fin (r1.append r2)⟩))
  · obtain ⟨p, vs, rfl, h1, r1⟩ := ra.tup
    obtain ⟨q, ws, rfl, h2, r2⟩ := rb.tup
    obtain ⟨h, fin⟩ := ok_if fin
    refine .inr (.inr (.inr ⟨_, _, _, _, rfl, rfl, h1, h2, by rw [← r1.length, ← r2.length]; exact h, fun e => ?_, fun n e => ?_, fun _ _ => Fin.newT rel fin (r1.append r2)⟩))
    · subst e
      cases r1
      exact Fin.flat rel fin rfl (.tup h2 r2)
    · subst e
      cases r2
      rw [List.append_nil] at fin
      exact Fin.flat rel fin rfl (.tup h1 r1)
  · obtain ⟨p, vs, rfl, h1, _, r1⟩ := ra.lst
    cases rb.int
    obtain ⟨h, fin⟩ := ok_if fin
    exact .inr (.inl ⟨_, _, _, rfl, rfl, h1, h.1, h.2.1, by rw [← r1.length]; exact h.2.2, Fin.newL rel fin (r1.repl _)⟩)
  · obtain ⟨p, vs, rfl, h1, r1⟩ := ra.tup
    cases rb.int
    split at fin
    · rename_i h
      exact .inr (.inr (.inl ⟨_, _, _, rfl, rfl, h1, fun e => h.1 (r1.append_nil.mp e), h.2.1, h.2.2.1, by rw [← r1.length]; exact h.2.2.2, Fin.newT rel fin (r1.repl _)⟩))
    · split at fin
      · rename_i h
        exact .inr (.inr (.inr (.inr (.inl ⟨_, _, _, rfl, rfl, h1, h.1.imp r1.append_nil.mpr id, h.2.1, h.2.2, Fin.flat rel fin rfl (.tup h1 r1)⟩))))
      · obtain ⟨h, fin⟩ := ok_if fin
        exact .inr (.inr (.inr (.inr (.inr ⟨_, _, _, rfl, rfl, h1, fun e => h.1 (r1.append_nil.mp e), h.2.1, h.2.2, Fin.newT rel fin .nil⟩))))
  · cases ra.str
    cases rb.int
    obtain ⟨h, fin⟩ := ok_if fin
    exact .inr (.inr (.inr (.inl ⟨_, _, rfl, rfl, h, flat_str rel fin⟩)))
  · obtain ⟨p, vs, rfl, h1, _, r1⟩ := ra.lst
    obtain ⟨q, rfl, hn⟩ := rb.ref
    split at fin
    · rename_i hS
      obtain ⟨ws, h2, r2⟩ := cell_lst rel.rs hn hS
      obtain ⟨h, fin⟩ := ok_if fin
      exact .inr (.inr (.inl ⟨_, _, _, _, rfl, rfl, h1, h2, by rw [← r1.length, ← r2.length]; exact h, Fin.newL rel fin (r1.append r2)⟩))
    · exact fin.elim
  · obtain ⟨p, rfl, hn⟩ := ra.ref
    obtain ⟨q, ws, rfl, h2, _, r2⟩ := rb.lst
    split at fin
    · rename_i hS
      obtain ⟨vs, h1, r1⟩ := cell_lst rel.rs hn hS
      obtain ⟨h, fin⟩ := ok_if fin
      exact .inr (.inr (.inl ⟨_, _, _, _, rfl, rfl, h1, h2, by rw [← r1.length, ← r2.length]; exact h, Fin.newL rel fin (r1.append r2)⟩))
    · exact fin.elim
  · exact fin.elim

/-! ### data as the library has it -/
mutual
/-- .. with {} -/
inductive Dq (K : Frag) (H : Hp) : V → PyData → Prop
  | non : Dq K H .non .none
  | bl (b : Bool) : Dq K H (.bl b) (.bool b)
  | int (i : Int) : Dq K H (.int i) (.int i)
  | str (x : Str) : Dq K H (.str x) (.str x)
  | lst {a : Addr} {xs : List V} {ds : List PyData} : SqL K H a xs → DqAll K H xs ds → Dq K H (.ref a) (.list ds)
  | tup {a : Addr} {xs : List V} {ds : List PyData} : SqT K H a xs → DqAll K H xs ds → Dq K H (.ref a) (.tuple ds)
  | dic {a : Addr} : H a = some (.dK []) → Dq K H (.ref a) (.dict [])
inductive DqAll (K : Frag) (H : Hp) : List V → List PyData → Prop
  | nil : DqAll K H [] []
  | cons {v : V} {vs : List V} {d : PyData} {ds : List PyData} : Dq K H v d → DqAll K H vs ds → DqAll K H (v :: vs) (d :: ds)
end
mutual
theorem Dq.dp {K : Frag} {H : Hp} : ∀ {v : V} {p : PyData}, Dq K H v p → p.hasDict = false → Dp K H v p
  | _, _, .non, _ => .non
  | _, _, .bl b, _ => .bl b
  | _, _, .int i, _ => .int i
  | _, _, .str x, _ => .str x
  | _, _, .lst h r, e => .lst h (DqAll.dp r (by unfold PyData.hasDict at e; exact e))
  | _, _, .tup h r, e => .tup h (DqAll.dp r (by unfold PyData.hasDict at e; exact e))
  | _, _, .dic _, e => by unfold PyData.hasDict at e; cases e
theorem DqAll.dp {K : Frag} {H : Hp} : ∀ {v : List V} {p : List PyData}, DqAll K H v p → PyData.hasDictAll p = false → DpAll K H v p
  | _, _, .nil, _ => .nil
  | _, _, .cons h r, e => by
    unfold PyData.hasDictAll at e
    rw [Bool.or_eq_false_iff] at e
    exact .cons (Dq.dp h e.1) (DqAll.dp r e.2)
end
mutual
theorem toP_dq {K : Frag} {H : Hp} {ρ : List Addr} {B : Bd} : ∀ {d : D} {v : V} {p : PyData}, RV K H ρ B d v → toP d = some p → Dq K H v p
  | .non, _, _, .non, e => by cases e; exact .non
  | .bl b, _, _, .bl _, e => by cases e; exact .bl b
  | .int i, _, _, .int _, e => by cases e; exact .int i
  | .str z, _, _, .str _, e => by cases e; exact .str z
  | .tup xs, _, p, .tup h r, e => by
    unfold toP at e
    cases q : toP.toPs xs with
    | none => rw [q] at e; cases e
    | some ps => rw [q] at e; cases e; exact .tup h (toPs_dq r q)
  | .lst xs, _, p, .lst h n b r, e => by
    unfold toP at e
    cases q : toP.toPs xs with
    | none => rw [q] at e; cases e
    | some ps => rw [q] at e; cases e; exact .lst (SqL.of h) (toPs_dq r q)
  | .dic [] [], _, _, .dic h l n b r, e => by
    cases e
    cases r
    exact .dic h
  | .dic (_ :: _) _, _, _, _, e => by cases e
  | .dic [] (_ :: _), _, _, _, e => by cases e
  | .ref _, _, _, _, e => by cases e
theorem toPs_dq {K : Frag} {H : Hp} {ρ : List Addr} {B : Bd} : ∀ {ds : List D} {vs : List V} {ps : List PyData}, RVs K H ρ B ds vs → toP.toPs ds = some ps → DqAll K H vs ps
  | [], _, _, .nil, e => by cases e; exact .nil
  | d :: ds, _, _, .cons h r, e => by
    unfold toP.toPs at e
    cases q : toP d with
    | none => rw [q] at e; cases e
    | some p =>
      cases q2 : toP.toPs ds with
      | none => rw [q, q2] at e; cases e
      | some ps => rw [q, q2] at e; cases e; exact .cons (toP_dq h q) (toPs_dq r q2)
end
/-- the list at a cell -/
theorem cell_ro {n : Nat} {xs : List D} {p : Addr} (rs : RS K H ρ B S) (hn : ρ[n]? = some p) (h : S[n]? = some (.ro xs)) : ∃ o vs, H p = some (.frz o (.lst vs)) ∧ RVs K H ρ B xs vs := by
  obtain ⟨q, o, h1, h2, h3⟩ := rs.2 n _ h
  rw [hn] at h1; cases h1
  cases h3 with
  | ro r => exact ⟨_, _, h2, r⟩
theorem cell_dic {n : Nat} {kvs : List (Key × D)} {p : Addr} (rs : RS K H ρ B S) (hn : ρ[n]? = some p) (h : S[n]? = some (.dic kvs)) : ∃ vs, H p = some (.dK ((kvs.map (·.1)).zip vs)) ∧ RVs K H ρ B (kvs.map (·.2)) vs := by
  obtain ⟨q, o, h1, h2, h3⟩ := rs.2 n _ h
  rw [hn] at h1; cases h1
  cases h3 with
  | dic r => exact ⟨_, h2, r⟩
theorem toPS_dq {p : PyData} (rs : RS K H ρ B S) (r : RW K H ρ B a x) (e : toPS a S = some p) : Dq K H x p := by
  unfold toPS at e
  split at e
  · obtain ⟨q, rfl, hn⟩ := r.ref
    split at e
    · rename_i xs h
      obtain ⟨vs, h1, r1⟩ := cell_lst rs hn h
      cases q : toP.toPs xs with
      | none => rw [q] at e; cases e
      | some ps => rw [q] at e; cases e; exact .lst (SqL.of h1) (toPs_dq r1 q)
    · rename_i xs h
      obtain ⟨o, vs, h1, r1⟩ := cell_ro rs hn h
      cases q : toP.toPs xs with
      | none => rw [q] at e; cases e
      | some ps => rw [q] at e; cases e; exact .lst (.inl (.inr ⟨o, h1⟩)) (toPs_dq r1 q)
    · cases e
  · cases a with
    | lst xs =>
      obtain ⟨q, vs, rfl, h1, _, r1⟩ := r.lst
      unfold toP at e
      cases q : toP.toPs xs with
      | none => rw [q] at e; cases e
      | some ps => rw [q] at e; cases e; exact .lst (SqL.of h1) (toPs_dq r1 q)
    | non => exact toP_dq r e
    | bl b => exact toP_dq r e
    | int i => exact toP_dq r e
    | str x => exact toP_dq r e
    | tup xs => exact toP_dq r e
    | dic ks xs => exact toP_dq r e
    | ref n => exact toP_dq r e
/-- a sequence's items, where they stand -/
theorem items_sq {xs : List D} (rs : RS K H ρ B S) (r : RW K H ρ B a x) (e : itemsD a S = some xs) : ∃ p vs, x = .ref p ∧ (SqL K H p vs ∨ SqT K H p vs) ∧ RVs K H ρ B xs vs ∧ ((∃ ys, a = .tup ys) → SqT K H p vs) ∧ ((∀ ys, a ≠ .tup ys) → SqL K H p vs) := by
  unfold itemsD at e
  split at e
  · cases e
    obtain ⟨p, vs, rfl, h, r1⟩ := r.tup
    exact ⟨p, vs, rfl, .inr h, r1, fun _ => h, fun q => absurd rfl (q _)⟩
  · cases e
    obtain ⟨p, vs, rfl, h, _, r1⟩ := r.lst
    exact ⟨p, vs, rfl, .inl (SqL.of h), r1, fun ⟨_, q⟩ => (by cases q), fun _ => SqL.of h⟩
  · obtain ⟨p, rfl, hn⟩ := r.ref
    split at e
    · rename_i h
      cases e
      obtain ⟨vs, h1, r1⟩ := cell_lst rs hn h
      exact ⟨p, vs, rfl, .inl (SqL.of h1), r1, fun ⟨_, q⟩ => (by cases q), fun _ => SqL.of h1⟩
    · rename_i h
      cases e
      obtain ⟨o, vs, h1, r1⟩ := cell_ro rs hn h
      exact ⟨p, vs, rfl, .inl (.inl (.inr ⟨o, h1⟩)), r1, fun ⟨_, q⟩ => (by cases q), fun _ => .inl (.inr ⟨o, h1⟩)⟩
    · cases e
  · cases e
end
end IL
/-! IF: comparisons, built-ins, subscripts on data. -/
namespace IL
open PySem PySem.Spec PyProof.Rows L2
section
variable {X : Cx} {K : Frag} {env : Env} {S : Store} {ρ : List Addr} {B : Bd} {σ : L2.St} {H : Hp} {k : Kd} {Q : V → Hp → Prop} {a b c : D} {x y z : V}

/-! ### comparisons -/
def rEqA (K : Frag) : R2 := fun x y H Q => rEq x y H Q ∨ rEqD K x y H Q ∨ rEmp K id x y H Q
def rNeA (K : Frag) : R2 := fun x y H Q => rNe x y H Q ∨ rNeD K x y H Q ∨ rEmp K not x y H Q
def rIsA : R2 := fun x y H Q => (fun x y H Q => y = .non ∧ Q (.bl (decide (x = .non))) H) x y H Q ∨ rIsB x y H Q
def rNotA : R2 := fun x y H Q => (fun x y H Q => y = .non ∧ Q (.bl (!decide (x = .non))) H) x y H Q ∨ rNotB x y H Q
def rDIn (neg : Bool) : R2 := fun x y H Q => ∃ p o, y = .ref p ∧ DGet H p x o ∧ Q (.bl (if neg then !o.isSome else o.isSome)) H
theorem op_din (hu : X.A.units + 1 < cLine) : OpR X (compareOp .In) (rDIn false) := by
  intro pins s σ H x y v u Q I rx ry h
  obtain ⟨p, o, rfl, g, q⟩ := h
  cases ry
  exact d_in hu I g rx fun s' I' => ⟨.bl _, H, I', rfl, q⟩
theorem op_dnotin (hu : X.A.units + 1 < cLine) : OpR X (compareOp .NotIn) (rDIn true) := by
  intro pins s σ H x y v u Q I rx ry h
  obtain ⟨p, o, rfl, g, q⟩ := h
  cases ry
  exact d_notIn hu I g rx fun s' I' => ⟨.bl _, H, I', rfl, q⟩
def rInStr (neg : Bool) : R2 := fun x y H Q => ∃ i j, x = .str i ∧ y = .str j ∧ Q (.bl (if neg then !(!(Builtin.Str.occurrences j i 0 j.length 1).isEmpty) else !(Builtin.Str.occurrences j i 0 j.length 1).isEmpty)) H
def rInA (K : Frag) (neg : Bool) : R2 := fun x y H Q => rInStr neg x y H Q ∨ rIn K neg x y H Q ∨ rDIn neg x y H Q
def rCmp (K : Frag) : CmpOp → R2
  | .Lt => rI0 fun i j => .bl (decide (i < j))
  | .LtE => rI0 fun i j => .bl (decide (i ≤ j))
  | .Gt => rI0 fun i j => .bl (decide (j < i))
  | .GtE => rI0 fun i j => .bl (decide (j ≤ i))
  | .Eq => rEqA K
  | .NotEq => rNeA K
  | .Is => rIsA
  | .IsNot => rNotA
  | .In => rInA K false
  | .NotIn => rInA K true
theorem op_cmp (hu : X.A.units + 64 < cLine) (o : CmpOp) : OpR X (compareOp o) (rCmp X.K o) := by
  cases o with
  | Lt => exact op_lt
  | LtE => exact op_le
  | Gt => exact op_gt
  | GtE => exact op_ge
  | Eq => exact OpR.or op_eq (OpR.or (op_eqD hu) (op_eqE hu))
  | NotEq => exact OpR.or op_ne (OpR.or (op_neD hu) (op_neE hu))
  | Is => exact OpR.or op_isN op_isBl
  | IsNot => exact OpR.or op_notN op_notBl
  | In => exact OpR.or op_in_str (OpR.or op_in_seq (op_din (by omega)))
  | NotIn => exact OpR.or op_notIn_str (OpR.or op_notIn_seq (op_dnotin (by omega)))
theorem sh_int (i : Int) : SeqAt.shaped (.int i) = true := by
  unfold SeqAt.shaped PyData.canLay0 PyData.depth
  rfl
/-- what eqD tells is the library's own == of data, or that of scalars -/
theorem eqD0_sem {r : Bool} (rel : Rel K env S ρ B σ H) (ra : RW K H ρ B a x) (rb : RW K H ρ B b y) (e : eqD0 a b S = some r) :
    (scal x y = true ∧ r = decide (x = y)) ∨ ∃ p q, Dp K H x p ∧ Dp K H y q ∧ SeqAt.shaped p = true ∧ SeqAt.shaped q = true ∧ r = PyData.eqv p q := by
  unfold eqD0 at e
  split at e
  · cases ra.int; cases rb.int
    cases e
    refine .inl ⟨rfl, ?_⟩
    rename_i i j
    by_cases h : i = j
    · subst h; simp
    · rw [decide_eq_false h, decide_eq_false (fun q => h (V.int.inj q))]
  · cases ra.str; cases rb.str
    cases e
    refine .inl ⟨rfl, ?_⟩
    rename_i i j
    by_cases h : i = j
    · subst h; simp
    · rw [decide_eq_false h, decide_eq_false (fun q => h (V.str.inj q))]
  · cases ra.non; cases rb.non
    cases e
    exact .inl ⟨rfl, rfl⟩
  · split at e
    · rename_i p q h1 h2
      split at e
      · rename_i h3
        cases e
        exact .inr ⟨p, q, (toPS_dq rel.rs ra h1).dp (PyData.hasDict_of_canLay _ (SeqAt.canLay_of_shaped h3.1)), (toPS_dq rel.rs rb h2).dp (PyData.hasDict_of_canLay _ (SeqAt.canLay_of_shaped h3.2)), h3.1, h3.2, rfl⟩
      · cases e
    · cases e
theorem emptyD_sem {r : Bool} (rel : Rel K env S ρ B σ H) (ra : RW K H ρ B a x) (rb : RW K H ρ B b y) (e : emptyD a b S = some r) :
    ∃ p q xs, x = .ref p ∧ y = .ref q ∧ ((SqT K H p xs ∧ SqT K H q []) ∨ (SqL K H p xs ∧ SqL K H q [])) ∧ r = xs.isEmpty := by
  unfold emptyD at e
  split at e
  · obtain ⟨q, ws, rfl, h2, r2⟩ := rb.tup
    cases r2
    split at e
    · obtain ⟨p, vs, rfl, h1, r1⟩ := ra.tup
      cases e
      refine ⟨p, q, vs, rfl, rfl, .inl ⟨h1, h2⟩, ?_⟩
      cases r1 <;> rfl
    · cases e
  · obtain ⟨q, ws, rfl, h2, _, r2⟩ := rb.lst
    cases r2
    split at e
    · cases e
    · rename_i hne
      obtain ⟨xs, hx, rfl⟩ := Option.map_eq_some_iff.mp e
      obtain ⟨p, vs, rfl, _, r1, _, hl⟩ := items_sq rel.rs ra hx
      refine ⟨p, q, vs, rfl, rfl, .inr ⟨hl fun ys z => hne ys z, SqL.of h2⟩, ?_⟩
      cases r1 <;> rfl
  · cases e
theorem eqD_sem {r : Bool} (rel : Rel K env S ρ B σ H) (ra : RW K H ρ B a x) (rb : RW K H ρ B b y) (e : eqD a b S = some r) :
    (scal x y = true ∧ r = decide (x = y)) ∨ (∃ p q, Dp K H x p ∧ Dp K H y q ∧ SeqAt.shaped p = true ∧ SeqAt.shaped q = true ∧ r = PyData.eqv p q) ∨ ∃ p q xs, x = .ref p ∧ y = .ref q ∧ ((SqT K H p xs ∧ SqT K H q []) ∨ (SqL K H p xs ∧ SqL K H q [])) ∧ r = xs.isEmpty := by
  unfold eqD at e
  split at e
  · rename_i h
    cases e
    exact .inr (.inr (emptyD_sem rel ra rb h))
  · exact (eqD0_sem rel ra rb e).imp id .inl
theorem isD_sem {r : Bool} (ra : RW K H ρ B a x) (rb : RW K H ρ B b y) (e : isD a b = some r) :
    (y = .non ∧ r = decide (x = .non)) ∨ ∃ i j : Bool, x = .bl i ∧ y = .bl j ∧ r = decide (i = j) := by
  unfold isD at e
  split at e
  · cases ra.non; cases rb.non; cases e
    exact .inl ⟨rfl, rfl⟩
  · cases ra.bl; cases rb.bl; cases e
    exact .inr ⟨_, _, rfl, rfl, rfl⟩
  · cases e
  · cases ra.bl; cases rb.non; cases e
    exact .inl ⟨rfl, rfl⟩
  · cases ra.int; cases rb.non; cases e
    exact .inl ⟨rfl, rfl⟩
  · cases ra.str; cases rb.non; cases e
    exact .inl ⟨rfl, rfl⟩
  · obtain ⟨p, vs, rfl, _⟩ := ra.tup
    cases rb.non; cases e
    exact .inl ⟨rfl, rfl⟩
  · obtain ⟨p, vs, rfl, _⟩ := ra.lst
    cases rb.non; cases e
    exact .inl ⟨rfl, rfl⟩
  · obtain ⟨p, rfl, _⟩ := ra.ref
    cases rb.non; cases e
    exact .inl ⟨rfl, rfl⟩
  · cases e
theorem flat_rv {d : D} {v : V} (r : RV K H ρ B d v) (h : flatD d = true) : flatV v = true := by
  cases r <;> first | rfl | cases h
theorem eq_rv {d e : D} {v w : V} (r : RV K H ρ B d v) (q : RV K H ρ B e w) (h : flatD d = true) (g : flatD e = true) : eqFD d e = eqV v w := by
  cases r <;> cases q <;> first | rfl | cases h | cases g
theorem flats_rv : ∀ {ds : List D} {vs : List V}, RVs K H ρ B ds vs → ds.all flatD = true → vs.all flatV = true
  | _, _, .nil, _ => rfl
  | _, _, .cons r t, h => by
    rw [List.all_cons, Bool.and_eq_true] at h ⊢
    exact ⟨flat_rv r h.1, flats_rv t h.2⟩
theorem any_rv {d : D} {v : V} (q : RV K H ρ B d v) (g : flatD d = true) : ∀ {ds : List D} {vs : List V}, RVs K H ρ B ds vs → ds.all flatD = true → (ds.any fun e => eqFD e d) = vs.any fun w => eqV w v
  | _, _, .nil, _ => rfl
  | _, _, .cons r t, h => by
    rw [List.all_cons, Bool.and_eq_true] at h
    rw [List.any_cons, List.any_cons, any_rv q g t h.2, eq_rv r q h.1 g]
theorem RW.rv_flat (r : RW K H ρ B a x) (h : flatD a = true) : RV K H ρ B a x := by
  cases a <;> first | exact r | cases h
theorem keyD_rv {key : Key} (r : RW K H ρ B a x) (h : keyD a = some key) : x = kV key := by
  cases a <;> first | cases h | skip
  · cases r.int; rfl
  · cases r.str; rfl
/-- a table of data and the layer's -/
theorem dget_val (key : Key) : ∀ {kvs : List (Key × D)} {vs : List V}, RVs K H ρ B (kvs.map (·.2)) vs →
    (dget kvs key = none ∧ valV ((kvs.map (·.1)).zip vs) key = none) ∨ ∃ d v, dget kvs key = some d ∧ valV ((kvs.map (·.1)).zip vs) key = some v ∧ RV K H ρ B d v
  | [], _, .nil => .inl ⟨rfl, rfl⟩
  | kv :: kvs, v :: vs, .cons r t => by
    rw [List.map_cons, List.zip_cons_cons]
    by_cases h : kv.1 = key
    · refine .inr ⟨kv.2, v, ?_, valV_pos h, r⟩
      unfold dget
      rw [List.find?_cons_of_pos (by simpa using h)]
      rfl
    · have e1 : dget (kv :: kvs) key = dget kvs key := by
        unfold dget
        rw [List.find?_cons_of_neg (by simpa using h)]
      rw [e1, valV_neg h]
      exact dget_val key t
theorem inD_sem {r : Bool} (rel : Rel K env S ρ B σ H) (ra : RW K H ρ B a x) (rb : RW K H ρ B b y) (e : inD a b S = some r) (neg : Bool) (h : Q (.bl (if neg then !r else r)) H) : rInA K neg x y H Q := by
  have seqs : ∀ xs, itemsD b S = some xs → (if flatD a && xs.all flatD then some (xs.any fun y => eqFD y a) else none) = some r → rInA K neg x y H Q := by
    intro xs h1 h2
    split at h2
    · rename_i h3
      rw [Bool.and_eq_true] at h3
      cases h2
      obtain ⟨p, vs, rfl, hs, r1, _⟩ := items_sq rel.rs rb h1
      refine .inr (.inl ⟨p, vs, rfl, hs, flat_rv (ra.rv_flat h3.1) h3.1, flats_rv r1 h3.2, ?_⟩)
      unfold inV
      rw [← any_rv (ra.rv_flat h3.1) h3.1 r1 h3.2]
      exact h
    · cases h2
  unfold inD at e
  split at e
  · split at e
    · cases ra.str; cases rb.str
      cases e
      exact .inl ⟨_, _, rfl, rfl, h⟩
    · cases e
  · split at e
    · rename_i kvs hS
      obtain ⟨p, rfl, hn⟩ := rb.ref
      obtain ⟨vs, h1, r1⟩ := cell_dic rel.rs hn hS
      cases hk : keyD a with
      | none => rw [hk] at e; cases e
      | some key =>
        rw [hk] at e
        cases e
        cases keyD_rv ra hk
        refine .inr (.inr ⟨p, _, rfl, .inl ⟨_, key, .inl h1, rfl, rfl⟩, ?_⟩)
        rcases dget_val key r1 with ⟨q1, q2⟩ | ⟨d, v, q1, q2, _⟩
        · rw [q2]; have h' : Q (.bl (if neg then !(dget kvs key).isSome else (dget kvs key).isSome)) H := h; rw [q1] at h'; exact h'
        · rw [q2]; have h' : Q (.bl (if neg then !(dget kvs key).isSome else (dget kvs key).isSome)) H := h; rw [q1] at h'; exact h'
    · split at e
      · rename_i h1
        exact seqs _ h1 e
      · cases e
  · split at e
    · rename_i h1
      exact seqs _ h1 e
    · cases e
theorem sem_cmp (o : CmpOp) (rel : Rel K env S ρ B σ H) (ra : RW K H ρ B a x) (rb : RW K H ρ B b y) (fin : Fin K B ρ H (wE K k) (cmpD o a b S) Q) : rCmp K o x y H Q := by
  unfold cmpD at fin
  split at fin
  · cases ra.int; cases rb.int
    exact ⟨_, _, rfl, rfl, flat_bl rel fin⟩
  · cases ra.int; cases rb.int
    exact ⟨_, _, rfl, rfl, flat_bl rel fin⟩
  · cases ra.int; cases rb.int
    exact ⟨_, _, rfl, rfl, flat_bl rel fin⟩
  · cases ra.int; cases rb.int
    exact ⟨_, _, rfl, rfl, flat_bl rel fin⟩
  · split at fin
    · rename_i h
      rcases eqD_sem rel ra rb h with ⟨h1, rfl⟩ | ⟨p, q, h1, h2, h3, h4, rfl⟩ | ⟨p, q, xs, h1, h2, h3, rfl⟩
      · exact .inl ⟨h1, flat_bl rel fin⟩
      · exact .inr (.inl ⟨p, q, h1, h2, h3, h4, flat_bl rel fin⟩)
      · exact .inr (.inr ⟨p, q, xs, h1, h2, h3, flat_bl rel fin⟩)
    · exact fin.elim
  · split at fin
    · rename_i h
      rcases eqD_sem rel ra rb h with ⟨h1, rfl⟩ | ⟨p, q, h1, h2, h3, h4, rfl⟩ | ⟨p, q, xs, h1, h2, h3, rfl⟩
      · exact .inl ⟨h1, flat_bl rel fin⟩
      · exact .inr (.inl ⟨p, q, h1, h2, h3, h4, flat_bl rel fin⟩)
      · exact .inr (.inr ⟨p, q, xs, h1, h2, h3, flat_bl rel fin⟩)
    · exact fin.elim
  · split at fin
    · rename_i h
      rcases isD_sem ra rb h with ⟨h1, rfl⟩ | ⟨i, j, h1, h2, rfl⟩
      · exact .inl ⟨h1, flat_bl rel fin⟩
      · exact .inr ⟨i, j, h1, h2, flat_bl rel fin⟩
    · exact fin.elim
  · split at fin
    · rename_i h
      rcases isD_sem ra rb h with ⟨h1, rfl⟩ | ⟨i, j, h1, h2, rfl⟩
      · exact .inl ⟨h1, flat_bl rel fin⟩
      · exact .inr ⟨i, j, h1, h2, flat_bl rel fin⟩
    · exact fin.elim
  · split at fin
    · rename_i h
      exact inD_sem rel ra rb h false (flat_bl rel fin)
    · exact fin.elim
  · split at fin
    · rename_i h
      exact inD_sem rel ra rb h true (flat_bl rel fin)
    · exact fin.elim
  · exact fin.elim
end
end IL
/-! IG0: sorted of a tuple of integers. -/
namespace L2
open PySem PySem.Spec PyProof.Rows
section
variable {prog : Program} {w : World} {A : Around} {E : Value → Shared → Prop} {s : Shared}
theorem il_collect_tup {l : Addr} {vs : List Value} {Q : List Value → Shared → Prop} (hl : IsTup s.heap l vs.toArray)
    (h : Q vs { s with heap := (s.heap.push (seqObj "list" #[] 0)).update s.heap.objs.size (Obj.mapSeq (· ++ vs.toArray)) }) (hsz : vs.length ≤ sizeLine) :
    wpAny (model prog w) A (collect (.ref l)) Q E s := by
  obtain ⟨⟨cls, dd, data, sl⟩, ho, hc, n, hd⟩ := id hl
  unfold collect
  refine wpAny_bind (wpAny_runValue (codeAny_builtin entry_proto_collect' ?_))
  show wpAny _ _ (do again (.builtin "list.__iadd__" ⟨[← newList [], .ref l], []⟩)) _ _ s
  refine wpAny_bind (wpAny_newList (wpAny_pure ⟨Code.quiet_builtin _ (by decide +kernel), codeAny_builtin entry_list_iadd' ?_⟩))
  show wpAny _ _ (Builtin.List.listExtendWith (.ref s.heap.objs.size) (.ref l) (.ref s.heap.objs.size)) _ _ { s with heap := s.heap.push (seqObj "list" #[] 0) }
  unfold Builtin.List.listExtendWith
  have ho' := Heap.get?_push_of_some (seqObj "list" #[] 0) ho
  refine wpAny_bind (wpAny_typeOf (T := "tuple") ⟨_, ho', hc⟩ ?_)
  have ht : (Value.type "tuple" == Value.type "tuple") = true := by rfl
  rw [if_pos (by rw [ht]; simp)]
  refine wpAny_bind (listItems_at ho' hd ?_)
  refine wpAny_bind (listItems_at (xs := #[]) (n := 0) (Heap.get?_push_size _ rfl) rfl ?_)
  rw [if_neg (by simp)]
  refine wpAny_bind (listUpdate_at (xs := #[]) (n := 0) (Heap.get?_push_size _ rfl) rfl ?_ (Nat.zero_le _) (by show (#[] ++ vs.toArray).size ≤ sizeLine + 1; simp only [Array.size_append, List.size_toArray, List.length_nil]; omega))
  refine wpAny_pure ?_
  show wpAny (model prog w) A (do
      let o ← load s.heap.objs.size
      match o.data with
      | .seq xs _ => pure xs.toList
      | _ => unsupported "internal:collect") Q E { s with heap := (s.heap.push (seqObj "list" #[] 0)).update s.heap.objs.size (Obj.mapSeq (· ++ vs.toArray)) }
  refine wpAny_bind (wpAny_load (get?_update_seq (Heap.get?_push_size _ rfl) _) ?_)
  show wpAny _ _ (pure ((#[] : Array Value) ++ vs.toArray).toList) Q E _
  rw [show ((#[] : Array Value) ++ vs.toArray).toList = vs by simp]
  exact wpAny_pure h
theorem il_sorted_tup {l : Addr} {vs : List Value} {ns : List Int} {Q : Value → Shared → Prop} (hl : IsTup s.heap l vs.toArray) (hI : IntsAre vs ns) (h64 : vs.length < 64)
    (h : ∀ (out : Array Value) (ns' : List Int), IntsAre out.toList ns' → ns'.Perm ns → ns'.Pairwise (· ≤ ·) → Q (.ref (s.heap.objs.size + 1)) { s with heap := sortedAll s.heap vs out }) :
    wpAny (model prog w) A (call (.builtin "sorted") [.ref l]) Q E s := by
  refine Calls.call_function_entry kind_sorted plain_sorted entry_sorted (args_sorted1 _) ?_
  unfold Builtin.«sorted»
  refine wpAny_bind (m := checkCount "sorted" 1 1 _) (wpAny_pure ?_)
  refine wpAny_bind (il_collect_tup hl ?_ (by rw [sizeLine_eq]; omega))
  refine wpAny_bind (wpAny_newList ?_)
  have hsz : ((s.heap.push (seqObj "list" #[] 0)).update s.heap.objs.size (Obj.mapSeq (· ++ vs.toArray))).objs.size = s.heap.objs.size + 1 := by
    rw [Heap.size_update, size_push']
  have hoL : (((s.heap.push (seqObj "list" #[] 0)).update s.heap.objs.size (Obj.mapSeq (· ++ vs.toArray))).push (seqObj "list" vs.toArray 0)).get? (s.heap.objs.size + 1) = some (seqObj "list" vs.toArray 0) := by
    rw [← hsz]; exact Heap.get?_push_size _ rfl
  show wpAny _ _ _ _ _ { s with heap := ((s.heap.push (seqObj "list" #[] 0)).update s.heap.objs.size (Obj.mapSeq (· ++ vs.toArray))).push (seqObj "list" vs.toArray 0) }
  rw [hsz]
  refine wpAny_bind (wpAny_holding (wpAny_call_entry slot_list_sort ⟨_, hoL, rfl⟩ entry_list_sort (list_sort_tree hoL hI h64 fun out ns' a1 a2 a3 => ⟨_, rfl, ?_⟩) (args_list_sort _)))
  exact wpAny_pure ⟨_, rfl, h out ns' a1 a2 a3⟩
end
section
open SrtO Srt
variable {prog : Program} {w : World} {A : Around} {E : Value → Shared → Prop} {s : Shared}
theorem il_sorted_ordT {l : Addr} {vs : List Value} {ltv : Value → Value → Bool} {Q : Value → Shared → Prop} (O : Swo ltv) (hl : IsTup s.heap l vs.toArray) (hz : vs.length ≤ sizeLine)
    (hS : 2 ≤ vs.length → ∀ (h₁ : Heap) (a : Addr), h₁.get? a = some (seqObj "list" vs.toArray 0) → (∀ b o, s.heap.get? b = some o → b ≠ a ∧ h₁.get? b = some o) → SortableO prog w A.in1.in1 { s with heap := h₁ } a vs ltv)
    (h : ∀ out : List Value, Srtd ltv out → Stb ltv out vs → Q (.ref (s.heap.objs.size + 1)) { s with heap := sortedAll s.heap vs out.toArray }) :
    wpAny (model prog w) A (call (.builtin "sorted") [.ref l]) Q E s := by
  refine Calls.call_function_entry kind_sorted plain_sorted entry_sorted (args_sorted1 _) ?_
  unfold Builtin.«sorted»
  refine wpAny_bind (m := checkCount "sorted" 1 1 _) (wpAny_pure ?_)
  refine wpAny_bind (il_collect_tup hl ?_ hz)
  refine wpAny_bind (wpAny_newList ?_ hz)
  have hsz : ((s.heap.push (seqObj "list" #[] 0)).update s.heap.objs.size (Obj.mapSeq (· ++ vs.toArray))).objs.size = s.heap.objs.size + 1 := by
    rw [Heap.size_update, size_push']
  have hoL : (((s.heap.push (seqObj "list" #[] 0)).update s.heap.objs.size (Obj.mapSeq (· ++ vs.toArray))).push (seqObj "list" vs.toArray 0)).get? (s.heap.objs.size + 1) = some (seqObj "list" vs.toArray 0) := by
    rw [← hsz]; exact Heap.get?_push_size _ rfl
  have keep : ∀ b o, s.heap.get? b = some o → b ≠ s.heap.objs.size + 1 ∧ (((s.heap.push (seqObj "list" #[] 0)).update s.heap.objs.size (Obj.mapSeq (· ++ vs.toArray))).push (seqObj "list" vs.toArray 0)).get? b = some o := fun b o q => by
    have hlt : b < s.heap.objs.size := Heap.lt_size q
    refine ⟨Nat.ne_of_lt (Nat.lt_succ_of_lt hlt), Heap.get?_push_of_some _ ?_⟩
    rw [Heap.get?_update_ne _ _ _ _ (Nat.ne_of_lt hlt)]
    exact Heap.get?_push_of_some _ q
  show wpAny _ _ _ _ _ { s with heap := ((s.heap.push (seqObj "list" #[] 0)).update s.heap.objs.size (Obj.mapSeq (· ++ vs.toArray))).push (seqObj "list" vs.toArray 0) }
  rw [hsz]
  refine wpAny_bind (wpAny_holding (wpAny_call_entry slot_list_sort ⟨_, hoL, rfl⟩ entry_list_sort (list_sort_ord O hoL hz (fun h2 => hS h2 _ _ hoL keep) fun out hs hb => ⟨_, rfl, ?_⟩) (args_list_sort _)))
  exact wpAny_pure ⟨_, rfl, h out hs hb⟩
theorem il_sorted_pairsT {l : Addr} {vs : List Value} {k : Value → Int × Int} {Q : Value → Shared → Prop} (hl : IsTup s.heap l vs.toArray) (hz : vs.length ≤ sizeLine) (hp : ∀ v ∈ vs, Srt.IsPair s.heap v (k v).1 (k v).2)
    (h : ∀ (h' : Heap) (d : Addr) (out : List Value), Srtd (fun v u => lexB (k v) (k u)) out → Stb (fun v u => lexB (k v) (k u)) out vs → (∀ b o, s.heap.get? b = some o → h'.get? b = some o) → s.heap.objs.size ≤ d → (∃ n, h'.get? d = some (seqObj "list" out.toArray n)) → Q (.ref d) { s with heap := h' }) :
    wpAny (model prog w) A (call (.builtin "sorted") [.ref l]) Q E s := by
  refine il_sorted_ordT (swo_lex k) hl hz (fun h2 h₁ a ha kk => ?_) fun out hs hb => ?_
  · refine pairs_sortableO (s := { s with heap := h₁ }) (by omega) (fun v hm => (hp v hm).keeps fun b o e _ => (kk b o e).2) fun o e => ?_
    have e' : some o = some (seqObj "list" vs.toArray 0) := e.symm.trans ha
    cases e'
    intro c
    exact absurd (Value.type.inj c) (by decide)
  · exact h _ _ out hs hb (fun b o e => PyProof.Rows.sortedAll_old e) (Nat.le_succ _) (PyProof.Rows.sortedAll_at s.heap vs out.toArray)
end
section
variable {X : Cx}
def rSortedT (K : PySem.W.Frag) : List V → Hp → VK → Prop := fun vs H Q => ∃ (a : Addr) (ns : List Int), vs = [V.ref a] ∧ SqT K H a (ns.map V.int) ∧ ns.length < 64 ∧
  ∀ (ns' : List Int) (p : Addr), ns'.Perm ns → ns'.Pairwise (· ≤ ·) → H p = none → Q (.ref p) (upd H p (.lst (ns'.map V.int)))
theorem cr_sortedT : CallR X (.builtin "sorted") (rSortedT X.K) := by
  intro pins s σ H vs us Q I r h
  obtain ⟨a, ns, rfl, hs, h64, q⟩ := h
  obtain ⟨its, rv, hl, _⟩ := I.tuple hs
  rw [Vals.ref1 r]
  have hi := rv.ints
  refine il_sorted_tup (vs := its) hl hi (by rw [hi.length]; exact h64) fun out ns' h1 h2 h3 => ?_
  obtain ⟨ep, he'⟩ := PyProof.Rows.sortedAll_at s.heap its out
  have hlen : (ns'.map V.int).length ≤ sizeLine := by rw [List.length_map, h2.length_eq]; exact small64 h64
  exact ⟨.ref _, upd H (s.heap.objs.size + 1) (.lst (ns'.map V.int)), I.laid (t' := s.toks) (fun _ _ => PyProof.Rows.sortedAll_old) (Nat.le_succ _) ⟨hlen, out.toList, ep, vals_of_ints h1, he'⟩, rfl, q ns' _ h2 h3 (I.hok.fresh (Nat.le_succ _))⟩
end
end L2
/-! IG: built-ins, subscripts, slices on data. -/
namespace IL
open PySem PySem.Spec PyProof.Rows L2
section
variable {X : Cx} {K : Frag} {env : Env} {S : Store} {ρ : List Addr} {B : Bd} {σ : L2.St} {H : Hp} {k : Kd} {Q : V → Hp → Prop} {a b c : D} {x y z : V}
abbrev RC := List V → Hp → VK → Prop

/-! ### len -/
def rLenA (K : Frag) : RC := fun xs H Q => (∃ p ys, xs = [.ref p] ∧ (SqL K H p ys ∨ SqT K H p ys) ∧ Q (.int ys.length) H) ∨ (∃ z, xs = [.str z] ∧ z.length ≤ sizeLine ∧ Q (.int z.length) H) ∨
  ∃ p kvs, xs = [.ref p] ∧ Rd H p (.dK kvs) ∧ Q (.int kvs.length) H
theorem call_lenA : CallR X (.builtin "len") (rLenA X.K) := by
  refine CallR.or call_len_seq (CallR.or call_len_str ?_)
  intro pins s σ H xs us Q I r h
  obtain ⟨p, kvs, rfl, hd, q⟩ := h
  obtain ⟨u, rfl, rx⟩ := vals1 r
  cases rx
  exact d_len I hd fun t s' I' => ⟨.int kvs.length, H, I', ⟨t, rfl⟩, q⟩
/-! ### int, str, abs -/
def rIntA : RC := fun xs H Q => ((∃ i, xs = [.int i] ∧ Q (.int i) H) ∨ ∃ k, xs = [.bl k] ∧ Q (.int (if k then 1 else 0)) H) ∨ ∃ a n, xs = [.str a] ∧ PySem.intText? a = some n ∧ a.length ≤ 640 ∧ Q (.int n) H
theorem call_intA : CallR X (.type "int") rIntA := by
  refine CallR.or call_int1 ?_
  intro pins s σ H xs us Q I r h
  obtain ⟨a, n, rfl, h1, h2, q⟩ := h
  exact call_int_str pins s σ H _ us Q I r ⟨a, n, rfl, h1, h2, q⟩
/-! ### repr -/
def rRepr (K : Frag) : RC := fun xs H Q => ∃ x p, xs = [x] ∧ Dq K H x p ∧ showP p = true ∧ Q (.str p.shown) H
theorem showP_of {p : PyData} (h : showP p = true) : p.showable = true ∧ p.depth ≤ 64 ∧ p.shown.length ≤ sizeLine := by
  unfold showP at h
  simp only [Bool.and_eq_true, decide_eq_true_eq] at h
  exact ⟨h.1.1, h.1.2, h.2⟩
/-- the modules' own dict stands in what nobody tracks -/
def SmOk (X : Cx) : Prop := ∃ o es ep, X.base.get? sysModules = some o ∧ o.data = .dict es ep
theorem off_sm {pins : List (Addr × Obj)} {s : Shared} (hs : SmOk X) (I : Inv X pins σ H s) {a : Addr} {xs : List V} (h : SqL X.K H a xs) : a ≠ sysModules := by
  intro e
  subst e
  obtain ⟨o, es, ep, e1, e2⟩ := hs
  have hn := (I.bs _ _ e1).2
  rcases h with (h | ⟨ob, h⟩) | ⟨o', its, n, h, _, _, hd, _⟩
  · rw [hn] at h; cases h
  · rw [hn] at h; cases h
  · have := I.ok.mod.kin _ _ h
    rw [e1] at this
    cases this
    rw [e2] at hd
    cases hd
mutual
theorem dq_reads {pins : List (Addr × Obj)} {s : Shared} (hs : SmOk X) (I : Inv X pins σ H s) : ∀ (p : PyData) (v : V) (u : Value), Dq X.K H v p → RelV v u → ∃ as, Reads s.heap u p as ∧ sysModules ∉ as
  | .none, _, _, h, r => by
    cases h
    cases r
    exact ⟨_, Reads.none, by simp⟩
  | .bool b, _, _, h, r => by
    cases h
    cases r
    exact ⟨_, Reads.bool b, by simp⟩
  | .int i, _, _, h, r => by
    cases h
    obtain ⟨t, rfl⟩ := r
    exact ⟨_, Reads.int i t, by simp⟩
  | .str x, _, _, h, r => by
    cases h
    obtain ⟨t, rfl⟩ := r
    exact ⟨_, Reads.str x t, by simp⟩
  | .list ps, _, _, h, r => by
    cases h with
    | lst hq ha =>
      cases r
      have off := off_sm hs I hq
      obtain ⟨its, rv, ⟨o, n, ho, hc, _, hd⟩, _⟩ := I.list hq
      obtain ⟨as, hr, hn⟩ := dqs_reads hs I ps _ its ha rv
      exact ⟨_, Reads.list ho hc hd hr, fun z => (List.mem_cons.mp z).elim (fun z => off z.symm) hn⟩
  | .tuple ps, _, _, h, r => by
    cases h with
    | tup hq ha =>
      cases r
      obtain ⟨its, rv, ⟨o, ho, hc, n, hd⟩, _⟩ := I.tuple hq
      obtain ⟨as, hr, hn⟩ := dqs_reads hs I ps _ its ha rv
      exact ⟨_, Reads.tuple ho hc hd hr, hn⟩
  | .dict kvs, _, _, h, r => by
    cases h with
    | dic ha =>
      cases r
      obtain ⟨_, hm, vs, hk, o, es, ep, e1, e2, e3, _, e5, _⟩ := I.hok _ _ ha
      cases hk
      have hes : es.toList = [] := by
        cases h : es.toList with
        | nil => rfl
        | cons x xs => rw [h] at e5; cases e5
      refine ⟨_, Reads.dict (kvs := []) e1 e2.1 e3 (by rw [hes]; exact .nil) (by rw [hes]; exact .nil), fun z => ?_⟩
      rw [List.mem_singleton.mp z] at hm
      exact absurd hm (by simp)
theorem dqs_reads {pins : List (Addr × Obj)} {s : Shared} (hs : SmOk X) (I : Inv X pins σ H s) : ∀ (p : List PyData) (v : List V) (u : List Value), DqAll X.K H v p → Vals v u → ∃ as, ReadsAll s.heap u p as ∧ sysModules ∉ as
  | [], _, _, h, r => by
    cases h
    cases r
    exact ⟨_, .nil, by simp⟩
  | p :: ps, _, _, h, r => by
    cases h with
    | cons h1 h2 =>
      cases r with
      | cons r1 r2 =>
        obtain ⟨as, a1, a2⟩ := dq_reads hs I p _ _ h1 r1
        obtain ⟨bs, b1, b2⟩ := dqs_reads hs I ps _ _ h2 r2
        exact ⟨_, .cons a1 b1, fun z => (List.mem_append.mp z).elim a2 b2⟩
end
theorem call_repr (hs : SmOk X) (hg : X.A.guards = some []) (hu : X.A.units + 70 < cLine) : CallR X (.builtin "repr") (rRepr X.K) := by
  intro pins s σ H xs us Q I r h
  obtain ⟨x, p, rfl, hd, hsh, q⟩ := h
  obtain ⟨u, rfl, rx⟩ := vals1 r
  obtain ⟨s1, s3, s4⟩ := showP_of hsh
  obtain ⟨as, rd, off⟩ := dq_reads hs I p x u hd rx
  have far : ∀ v, u = .ref v → wpAny (model X.prog X.w) X.A (call (.builtin "repr") [u]) (EP X pins σ Q) X.xe s := by
    intro v e
    subst e
    exact repr_of_reads' rd s1 (fun _ => off) hg (by omega) (fun _ _ e => e) (fun h' t tk hk => ⟨.str p.shown, H, I.kept hk, ⟨t, rfl⟩, q⟩) s4
  cases hd with
  | non =>
    cases rx
    exact PySem.P.repr_of_none ⟨.str _, H, I.tok _, ⟨_, rfl⟩, q⟩
  | bl b =>
    cases rx
    exact PySem.P.repr_of_bool ⟨.str _, H, I.tok _, ⟨_, rfl⟩, q⟩
  | int i =>
    obtain ⟨t, rfl⟩ := rx
    have h1 : i.natAbs.log2 < 1920 := of_decide_eq_true s1
    exact PySem.P.repr_of_int h1 ⟨.str _, H, I.tok _, ⟨_, rfl⟩, q⟩
  | str z =>
    obtain ⟨t, rfl⟩ := rx
    exact PySem.P.repr_of_str ⟨.str _, H, I.tok _, ⟨_, rfl⟩, q⟩ s4
  | lst h1 h2 => cases rx; exact far _ rfl
  | tup h1 h2 => cases rx; exact far _ rfl
  | dic h1 => cases rx; exact far _ rfl
/-! ### whole numbers, truths in a sequence -/
theorem ints_dp : ∀ {ds : List D} {vs : List V} {ns : List Int}, RVs K H ρ B ds vs → intsD ds = some ns → DpAll K H vs (ns.map .int) ∧ vs = ns.map V.int
  | [], _, ns, .nil, e => by cases e; exact ⟨.nil, rfl⟩
  | d :: ds, v :: vs, ns, .cons r t, e => by
    unfold intsD at e
    split at e
    · rename_i h
      cases h
    · rename_i h
      cases h
      split at e
      · rename_i is h
        cases e
        obtain ⟨h1, h2⟩ := ints_dp t h
        cases r
        exact ⟨.cons (.int _) h1, by rw [h2]; rfl⟩
      · cases e
    · cases e
theorem bls_v : ∀ {ds : List D} {vs : List V} {bs : List Bool}, RVs K H ρ B ds vs → blsD ds = some bs → vs = bs.map V.bl
  | [], _, ns, .nil, e => by cases e; rfl
  | d :: ds, v :: vs, ns, .cons r t, e => by
    unfold blsD at e
    split at e
    · rename_i h
      cases h
    · rename_i h
      cases h
      split at e
      · rename_i is h
        cases e
        have h2 := bls_v t h
        cases r
        rw [h2]; rfl
      · cases e
    · cases e
theorem rvs_ints : ∀ ns : List Int, RVs K H ρ B (ns.map D.int) (ns.map V.int)
  | [] => .nil
  | n :: ns => .cons (.int n) (rvs_ints ns)
theorem isTuple_of {h : Heap} {a : Addr} {items : Array Value} (x : IsTup h a items) : h.IsTuple a items := by
  obtain ⟨o, h1, h2, n, h3⟩ := x
  exact ⟨o, h1, h2, n, h3⟩
def rSumA (K : Frag) : RC := fun xs H Q => rSum K xs H Q ∨ ∃ (a : Addr) (ns : List Int), xs = [V.ref a] ∧ SqT K H a (ns.map V.int) ∧ Q (.int ns.sum) H
theorem intItems_of {us : List Value} {ns : List Int} (h : IntsAre us ns) : ∃ xs : Array (Int × Tok), us.toArray = intItems xs ∧ preSum (numAt xs) xs.size = ns.sum := by
  obtain ⟨xs, hx⟩ := h.allInts.items
  have hn : numsOf us.toArray.toList = ns := by rw [show us.toArray.toList = us from rfl, h.numsOf]
  rw [hx, nums_intItems] at hn
  refine ⟨xs, hx, ?_⟩
  rw [preSum_eq, List.take_of_length_le (by simp), hn]
theorem call_sumA (hc : X.calm = true) : CallR X (.builtin "sum") (rSumA X.K) := by
  refine CallR.or (cr_sum hc) ?_
  intro pins s σ H xs us Q I r h
  obtain ⟨a, ns, rfl, hs, q⟩ := h
  obtain ⟨its, rv, hl, _⟩ := I.tuple hs
  rw [Vals.ref1 r]
  obtain ⟨xs, e1, e2⟩ := intItems_of rv.ints
  rw [e1] at hl
  exact PySem.W.ktm_sumG (I.ok.hd hc) (isTuple_of hl) fun h' tk t' hk => ⟨.int _, H, I.kept hk, ⟨t', rfl⟩, by rw [e2]; exact q⟩
/-! ### max, min, sorted -/
theorem alike_ints : ∀ ns : List Int, PySem.W.AlikeAll (ns.map PyData.int) := fun ns => ⟨fun x hx y hy => by
  obtain ⟨i, _, rfl⟩ := List.mem_map.mp hx
  obtain ⟨j, _, rfl⟩ := List.mem_map.mp hy
  rfl, fun x hx => by
  obtain ⟨i, _, rfl⟩ := List.mem_map.mp hx
  exact fun q => by cases q⟩
theorem depth_ints : ∀ ns : List Int, PyData.depthAll (ns.map PyData.int) = 0
  | [] => by simp [PyData.depthAll]
  | n :: ns => by rw [List.map_cons]; unfold PyData.depthAll; rw [depth_ints ns]; unfold PyData.depth; rfl
def rBest (K : Frag) (g : List Int → Int) : RC := fun xs H Q => ∃ (a : Addr) (ns : List Int), xs = [V.ref a] ∧ (SqL K H a (ns.map V.int) ∨ SqT K H a (ns.map V.int)) ∧ ns ≠ [] ∧ Q (.int (g ns)) H
theorem dpAll_ints {K : Frag} {H : Hp} : ∀ ns : List Int, DpAll K H (ns.map V.int) (ns.map PyData.int)
  | [] => .nil
  | n :: ns => .cons (.int n) (dpAll_ints ns)
theorem call_maxA (hc : X.calm = true) (hu : X.A.units + 70 < cLine) : CallR X (.builtin "max") (rBest X.K maxI) := by
  intro pins s σ H xs us Q I r h
  obtain ⟨a, ns, rfl, hs, hne, q⟩ := h
  rw [Vals.ref1 r]
  cases ns with
  | nil => exact absurd rfl hne
  | cons n ns =>
    have hd := depth_ints (n :: ns)
    have fin : ∀ (v : Value) (h' : Heap) (tk : Nat) (bs : List Addr), Reads h' v (PySem.W.maxD (.int n) (ns.map .int)) bs → (∀ b o, s.heap.get? b = some o → h'.get? b = some o) → EP X pins σ Q v { s with heap := h', toks := tk } := by
      intro v h' tk bs rd hk
      rw [PySem.W.maxD_ints] at rd
      cases rd
      exact ⟨.int _, H, I.kept hk, ⟨_, rfl⟩, q⟩
    rcases hs with hs | hs
    · obtain ⟨its, rv, hl, _⟩ := I.list hs
      obtain ⟨as, rd⟩ := Dp.readsAll I _ _ _ (dpAll_ints (n :: ns)) rv
      exact PySem.W.max_list_data (I.ok.hd hc) hl.isList rd (alike_ints (n :: ns)) (by rw [show PyData.int n :: List.map PyData.int ns = List.map PyData.int (n :: ns) from rfl, hd]; omega) fun i v h' tk bs _ rd hk => fin v h' tk bs rd hk
    · obtain ⟨its, rv, hl, _⟩ := I.tuple hs
      obtain ⟨as, rd⟩ := Dp.readsAll I _ _ _ (dpAll_ints (n :: ns)) rv
      exact PySem.W.max_tuple_data (I.ok.hd hc) (isTuple_of hl) rd (alike_ints (n :: ns)) (by rw [show PyData.int n :: List.map PyData.int ns = List.map PyData.int (n :: ns) from rfl, hd]; omega) fun i v h' tk bs _ rd hk => fin v h' tk bs rd hk
theorem call_minA (hc : X.calm = true) (hu : X.A.units + 70 < cLine) : CallR X (.builtin "min") (rBest X.K minI) := by
  intro pins s σ H xs us Q I r h
  obtain ⟨a, ns, rfl, hs, hne, q⟩ := h
  rw [Vals.ref1 r]
  cases ns with
  | nil => exact absurd rfl hne
  | cons n ns =>
    have hd := depth_ints (n :: ns)
    have fin : ∀ (v : Value) (h' : Heap) (tk : Nat) (bs : List Addr), Reads h' v (PySem.W.minD (.int n) (ns.map .int)) bs → (∀ b o, s.heap.get? b = some o → h'.get? b = some o) → EP X pins σ Q v { s with heap := h', toks := tk } := by
      intro v h' tk bs rd hk
      rw [PySem.W.minD_ints] at rd
      cases rd
      exact ⟨.int _, H, I.kept hk, ⟨_, rfl⟩, q⟩
    rcases hs with hs | hs
    · obtain ⟨its, rv, hl, _⟩ := I.list hs
      obtain ⟨as, rd⟩ := Dp.readsAll I _ _ _ (dpAll_ints (n :: ns)) rv
      exact PySem.W.min_list_data (I.ok.hd hc) hl.isList rd (alike_ints (n :: ns)) (by rw [show PyData.int n :: List.map PyData.int ns = List.map PyData.int (n :: ns) from rfl, hd]; omega) fun i v h' tk bs _ rd hk => fin v h' tk bs rd hk
    · obtain ⟨its, rv, hl, _⟩ := I.tuple hs
      obtain ⟨as, rd⟩ := Dp.readsAll I _ _ _ (dpAll_ints (n :: ns)) rv
      exact PySem.W.min_tuple_data (I.ok.hd hc) (isTuple_of hl) rd (alike_ints (n :: ns)) (by rw [show PyData.int n :: List.map PyData.int ns = List.map PyData.int (n :: ns) from rfl, hd]; omega) fun i v h' tk bs _ rd hk => fin v h' tk bs rd hk
inductive F2 {α β : Type} (R : α → β → Prop) : List α → List β → Prop
  | nil : F2 R [] []
  | cons {a : α} {b : β} {as : List α} {bs : List β} : R a b → F2 R as bs → F2 R (a :: as) (b :: bs)
/-- a new list of pairs, sorted -/
def rSortedPQ (K : Frag) : RC := fun vs H Q => ∃ (a : Addr) (xs : List V) (ps : List (Int × Int)), vs = [V.ref a] ∧ (SqL K H a xs ∨ SqT K H a xs) ∧ F2 (fun x p => ∃ t, x = V.ref t ∧ SqT K H t [.int p.1, .int p.2]) xs ps ∧
  ∀ (ys : List V) (qs : List (Int × Int)) (p : Addr), ys.length = qs.length → (ys.zip qs).Perm (xs.zip ps) → qs.Pairwise (fun p q => leP p q = true) → H p = none → Q (.ref p) (upd H p (.lst ys))
theorem f2_get {α β : Type} {R : α → β → Prop} {xs : List α} {ps : List β} (h : F2 R xs ps) : ∀ q ∈ xs.zip ps, R q.1 q.2 := by
  induction h with
  | nil => intro q hq; cases hq
  | cons r _ ih =>
    intro q hq
    rw [List.zip_cons_cons] at hq
    rcases List.mem_cons.mp hq with rfl | hq
    · exact r
    · exact ih q hq
theorem f2_len {α β : Type} {R : α → β → Prop} {xs : List α} {ps : List β} (h : F2 R xs ps) : xs.length = ps.length := by
  induction h with
  | nil => rfl
  | cons _ _ ih => rw [List.length_cons, List.length_cons, ih]
open Classical in
theorem cr_sortedPQ : CallR X (.builtin "sorted") (rSortedPQ X.K) := by
  intro pins s σ H vs us Q I r h
  obtain ⟨a, xs, ps, rfl, hs, hx, q⟩ := h
  obtain ⟨its, rv, hz, key⟩ : ∃ its : List Value, Vals xs its ∧ its.length ≤ sizeLine ∧ ∀ {k : Value → Int × Int} {Q : Value → Shared → Prop}, (∀ v ∈ its, Srt.IsPair s.heap v (k v).1 (k v).2) →
      (∀ (h' : Heap) (d : Addr) (out : List Value), SrtO.Srtd (fun v u => SrtO.lexB (k v) (k u)) out → SrtO.Stb (fun v u => SrtO.lexB (k v) (k u)) out its → (∀ b o, s.heap.get? b = some o → h'.get? b = some o) → s.heap.objs.size ≤ d → (∃ n, h'.get? d = some (seqObj "list" out.toArray n)) → Q (.ref d) { s with heap := h' }) →
      wpAny (model X.prog X.w) X.A (call (.builtin "sorted") [.ref a]) Q X.xe s := by
    rcases hs with hs | hs
    · obtain ⟨its, rv, hl, hz⟩ := I.list hs
      exact ⟨its, rv, by rw [← rv.length]; exact hz, fun hp h => SrtO.sorted_pairsO hl.isList (by rw [← rv.length]; exact hz) hp h⟩
    · obtain ⟨its, rv, hl, hz⟩ := I.tuple hs
      exact ⟨its, rv, by rw [← rv.length]; exact hz, fun hp h => L2.il_sorted_pairsT hl (by rw [← rv.length]; exact hz) hp h⟩
  obtain ⟨u, rfl, ru⟩ := vals1 r
  obtain rfl : u = Value.ref a := ru
  have hxr : ∀ x ∈ xs, ∃ t, x = V.ref t := fun x m => by
    obtain ⟨i, hi, rfl⟩ := List.getElem_of_mem m
    have hl2 := f2_len hx
    obtain ⟨t, e, _⟩ := f2_get hx (xs[i], ps[i]) (List.getElem_mem (l := xs.zip ps) (n := i) (by rw [List.length_zip]; omega) |> fun z => by rwa [List.getElem_zip] at z)
    exact ⟨t, e⟩
  obtain ⟨e1, e2⟩ := refs_back rv hxr
  let k : V → Int × Int := fun v => if c : ∃ (t : Addr) (p : Int × Int), v = V.ref t ∧ SqT X.K H t [.int p.1, .int p.2] then c.choose_spec.choose else (0, 0)
  have hk : ∀ (t : Addr) (p : Int × Int), SqT X.K H t [.int p.1, .int p.2] → k (V.ref t) = p := fun t p ht => by
    have c : ∃ (t' : Addr) (p : Int × Int), V.ref t = V.ref t' ∧ SqT X.K H t' [.int p.1, .int p.2] := ⟨t, p, rfl, ht⟩
    have e : k (V.ref t) = c.choose_spec.choose := dif_pos c
    obtain ⟨f1, f2⟩ := c.choose_spec.choose_spec
    rw [← e] at f2
    have f3 : t = c.choose := V.ref.inj f1
    rw [← f3] at f2
    have := I.tuple_inj f2 ht
    simp only [List.cons.injEq, V.int.injEq, and_true] at this
    exact Prod.ext this.1 this.2
  have hxk : xs.map k = ps := by
    clear q hs rv hz e1 hxr
    induction hx with
    | nil => rfl
    | cons r _ ih =>
      obtain ⟨t, rfl, ht⟩ := r
      rw [List.map_cons, hk _ _ ht, ih]
  refine key (k := fun u => k (backV u)) (fun v hv => ?_) fun h' d out h1 h2 kp hd hn => ?_
  · obtain ⟨t, rfl⟩ := e2 v hv
    have hm : V.ref t ∈ xs := by rw [e1]; exact List.mem_map.mpr ⟨_, hv, rfl⟩
    obtain ⟨i, hi, hxi⟩ := List.getElem_of_mem hm
    have hl2 := f2_len hx
    obtain ⟨t', e, ht⟩ := f2_get hx (xs[i], ps[i]) (List.getElem_mem (l := xs.zip ps) (n := i) (by rw [List.length_zip]; omega) |> fun z => by rwa [List.getElem_zip] at z)
    have e : V.ref t = V.ref t' := by rw [← hxi]; exact e
    cases e
    obtain ⟨its2, r2, ⟨⟨cls, dd, data, sl⟩, ho, hc, n, hd⟩, _⟩ := I.tuple ht
    obtain ⟨u1, u2, rfl, ri, rj⟩ := vals2 r2
    obtain ⟨t1, rfl⟩ := ri
    obtain ⟨t2, rfl⟩ := rj
    have hkk := hk _ _ ht
    have e3 : backV (Value.ref t) = V.ref t := rfl
    rw [e3, hkk]
    exact ⟨t, _, t1, t2, n, rfl, ho, hc, hd⟩
  · have h3 : ∀ u ∈ out, ∃ a, u = Value.ref a := fun u hu => e2 u (h2.perm.mem_iff.mp hu)
    obtain ⟨n, hn⟩ := hn
    have hb : SrtO.Stb (ltP k) (out.map backV) xs := by
      rw [e1]
      exact SrtO.Stb.map (ltP_swo k) backV h2
    have hso := SrtO.srtd_map h1
    refine ⟨.ref d, upd H d (.lst (out.map backV)), I.laid (t' := s.toks) kp hd ⟨?_, out, n, vals_back h3, hn⟩, rfl, q (out.map backV) ((out.map backV).map k) d (by simp only [List.length_map]) ?_ ?_ (I.hok.fresh hd)⟩
    · rw [hb.len, rv.length]
      exact hz
    · have z1 : ∀ l : List V, l.zip (l.map k) = l.map fun v => (v, k v) := fun l => by
        induction l with
        | nil => rfl
        | cons v l ih => rw [List.map_cons, List.map_cons, List.zip_cons_cons, ih]
      rw [z1, ← hxk, z1]
      exact hb.perm.map _
    · have e4 : (out.map backV).map k = out.map fun y => k (backV y) := by rw [List.map_map]; rfl
      rw [e4]
      refine hso.imp fun {x y} h => ?_
      have h := SrtO.lexB_no.mp h
      refine decide_eq_true ?_
      omega
/-- what a built-in of one argument is, as a value of the boot -/
def b1V : B1 → Value
  | .len => .builtin "len" | .int => .type "int" | .str => .type "str" | .repr => .builtin "repr" | .abs => .builtin "abs" | .max => .builtin "max" | .min => .builtin "min"
  | .sum => .builtin "sum" | .sorted => .builtin "sorted" | .all => .builtin "all" | .any => .builtin "any" | .tup => .type "tuple" | .lst => .type "list"
def b1N : B1 → Str
  | .len => "len" | .int => "int" | .str => "str" | .repr => "repr" | .abs => "abs" | .max => "max" | .min => "min"
  | .sum => "sum" | .sorted => "sorted" | .all => "all" | .any => "any" | .tup => "tuple" | .lst => "list"
def rB1 (K : Frag) : B1 → RC
  | .len => rLenA K
  | .int => rIntA
  | .str => fun xs H Q => ∃ i, xs = [.int i] ∧ i.natAbs.log2 < 1920 ∧ Q (.str (toString i)) H
  | .repr => rRepr K
  | .abs => fun xs H Q => ∃ i, xs = [.int i] ∧ Q (.int (if i < 0 then -i else i)) H
  | .max => rBest K maxI
  | .min => rBest K minI
  | .sum => rSumA K
  | .sorted => fun xs H Q => rSorted K xs H Q ∨ rSortedPQ K xs H Q ∨ L2.rSortedT K xs H Q
  | .all => rAll K
  | .any => rAny K
  | .tup => fun xs H Q => ∃ p ys, xs = [.ref p] ∧ ((SqL K H p ys ∧ ∀ l, H l = none → Q (.ref l) (upd H l (.tup ys))) ∨ (SqT K H p ys ∧ Q (.ref p) H))
  | .lst => fun xs H Q => ∃ p ys, xs = [.ref p] ∧ (SqL K H p ys ∨ SqT K H p ys) ∧ ∀ l, H l = none → Q (.ref l) (upd H l (.lst ys))
theorem call_b1 (hs : SmOk X) (hc : X.calm = true) (hg : X.A.guards = some []) (hu : X.A.units + 70 < cLine) : ∀ f : B1, CallR X (b1V f) (rB1 X.K f)
  | .len => call_lenA
  | .int => call_intA
  | .str => call_str_int
  | .repr => call_repr hs hg hu
  | .abs => call_abs
  | .max => call_maxA hc hu
  | .min => call_minA hc hu
  | .sum => call_sumA hc
  | .sorted => fun pins s σ H xs us Q I r h => h.elim (cr_sorted pins s σ H xs us Q I r) fun h => h.elim (cr_sortedPQ pins s σ H xs us Q I r) (L2.cr_sortedT pins s σ H xs us Q I r)
  | .all => cr_all hc
  | .any => cr_any hc
  | .tup => call_tuple_of
  | .lst => call_list_of
theorem items_ints {ns : List Int} (rel : Rel K env S ρ B σ H) (ra : RW K H ρ B a x) (e : (itemsD a S).bind intsD = some ns) : ∃ p, x = .ref p ∧ (SqL K H p (ns.map V.int) ∨ SqT K H p (ns.map V.int)) ∧ ((∀ ys, a ≠ .tup ys) → SqL K H p (ns.map V.int)) := by
  cases h : itemsD a S with
  | none => rw [h] at e; cases e
  | some xs =>
    rw [h] at e
    obtain ⟨p, vs, rfl, h1, h2, _, h3⟩ := items_sq rel.rs ra h
    have h4 := (ints_dp h2 e).2
    subst h4
    exact ⟨p, rfl, h1, h3⟩
theorem items_bls {bs : List Bool} (rel : Rel K env S ρ B σ H) (ra : RW K H ρ B a x) (hn : ∀ ys, a ≠ .tup ys) (e : (itemsD a S).bind blsD = some bs) : ∃ p, x = .ref p ∧ SqL K H p (bs.map V.bl) := by
  cases h : itemsD a S with
  | none => rw [h] at e; cases e
  | some xs =>
    rw [h] at e
    obtain ⟨p, vs, rfl, h1, h2, _, h3⟩ := items_sq rel.rs ra h
    have h4 := bls_v h2 e
    subst h4
    exact ⟨p, rfl, h3 hn⟩
theorem sort_one {ns ms : List Int} (p : ms.Perm ns) (h : ms.Pairwise (· ≤ ·)) : ms = srt ns := by
  refine PySem.W.ksm_same (p.trans ?_) h ?_
  · exact (List.mergeSort_perm ns _).symm
  · have := List.pairwise_mergeSort (le := fun a b : Int => decide (a ≤ b)) (fun a b c h1 h2 => by simp only [decide_eq_true_eq] at *; omega) (fun a b => by simp only [Bool.or_eq_true, decide_eq_true_eq]; omega) ns
    exact this.imp fun h => of_decide_eq_true h
end
end IL
/-! IH: built-ins, subscripts, slices on data: what is computed is what the rules ask. -/
namespace IL
open PySem PySem.Spec PyProof.Rows L2
section
variable {X : Cx} {K : Frag} {env : Env} {S : Store} {ρ : List Addr} {B : Bd} {σ : L2.St} {H : Hp} {k : Kd} {Q : V → Hp → Prop} {a b c : D} {x y z : V}

theorem sem_len (rel : Rel K env S ρ B σ H) (ra : RW K H ρ B a x) (fin : Fin K B ρ H (wE K k) (lenD a S) Q) : rLenA K [x] H Q := by
  unfold lenD at fin
  split at fin
  · cases ra.str
    obtain ⟨h, fin⟩ := ok_if fin
    exact .inr (.inl ⟨_, rfl, h, flat_int rel fin⟩)
  · split at fin
    · rename_i xs h
      obtain ⟨p, vs, rfl, h1, h2, _⟩ := items_sq rel.rs ra h
      refine .inl ⟨p, vs, rfl, h1, ?_⟩
      rw [← h2.length]
      exact flat_int rel fin
    · split at fin
      · split at fin
        · rename_i kvs hS
          obtain ⟨p, rfl, hn⟩ := ra.ref
          obtain ⟨vs, h1, h2⟩ := cell_dic rel.rs hn hS
          refine .inr (.inr ⟨p, _, rfl, .inl h1, ?_⟩)
          have e : ((kvs.map (·.1)).zip vs).length = kvs.length := by
            have := h2.length
            rw [List.length_map] at this
            rw [List.length_zip, List.length_map, ← this, Nat.min_self]
          rw [e]
          exact flat_int rel fin
        · exact fin.elim
      · exact fin.elim
theorem pairs_f2 : ∀ {xs : List D} {vs : List V} {ps : List (Int × Int)}, RVs K H ρ B xs vs → pairsD xs = some ps → F2 (fun x p => ∃ t, x = V.ref t ∧ SqT K H t [.int p.1, .int p.2]) vs ps
  | [], _, _, .nil, e => by cases e; exact .nil
  | d :: ds, _, ps, .cons r rs, e => by
    unfold pairsD at e
    split at e
    · rename_i h; cases h
    · rename_i h
      cases h
      split at e
      · rename_i h
        cases e
        cases r with
        | tup hT ri =>
          cases ri with
          | cons r1 ri =>
            cases ri with
            | cons r2 ri =>
              cases ri
              cases r1
              cases r2
              exact .cons ⟨_, rfl, hT⟩ (pairs_f2 rs h)
      · cases e
    · cases e
theorem pairs_back : ∀ {vs : List V} {ps : List (Int × Int)}, vs.length = ps.length → (∀ q ∈ vs.zip ps, ∃ t, q.1 = V.ref t ∧ SqT K H t [.int q.2.1, .int q.2.2]) → RVs K H ρ B (ps.map pairT) vs
  | [], [], _, _ => .nil
  | [], _ :: _, h, _ => by simp at h
  | _ :: _, [], h, _ => by simp at h
  | v :: vs, p :: ps, h, g => by
    obtain ⟨t, e, ht⟩ := g (v, p) (by rw [List.zip_cons_cons]; exact List.mem_cons_self)
    have e : v = V.ref t := e
    subst e
    exact .cons (.tup ht (.cons (.int _) (.cons (.int _) .nil))) (pairs_back (by simpa using h) fun q hq => g q (by rw [List.zip_cons_cons]; exact List.mem_cons_of_mem _ hq))
theorem sortP_one {ns ms : List (Int × Int)} (p : ms.Perm ns) (h : ms.Pairwise (fun p q => leP p q = true)) : ms = srtP ns := by
  have h2 : (srtP ns).Pairwise (fun p q => leP p q = true) := List.pairwise_mergeSort (le := leP) (fun a b c h1 h2 => by unfold leP at *; simp only [decide_eq_true_eq] at *; omega) (fun a b => by unfold leP; simp only [Bool.or_eq_true, decide_eq_true_eq]; omega) ns
  refine (p.trans (List.mergeSort_perm ns _).symm).eq_of_pairwise (le := fun p q => leP p q = true) (fun a b _ _ h1 h2 => ?_) h h2
  unfold leP at h1 h2
  simp only [decide_eq_true_eq] at h1 h2
  exact Prod.ext (by omega) (by omega)
theorem sem_b1 (f : B1) (rel : Rel K env S ρ B σ H) (ra : RW K H ρ B a x) (fin : Fin K B ρ H (wE K k) (b1D f a S) Q) : rB1 K f [x] H Q := by
  cases f with
  | len => exact sem_len rel ra fin
  | int =>
    unfold b1D at fin
    dsimp only at fin
    split at fin
    · cases ra.int
      exact .inl (.inl ⟨_, rfl, flat_int rel fin⟩)
    · cases ra.bl
      exact .inl (.inr ⟨_, rfl, flat_int rel fin⟩)
    · cases ra.str
      split at fin
      · rename_i h
        obtain ⟨h2, fin⟩ := ok_if fin
        exact .inr ⟨_, _, rfl, h, h2, flat_int rel fin⟩
      · exact fin.elim
    · exact fin.elim
  | str =>
    unfold b1D at fin
    dsimp only at fin
    split at fin
    · cases ra.int
      obtain ⟨h2, fin⟩ := ok_if fin
      exact ⟨_, rfl, h2, flat_str rel fin⟩
    · exact fin.elim
  | repr =>
    unfold b1D reprD at fin
    dsimp only at fin
    split at fin
    · rename_i p h
      obtain ⟨h2, fin⟩ := ok_if fin
      exact ⟨x, p, rfl, toPS_dq rel.rs ra h, h2, flat_str rel fin⟩
    · exact fin.elim
  | abs =>
    unfold b1D at fin
    dsimp only at fin
    split at fin
    · cases ra.int
      exact ⟨_, rfl, flat_int rel fin⟩
    · exact fin.elim
  | max =>
    unfold b1D at fin
    dsimp only at fin
    split at fin
    · rename_i h
      obtain ⟨h2, fin⟩ := ok_if fin
      obtain ⟨p, rfl, h3, _⟩ := items_ints rel ra h
      exact ⟨p, _, rfl, h3, h2, flat_int rel fin⟩
    · exact fin.elim
  | min =>
    unfold b1D at fin
    dsimp only at fin
    split at fin
    · rename_i h
      obtain ⟨h2, fin⟩ := ok_if fin
      obtain ⟨p, rfl, h3, _⟩ := items_ints rel ra h
      exact ⟨p, _, rfl, h3, h2, flat_int rel fin⟩
    · exact fin.elim
  | sum =>
    unfold b1D at fin
    dsimp only at fin
    split at fin
    · rename_i h
      obtain ⟨p, rfl, h3, _⟩ := items_ints rel ra h
      rcases h3 with h3 | h3
      · exact .inl ⟨p, _, rfl, h3, flat_int rel fin⟩
      · exact .inr ⟨p, _, rfl, h3, flat_int rel fin⟩
    · exact fin.elim
  | sorted =>
    unfold b1D at fin
    dsimp only at fin
    split at fin
    · rename_i h
      obtain ⟨h2, fin⟩ := ok_if fin
      obtain ⟨p, rfl, h3, _⟩ := items_ints rel ra h
      rcases h3 with h3 | h3
      · refine .inl ⟨p, _, rfl, h3, h2, fun ns' q hp hs hq => ?_⟩
        have e := sort_one hp hs
        subst e
        exact Fin.newL rel fin (rvs_ints _) q hq
      · refine .inr (.inr ⟨p, _, rfl, h3, h2, fun ns' q hp hs hq => ?_⟩)
        have e := sort_one hp hs
        subst e
        exact Fin.newL rel fin (rvs_ints _) q hq
    · split at fin
      · split at fin
        · rename_i ps h
          obtain ⟨p, vs, rfl, h1, h2⟩ := ra.tup
          refine .inr (.inl ⟨p, vs, ps, rfl, .inr h1, pairs_f2 h2 h, fun ys qs r hl hp hs hq => ?_⟩)
          have f := pairs_f2 h2 h
          have e : qs = srtP ps := by
            refine sortP_one ?_ hs
            have := hp.map Prod.snd
            rw [List.map_snd_zip (by omega), List.map_snd_zip (by have := f2_len f; omega)] at this
            exact this
          subst e
          exact Fin.newL rel fin (pairs_back hl fun q hq => f2_get f q (hp.mem_iff.mp hq)) r hq
        · exact fin.elim
      · rename_i hn
        split at fin
        · rename_i ps h
          cases hi : itemsD a S with
          | none => rw [hi] at h; cases h
          | some xs =>
            rw [hi] at h
            obtain ⟨p, vs, rfl, _, h2, _, h3⟩ := items_sq rel.rs ra hi
            refine .inr (.inl ⟨p, vs, ps, rfl, Or.inl (h3 hn), pairs_f2 h2 h, fun ys qs r hl hp hs hq => ?_⟩)
            have f := pairs_f2 h2 h
            have e : qs = srtP ps := by
              refine sortP_one ?_ hs
              have := hp.map Prod.snd
              rw [List.map_snd_zip (by omega), List.map_snd_zip (by have := f2_len f; omega)] at this
              exact this
            subst e
            exact Fin.newL rel fin (pairs_back hl fun q hq => f2_get f q (hp.mem_iff.mp hq)) r hq
        · exact fin.elim
  | all =>
    unfold b1D at fin
    dsimp only at fin
    split at fin
    · exact fin.elim
    · rename_i hn
      split at fin
      · rename_i h
        obtain ⟨p, rfl, h3⟩ := items_bls rel ra hn h
        exact ⟨p, _, rfl, h3, flat_bl rel fin⟩
      · exact fin.elim
  | any =>
    unfold b1D at fin
    dsimp only at fin
    split at fin
    · exact fin.elim
    · rename_i hn
      split at fin
      · rename_i h
        obtain ⟨p, rfl, h3⟩ := items_bls rel ra hn h
        exact ⟨p, _, rfl, h3, flat_bl rel fin⟩
      · exact fin.elim
  | tup =>
    unfold b1D at fin
    dsimp only at fin
    split at fin
    · rename_i xs h
      obtain ⟨p, vs, rfl, h1, h2, h3, h4⟩ := items_sq rel.rs ra h
      refine ⟨p, vs, rfl, ?_⟩
      by_cases ht : ∃ ys, a = .tup ys
      · exact .inr ⟨h3 ht, Fin.flat rel fin rfl (.tup (h3 ht) h2)⟩
      · exact .inl ⟨h4 fun ys e => ht ⟨ys, e⟩, Fin.newT rel fin h2⟩
    · exact fin.elim
  | lst =>
    unfold b1D at fin
    dsimp only at fin
    split at fin
    · rename_i xs h
      obtain ⟨p, vs, rfl, h1, h2, _⟩ := items_sq rel.rs ra h
      exact ⟨p, vs, rfl, h1, Fin.newL rel fin h2⟩
    · exact fin.elim

/-! ### isinstance -/
def tyN : Ty → String
  | .int => "int" | .bool => "bool" | .str => "str" | .tup => "tuple" | .lst => "list" | .dic => "dict"
theorem kits : ∀ t : Ty, kitB "NoneType" (tyN t) = some false ∧ kitB "bool" (tyN t) = some (t == .bool || t == .int) ∧ kitB "int" (tyN t) = some (t == .int) ∧ kitB "str" (tyN t) = some (t == .str) ∧
    kitB "tuple" (tyN t) = some (t == .tup) ∧ kitB "list" (tyN t) = some (t == .lst) ∧ kitB "dict" (tyN t) = some (t == .dic) := by
  intro t
  cases t <;> decide +kernel
def rIsaA (K : Frag) (t : Ty) : RC := fun xs H Q => ∃ (x : V) (n : String) (r : Bool), xs = [x, .ty (tyN t)] ∧ TyX K H x (.type n) ∧ kitB n (tyN t) = some r ∧ Q (.bl r) H
theorem call_isaA (t : Ty) : CallR X (.builtin "isinstance") (rIsaA X.K t) := by
  intro pins s σ H xs us Q I r h
  obtain ⟨x, n, r1, rfl, h1, h2, q⟩ := h
  exact call_isi pins s σ H _ us Q I r ⟨x, .ty (tyN t), .type n, .type (tyN t), r1, rfl, .ty _, h1, kit_ty h2, q⟩
theorem sqT_ty {p : Addr} {vs : List V} (h : SqT K H p vs) : TyX K H (.ref p) (.type "tuple") := by
  rcases h with (h | ⟨o, h⟩) | ⟨o, its, n, h, hc, _⟩
  · exact .base (.tup h)
  · exact .fTuple h
  · exact .kTuple h hc
theorem isaD_sem {t : Ty} {r : Bool} (rel : Rel K env S ρ B σ H) (ra : RW K H ρ B a x) (e : isaD t a S = some r) : ∃ n, TyX K H x (.type n) ∧ kitB n (tyN t) = some r := by
  obtain ⟨k1, k2, k3, k4, k5, k6, k7⟩ := kits t
  unfold isaD at e
  split at e
  · cases ra.non; cases e; exact ⟨_, .base .non, k1⟩
  · cases ra.bl; cases e; exact ⟨_, .base (.bl _), k2⟩
  · cases ra.int; cases e; exact ⟨_, .base (.int _), k3⟩
  · cases ra.str; cases e; exact ⟨_, .base (.str _), k4⟩
  · obtain ⟨p, vs, rfl, h, _⟩ := ra.tup
    cases e; exact ⟨_, sqT_ty h, k5⟩
  · obtain ⟨p, vs, rfl, h, _⟩ := ra.lst
    cases e; exact ⟨_, .base (.lst h), k6⟩
  · cases e
    cases ra with
    | dic h l n b r => exact ⟨_, .base (.dK h), k7⟩
  · obtain ⟨p, rfl, hn⟩ := ra.ref
    split at e
    · rename_i hS
      obtain ⟨vs, h1, _⟩ := cell_lst rel.rs hn hS
      cases e; exact ⟨_, .base (.lst h1), k6⟩
    · rename_i hS
      obtain ⟨vs, h1, _⟩ := cell_dic rel.rs hn hS
      cases e; exact ⟨_, .base (.dK h1), k7⟩
    · cases e
/-! ### subscripts -/
def rIxD : R2 := fun x y H Q => ∃ p v, x = .ref p ∧ DGet H p y (some v) ∧ Q v H
theorem ix_dict (hu : X.A.units + 1 < cLine) : IxR X rIxD := by
  intro value slice pins s σ H x y v u Q I rx ry h hs
  obtain ⟨p, w, rfl, g, q⟩ := h
  cases rx
  exact tail_any (dict_typeIs I g) PySem.F.slot_dict_getitem.lookup (d_getItem hu I g ry fun w' s' I' rw' => ⟨w, H, I', rw', q⟩) hs
def rIxA (K : Frag) : R2 := fun x y H Q => rIx K x y H Q ∨ rIxD x y H Q
theorem ix_any (hu : X.A.units + 1 < cLine) : IxR X (rIxA X.K) := IxR.or ix_seq (ix_dict hu)
theorem atI_rv {ds : List D} {vs : List V} {i : Int} {d : D} (r : RVs K H ρ B ds vs) (e : atI ds i = some d) : ∃ v, atI vs i = some v ∧ RV K H ρ B d v := by
  unfold atI at e ⊢
  rw [← r.length]
  cases h : ixN ds.length i with
  | none => rw [h] at e; cases e
  | some j =>
    rw [h] at e
    exact r.get e
/-- a value that is found -/
theorem Fin.got {d : D} {v : V} (rel : Rel K env S ρ B σ H) (hk : k = .val) (fin : Fin K B ρ H (wE K k) (.ok d S) Q) (r : RV K H ρ B d v) : Q v H := by
  subst hk
  exact Fin.here rel fin r
theorem sem_ix (hk : k = .val) (rel : Rel K env S ρ B σ H) (ra : RW K H ρ B a x) (rb : RW K H ρ B b y) (fin : Fin K B ρ H (wE K k) (ixD a b S) Q) : rIxA K x y H Q := by
  unfold ixD at fin
  split at fin
  · cases ra.str
    split at fin
    · cases rb.int
      obtain ⟨h, fin⟩ := ok_if fin
      split at fin
      · rename_i h2
        exact .inl (.inr (.inr ⟨_, _, _, rfl, rfl, h, h2, flat_str rel fin⟩))
      · exact fin.elim
    · exact fin.elim
  · split at fin
    · rename_i xs h
      split at fin
      · cases rb.int
        split at fin
        · rename_i h2
          obtain ⟨p, vs, rfl, h3, h4, _⟩ := items_sq rel.rs ra h
          obtain ⟨v, h5, h6⟩ := atI_rv h4 h2
          rcases h3 with h3 | h3
          · exact .inl (.inl ⟨p, vs, _, v, rfl, rfl, h3, h5, Fin.got rel hk fin h6⟩)
          · exact .inl (.inr (.inl ⟨p, vs, _, v, rfl, rfl, h3, h5, Fin.got rel hk fin h6⟩))
        · exact fin.elim
      · exact fin.elim
    · split at fin
      · split at fin
        · rename_i kvs hS
          obtain ⟨p, rfl, hn⟩ := ra.ref
          obtain ⟨vs, h1, h2⟩ := cell_dic rel.rs hn hS
          cases hkey : keyD b with
          | none => rw [hkey] at fin; exact fin.elim
          | some key =>
            rw [hkey] at fin
            cases keyD_rv rb hkey
            rcases dget_val key h2 with ⟨q1, q2⟩ | ⟨d, v, q1, q2, q3⟩
            · simp only [Option.bind_some, q1] at fin
              exact fin.elim
            · simp only [Option.bind_some, q1] at fin
              exact .inr ⟨p, v, rfl, .inl ⟨_, key, .inl h1, rfl, q2.symm⟩, Fin.got rel hk fin q3⟩
        · exact fin.elim
      · exact fin.elim
/-! ### slices -/
theorem cut_rv {ds : List D} {vs : List V} (lo hi : Option Int) (r : RVs K H ρ B ds vs) : RVs K H ρ B (cut ds lo hi) (cutV vs lo hi) := by
  unfold cut cutV
  rw [r.length]
  exact (r.drop _).take _
def rSl (K : Frag) : V → Option Int → Option Int → Hp → VK → Prop := fun x lo hi H Q => rSlL K x lo hi H Q ∨ rSlA K x lo hi H Q
theorem sl_any : SlR X (rSl X.K) := SlR.or sl_list sl_tupA
theorem cut_all {α : Type} {xs : List α} {lo hi : Option Int} (h : HT.sIx xs.length 0 lo = 0 ∧ HT.sIx xs.length xs.length hi = xs.length) : cut xs lo hi = xs := by
  unfold cut
  rw [h.1, h.2, List.drop_zero, Nat.sub_zero, List.take_length]
theorem sem_sl (lo hi : Option Int) (rel : Rel K env S ρ B σ H) (ra : RW K H ρ B a x) (fin : Fin K B ρ H (wE K k) (slD a lo hi S) Q) : rSl K x lo hi H Q := by
  unfold slD at fin
  split at fin
  · rename_i xs
    obtain ⟨p, vs, rfl, h, r⟩ := ra.tup
    refine .inr ⟨p, vs, rfl, h, fun hw => ?_, fun _ => Fin.newT rel fin (cut_rv lo hi r)⟩
    rw [← r.length] at hw
    rw [cut_all hw] at fin
    exact Fin.flat rel fin rfl (.tup h r)
  · rename_i hn
    split at fin
    · rename_i xs h
      obtain ⟨p, vs, rfl, h1, h2, _, h4⟩ := items_sq rel.rs ra h
      exact .inl ⟨p, vs, rfl, h4 hn, Fin.newL rel fin (cut_rv lo hi h2)⟩
    · exact fin.elim
end
end IL
/-! IJ: a written expression held against one of the small syntax. -/
namespace IL
open PySem PySem.Spec PyProof.Rows L2

/-- the built-ins' names that a text may use -/
def bnames : List Str := ["len", "int", "str", "repr", "abs", "max", "min", "sum", "sorted", "all", "any", "tuple", "list", "range", "enumerate", "zip", "isinstance", "bool", "dict", "set"]
def dbg (x : Str) : Bool := (x == ("__debug__" : Str)) || (x == ("__classdict__" : Str))
/-- the name in the i-th slot is seen here -/
def visB (N : List Str) (sc : Scope) (i : Nat) (x : Str) : Bool :=
  decide (N[i]? = some x) && !dbg x && (match sc.names.lookup x with | some .local => true | some .cell => true | some .free => true | _ => false)
/-- .. may be given a value here -/
def locB (N : List Str) (sc : Scope) (fn : Str → Bool) (i : Nat) (x : Str) : Bool :=
  decide (N[i]? = some x) && (match sc.names.lookup x with | some .local => true | some .cell => fn x | _ => false)
def gloB (sc : Scope) (x : Str) : Bool := decide (sc.names.lookup x = some .globalImplicit) && !dbg x
/-- a call of the built-in with this name -/
def bltB (sc : Scope) (x y : Str) : Bool := decide (x = y) && gloB sc x && bnames.contains x && !decide (x = ("__name__" : Str))
def notSet : Expr → Bool
  | .Set .. => false
  | _ => true
def notSlice : Expr → Bool
  | .Slice .. => false
  | _ => true
def notStar : Expr → Bool
  | .Starred .. => false
  | _ => true
def isTup : Expr → Bool
  | .Tuple .. => true
  | _ => false
/-- what sort of value an expression gives -/
def kd : E → Kd
  | .own _ => .own
  | .bin .. => .fr
  | .lst _ => .fr
  | .lsts _ => .fr
  | .lr1 _ => .fr
  | .tr1 _ => .fr
  | .revl _ => .fr
  | .lr2 _ _ => .fr
  | .b1 _ _ => .fr
  | .sl _ _ _ => .fr
  | .comp _ _ _ _ => .fr
  | .compc _ _ _ _ => .fr
  | _ => .val
/-- the names of a target, with their slots -/
def ownOf : Expr → E → List (Str × Nat)
  | .Name x _, .var i => [(x, i)]
  | .Tuple es _ _, .tup es' => ownsOf es es'
  | _, _ => []
where ownsOf : List Expr → E → List (Str × Nat)
  | e :: es, .cs a b => ownOf e a ++ ownsOf es b
  | _, _ => []
section
variable (W : List (Str × Nat × List Str × List Nat)) (N : List Str)
mutual
def chkT (sc : Scope) (fn : Str → Bool) : Expr → E → Bool
  | e, .var i => match e with | .Name x _ => locB N sc fn i x | _ => false
  | e, .tup es => match e with | .Tuple es' _ _ => chkTs sc fn es' es | _ => false
  | _, _ => false
def chkTs (sc : Scope) (fn : Str → Bool) : List Expr → E → Bool
  | e, .nl => match e with | [] => true | _ => false
  | e, .cs a b => match e with | e :: es => notStar e && chkT sc fn e a && chkTs sc fn es b | [] => false
  | _, _ => false
end
end
end IL
/-! IK: rules for expressions. -/
namespace IL
open PySem PySem.Spec PyProof.Rows L2

theorem PTs.mono {X : Cx} {e : List Expr} {t t' : TT} (h : PTs X e t) (m : ∀ σ H Q, t' σ H Q → t σ H Q) : PTs X e t' := ⟨fun pins s σ H Q I q => h.run pins s σ H Q I (m σ H Q q)⟩
theorem PI.or {X : Cx} {tg e : Expr} {t t' : TI} (h : PI X tg e t) (h' : PI X tg e t') : PI X tg e (fun σ H R => t σ H R ∨ t' σ H R) :=
  ⟨fun pins s σ H R I q => q.elim (h.run pins s σ H R I) (h'.run pins s σ H R I)⟩
abbrev PDE (X : Cx) (k : Kd) (e : Expr) (f : Env → Store → R D) : Prop := PE X e (tG X.K (wE X.K k) f)
abbrev PDT (X : Cx) (e : Expr) (f : Env → Store → R Bool) : Prop := PT X e (tG X.K wT f)
abbrev PDA (X : Cx) (es : List Expr) (f : Env → Store → R (List D)) : Prop := PA X es (tG X.K (wA X.K) f)
abbrev PDO (X : Cx) (e : Option Expr) (f : Env → Store → R (Option Int)) : Prop := PO X e (tG X.K wO f)
abbrev PDC (X : Cx) (es : List Expr) (f : Env → Store → R Bool) : Prop := PTs X es (tG X.K wT f)

section
variable {α β γ δ : Type} {K : Frag} {P : Wish α β} {P' : Wish γ δ} {env : Env} {S : Store} {ρ : List Addr} {B : Bd} {σ : L2.St} {H : Hp}
theorem Fin.okB {r : R α} {g : α → Store → R γ} {Q : δ → Hp → Prop} (h : Fin K B ρ H P' (r.bind g) Q) : ∃ a S1, r = .ok a S1 ∧ Fin K B ρ H P' (g a S1) Q := by
  cases r with
  | ok a S1 => exact ⟨a, S1, rfl, h⟩
  | exc _ _ _ => exact h.elim
  | bad => exact h.elim
theorem tG_case {f : Env → Store → R α} {T : β → Hp → Prop} {a : α} {S1 : Store} (rel : Rel K env S ρ B σ H) (e : f env S = .ok a S1)
    (h : ∀ b H1 ρ1, Ext K ρ H ρ1 H1 → Rel K env S1 ρ1 B σ H1 → P B H H1 ρ1 S1 a b → T b H1) : tG K P f σ H T := by
  refine ⟨env, S, ρ, B, rel, ?_⟩
  rw [e]
  exact fun b H1 ρ1 x nd rs p => h b H1 ρ1 x (rel.mono x rs nd) p
end

section
variable {X : Cx} {e a b c d : Expr} {k ka kb kc : Kd} {f fa fb fc fd : Env → Store → R D} {pos : Pos}
/-! ### names, constants -/
theorem vis_of {N : List Str} {sc : Scope} {i : Nat} {x : Str} (h : visB N sc i x = true) : N[i]? = some x ∧ Vis sc x ∧ (x == ("__debug__" : Str)) = false ∧ (x == ("__classdict__" : Str)) = false := by
  unfold visB dbg at h
  simp only [Bool.and_eq_true, decide_eq_true_eq, Bool.not_eq_true', Bool.or_eq_false_iff] at h
  refine ⟨h.1.1, ?_, h.1.2.1, h.1.2.2⟩
  have h2 := h.2
  unfold Vis
  split at h2
  · exact .inl ‹_›
  · exact .inr (.inl ‹_›)
  · exact .inr (.inr ‹_›)
  · cases h2
theorem glo_of {sc : Scope} {x : Str} (h : gloB sc x = true) : sc.names.lookup x = some .globalImplicit ∧ (x == ("__debug__" : Str)) = false := by
  unfold gloB dbg at h
  simp only [Bool.and_eq_true, decide_eq_true_eq, Bool.not_eq_true', Bool.or_eq_false_iff] at h
  exact ⟨h.1, h.2.1⟩
theorem pd_var {i : Nat} {x : Str} (h : visB X.N X.env.scope i x = true) : PDE X .val (.Name x pos) (fun v S => match v[i]? with | some (.val d) => .ok d S | _ => .bad) := by
  obtain ⟨h1, h2, h3, h4⟩ := vis_of h
  refine PE.mono (pe_var h1 h2 h3 h4) fun σ H Q ⟨env, S, ρ, B, rel, fin⟩ => ?_
  show ∃ v, σ[i]? = some (some v) ∧ Q v H
  dsimp only at fin
  split at fin
  · rename_i d hd
    have s := rel.eo i _ hd
    generalize σ[i]? = o at s
    cases s with
    | val r => exact ⟨_, rfl, Fin.here rel fin r⟩
  · exact fin.elim
theorem pd_own {i : Nat} {x : Str} (h : visB X.N X.env.scope i x = true) : PDE X .own (.Name x pos) (fun v S => match v[i]? with | some (.own xs) => .ok (.lst xs) S | _ => .bad) := by
  obtain ⟨h1, h2, h3, h4⟩ := vis_of h
  refine PE.mono (pe_var h1 h2 h3 h4) fun σ H Q ⟨env, S, ρ, B, rel, fin⟩ => ?_
  show ∃ v, σ[i]? = some (some v) ∧ Q v H
  dsimp only at fin
  split at fin
  · rename_i d hd
    have s := rel.eo i _ hd
    generalize σ[i]? = o at s
    cases s with
    | own h1 r b => exact ⟨_, rfl, Fin.here rel fin ⟨_, _, rfl, h1, (rel.bt _ b).2, r⟩⟩
  · exact fin.elim
theorem pd_tC {d : D} {v : V} (h : PE X e (tC v)) (hl : notL d = true) (r : ∀ H ρ B, RV X.K H ρ B d v) : PDE X k e (fun _ S => .ok d S) :=
  PE.mono h fun σ H Q ⟨env, S, ρ, B, rel, fin⟩ => Fin.flat rel fin hl (r H ρ B)
/-- what a module's name holds -/
def GloOk (K : Frag) (mg : Str → Option Value) (x : Str) (d : D) : Prop := ∃ u v, mg x = some u ∧ RelV v u ∧ notL d = true ∧ ∀ H ρ B, RV K H ρ B d v
/-! ### operators -/
theorem pd_bin (o : Operator) (ha : PDE X ka a fa) (hb : PDE X kb b fb) : PDE X k (.BinOp a o b pos) (fun v S => (fa v S).bind fun x S1 => (fb v S1).bind fun y S2 => binD o x y S2) :=
  PE.mono (pe_op (op_bin o) ha hb) fun σ H Q ⟨env, S, ρ, B, rel, fin⟩ =>
    Fin.bind down_E rel fin fun d1 S1 v1 H1 ρ1 rel1 e1 p1 fin1 => Fin.bind down_E rel1 fin1 fun d2 S2 v2 H2 ρ2 rel2 e2 p2 fin2 =>
      sem_bin o rel2 ((p1.rw rel.b0).mono e2) (p2.rw rel1.b0) fin2
theorem pd_neg (ha : PDE X ka a fa) : PDE X k (.UnaryOp .USub a pos) (fun v S => (fa v S).bind fun x S1 => match x with | .int i => .ok (.int (-i)) S1 | _ => .bad) :=
  PE.mono (pe_un un_neg ha) fun σ H Q ⟨env, S, ρ, B, rel, fin⟩ =>
    Fin.bind down_E rel fin fun d1 S1 v1 H1 ρ1 rel1 e1 p1 fin1 => by
      split at fin1
      · cases (p1.rw rel.b0).int
        exact ⟨_, rfl, flat_int rel1 fin1⟩
      · exact fin1.elim
theorem marks {o : CmpOp} {b : Expr} (h : notSet b = true) : behindInMarks o b = false := by
  cases b <;> first | rfl | cases h
theorem pd_cmp (o : CmpOp) (hu : X.A.units + 64 < cLine) (hs : notSet b = true) (ha : PDE X ka a fa) (hb : PDE X kb b fb) : PDE X k (.Compare a [o] [b] pos) (fun v S => (fa v S).bind fun x S1 => (fb v S1).bind fun y S2 => cmpD o x y S2) :=
  PE.mono (pe_cmpR (op_cmp hu o) ha hb (marks hs)) fun σ H Q ⟨env, S, ρ, B, rel, fin⟩ =>
    Fin.bind down_E rel fin fun d1 S1 v1 H1 ρ1 rel1 e1 p1 fin1 => Fin.bind down_E rel1 fin1 fun d2 S2 v2 H2 ρ2 rel2 e2 p2 fin2 =>
      sem_cmp o rel2 ((p1.rw rel.b0).mono e2) (p2.rw rel1.b0) fin2
theorem bl_of {K : Frag} {env : Env} {S : Store} {ρ : List Addr} {B : Bd} {σ : L2.St} {H : Hp} {d : D} {v : V} {Q : Bool → Hp → Prop} (rel : Rel K env S ρ B σ H) (r : RW K H ρ B d v) (fin : Fin K B ρ H wT (blD d S) Q) : ∃ c, v = .bl c ∧ Q c H := by
  unfold blD at fin
  split at fin
  · cases r.bl
    exact ⟨_, rfl, Fin.here rel fin rfl⟩
  · exact fin.elim
/-- a comparison's, a call's value as a test -/
theorem tG_test {K : Frag} {f : Env → Store → R D} {σ : L2.St} {H : Hp} {Q : Bool → Hp → Prop} (h : tG K wT (fun v S => (f v S).bind blD) σ H Q) : tTest (tG K (wE K .val) f) σ H Q := by
  obtain ⟨env, S, ρ, B, rel, fin⟩ := h
  exact Fin.bind down_T rel fin fun d S1 v H1 ρ1 rel1 e1 p fin1 => bl_of rel1 (p.rw rel.b0) fin1
theorem pt_cmpD (o : CmpOp) (hu : X.A.units + 64 < cLine) (hs : notSet b = true) (ha : PDE X ka a fa) (hb : PDE X kb b fb) : PDT X (.Compare a [o] [b] pos) (fun v S => ((fa v S).bind fun x S1 => (fb v S1).bind fun y S2 => cmpD o x y S2).bind blD) := by
  refine PT.mono (pt_cmpR (op_cmp hu o) ha hb (marks hs)) fun σ H Q h => ?_
  obtain ⟨env, S, ρ, B, rel, fin⟩ := tG_test h
  exact Fin.bind down_E rel fin fun d1 S1 v1 H1 ρ1 rel1 e1 p1 fin1 => Fin.bind down_E rel1 fin1 fun d2 S2 v2 H2 ρ2 rel2 e2 p2 fin2 =>
      sem_cmp o rel2 ((p1.rw rel.b0).mono e2) (p2.rw rel1.b0) fin2
theorem lmarks {o p : CmpOp} {b c : Expr} (h : notSet c = true) : lastMarks [o, p] [b, c] = false := marks h
def chD (o p : CmpOp) (fc : Env → Store → R D) (x y : D) (v : Env) (S2 : Store) : R D := (cmpD o x y S2).bind fun k S3 => match k with
  | .bl true => (fc v S3).bind fun z S4 => cmpD p y z S4
  | .bl false => .ok (.bl false) S3
  | _ => .bad
theorem chain_sem (o p : CmpOp) {σ : L2.St} {H : Hp} {Q : VK} (h : tG X.K (wE X.K .val) (fun v S => (fa v S).bind fun x S1 => (fb v S1).bind fun y S2 => chD o p fc x y v S2) σ H Q) :
    tChain (rCmp X.K o) (rCmp X.K p) (tG X.K (wE X.K ka) fa) (tG X.K (wE X.K kb) fb) (tG X.K (wE X.K kc) fc) σ H Q := by
  obtain ⟨env, S, ρ, B, rel, fin⟩ := h
  refine Fin.bind down_E rel fin fun d1 S1 v1 H1 ρ1 rel1 e1 p1 fin1 => Fin.bind down_E rel1 fin1 fun d2 S2 v2 H2 ρ2 rel2 e2 p2 fin2 => ?_
  obtain ⟨z, S3, hz, fin3⟩ := Fin.okB fin2
  refine sem_cmp (k := .val) o rel2 ((p1.rw rel.b0).mono e2) (p2.rw rel1.b0) ?_
  rw [hz]
  intro w H3 ρ3 e3 nd3 rs3 p3
  have rel3 := rel2.mono e3 rs3 nd3
  have fin3' := Fin.step down_E e3 fin3
  have r2 := (p2.rw rel1.b0).mono e3
  split at fin3'
  · cases (RV.rw p3).bl
    exact ⟨true, rfl, Fin.bind down_E rel3 fin3' fun d4 S4 v4 H4 ρ4 rel4 e4 p4 fin4 => sem_cmp p rel4 (r2.mono e4) (p4.rw rel3.b0) fin4⟩
  · cases (RV.rw p3).bl
    exact ⟨false, rfl, flat_bl rel3 fin3'⟩
  · exact fin3'.elim
theorem pd_ch (o p : CmpOp) (hu : X.A.units + 64 < cLine) (hs : notSet c = true) (ha : PDE X ka a fa) (hb : PDE X kb b fb) (hc : PDE X kc c fc) :
    PDE X .val (.Compare a [o, p] [b, c] pos) (fun v S => (fa v S).bind fun x S1 => (fb v S1).bind fun y S2 => chD o p fc x y v S2) :=
  PE.mono (pe_chain (op_cmp hu o) (op_cmp hu p) ha hb hc (lmarks hs)) fun σ H Q h => chain_sem o p h
theorem pt_ch (o p : CmpOp) (hu : X.A.units + 64 < cLine) (hs : notSet c = true) (ha : PDE X ka a fa) (hb : PDE X kb b fb) (hc : PDE X kc c fc) :
    PDT X (.Compare a [o, p] [b, c] pos) (fun v S => ((fa v S).bind fun x S1 => (fb v S1).bind fun y S2 => chD o p fc x y v S2).bind blD) :=
  PT.mono (pt_chain (op_cmp hu o) (op_cmp hu p) ha hb hc (lmarks hs)) fun σ H Q h => chain_sem o p (tG_test h)
/-- a op1 b op2 c op3 d -/
def tChain3 (r r' r'' : R2) (ta tb tc td : TE) : TE := fun σ H Q => ta σ H fun x H1 => tb σ H1 fun y H2 => r x y H2 fun z H3 => ∃ k, z = .bl k ∧
  (if k = true then tc σ H3 fun w' H4 => r' y w' H4 fun z' H5 => ∃ k', z' = .bl k' ∧ (if k' = true then td σ H5 fun u H6 => r'' w' u H6 Q else Q (.bl false) H5) else Q (.bl false) H3)
section
variable {ta tb tc td : TE} {o p q : CmpOp} {r r' r'' : R2} {d : Expr} {fd : Env → Store → R D}
theorem pe_chain3 (ho : OpR X (compareOp o) r) (ho' : OpR X (compareOp p) r') (ho'' : OpR X (compareOp q) r'') (ha : PE X a ta) (hb : PE X b tb) (hc : PE X c tc) (hd : PE X d td)
    (hm : lastMarks [o, p, q] [b, c, d] = false) : PE X (.Compare a [o, p, q] [b, c, d] pos) (tChain3 r r' r'' ta tb tc td) := by
  refine ⟨fun pins s σ H Q I h => ?_⟩
  refine Compare_chain (thn (ha.run pins s σ H _ I h) fun v s1 ⟨x, H1, I1, r1, q1⟩ => chain_link (thn (hb.run pins s1 σ H1 _ I1 q1) fun u s2 ⟨y, H2, I2, r2, q2⟩ =>
    thn (ho pins s2 σ H2 x y v u _ I2 r1 r2 q2) fun d s3 ⟨z, H3, I3, r3, k, e, q3⟩ => ?_)) hm
  subst e
  cases r3
  refine wpAny_truthy_bool ?_
  cases k with
  | false => exact ite_ff ⟨.bl false, H3, I3, rfl, q3⟩
  | true =>
    refine ite_tt (chain_link (thn (hc.run pins s3 σ H3 _ I3 q3) fun w' s4 ⟨z', H4, I4, r4, q4⟩ => thn (ho' pins s4 σ H4 y z' u w' _ I4 r2 r4 q4) fun d' s5 ⟨z2, H5, I5, r5, k2, e2, q5⟩ => ?_))
    subst e2
    cases r5
    refine wpAny_truthy_bool ?_
    cases k2 with
    | false => exact ite_ff ⟨.bl false, H5, I5, rfl, q5⟩
    | true => exact ite_tt (chain_last (thn (hd.run pins s5 σ H5 _ I5 q5) fun w2 s6 ⟨z6, H6, I6, r6, q6⟩ => ho'' pins s6 σ H6 z' z6 w' w2 Q I6 r4 r6 q6))
theorem pt_chain3 (ho : OpR X (compareOp o) r) (ho' : OpR X (compareOp p) r') (ho'' : OpR X (compareOp q) r'') (ha : PE X a ta) (hb : PE X b tb) (hc : PE X c tc) (hd : PE X d td)
    (hm : lastMarks [o, p, q] [b, c, d] = false) : PT X (.Compare a [o, p, q] [b, c, d] pos) (tTest (tChain3 r r' r'' ta tb tc td)) := by
  refine ⟨fun pins s σ H Q I h => ?_⟩
  refine isTrue_chain (thn (ha.run pins s σ H _ I h) fun v s1 ⟨x, H1, I1, r1, q1⟩ => test_link (thn (hb.run pins s1 σ H1 _ I1 q1) fun u s2 ⟨y, H2, I2, r2, q2⟩ =>
    thn (ho pins s2 σ H2 x y v u _ I2 r1 r2 q2) fun d s3 ⟨z, H3, I3, r3, k, e, q3⟩ => ?_)) hm
  subst e
  cases r3
  refine wpAny_truthy_bool ?_
  cases k with
  | false =>
    obtain ⟨k', e', q'⟩ := q3
    cases e'
    exact ite_ff ⟨H3, I3, q'⟩
  | true =>
    refine ite_tt (test_link (thn (hc.run pins s3 σ H3 _ I3 q3) fun w' s4 ⟨z', H4, I4, r4, q4⟩ => thn (ho' pins s4 σ H4 y z' u w' _ I4 r2 r4 q4) fun d' s5 ⟨z2, H5, I5, r5, k2, e2, q5⟩ => ?_))
    subst e2
    cases r5
    refine wpAny_truthy_bool ?_
    cases k2 with
    | false =>
      obtain ⟨k', e', q'⟩ := q5
      cases e'
      exact ite_ff ⟨H5, I5, q'⟩
    | true =>
      refine ite_tt (test_last (thn (hd.run pins s5 σ H5 _ I5 q5) fun w2 s6 ⟨z6, H6, I6, r6, q6⟩ => thn (ho'' pins s6 σ H6 z' z6 w' w2 _ I6 r4 r6 q6) fun d' s7 ⟨z7, H7, I7, r7, k7, e7, q7⟩ => ?_))
      subst e7
      cases r7
      exact wpAny_truthy_bool ⟨H7, I7, q7⟩
def ch3D (o p q : CmpOp) (fc fd : Env → Store → R D) (x y : D) (v : Env) (S2 : Store) : R D := (cmpD o x y S2).bind fun k S3 => match k with
  | .bl true => (fc v S3).bind fun z S4 => chD p q fd y z v S4
  | .bl false => .ok (.bl false) S3
  | _ => .bad
theorem chain_sem3 (o p q : CmpOp) {kd : Kd} {σ : L2.St} {H : Hp} {Q : VK} (h : tG X.K (wE X.K .val) (fun v S => (fa v S).bind fun x S1 => (fb v S1).bind fun y S2 => ch3D o p q fc fd x y v S2) σ H Q) :
    tChain3 (rCmp X.K o) (rCmp X.K p) (rCmp X.K q) (tG X.K (wE X.K ka) fa) (tG X.K (wE X.K kb) fb) (tG X.K (wE X.K kc) fc) (tG X.K (wE X.K kd) fd) σ H Q := by
  obtain ⟨env, S, ρ, B, rel, fin⟩ := h
  refine Fin.bind down_E rel fin fun d1 S1 v1 H1 ρ1 rel1 e1 p1 fin1 => Fin.bind down_E rel1 fin1 fun d2 S2 v2 H2 ρ2 rel2 e2 p2 fin2 => ?_
  obtain ⟨z, S3, hz, fin3⟩ := Fin.okB fin2
  refine sem_cmp (k := .val) o rel2 ((p1.rw rel.b0).mono e2) (p2.rw rel1.b0) ?_
  rw [hz]
  intro w H3 ρ3 e3 nd3 rs3 p3
  have rel3 := rel2.mono e3 rs3 nd3
  have fin3' := Fin.step down_E e3 fin3
  have r2 := (p2.rw rel1.b0).mono e3
  split at fin3'
  · cases (RV.rw p3).bl
    refine ⟨true, rfl, Fin.bind down_E rel3 fin3' fun d4 S4 v4 H4 ρ4 rel4 e4 p4 fin4 => ?_⟩
    obtain ⟨z5, S5, hz5, fin5⟩ := Fin.okB fin4
    refine sem_cmp (k := .val) p rel4 (r2.mono e4) (p4.rw rel3.b0) ?_
    rw [hz5]
    intro w5 H5 ρ5 e5 nd5 rs5 p5
    have rel5 := rel4.mono e5 rs5 nd5
    have fin5' := Fin.step down_E e5 fin5
    have r4 := (p4.rw rel3.b0).mono e5
    split at fin5'
    · cases (RV.rw p5).bl
      exact ⟨true, rfl, Fin.bind down_E rel5 fin5' fun d6 S6 v6 H6 ρ6 rel6 e6 p6 fin6 => sem_cmp q rel6 (r4.mono e6) (p6.rw rel5.b0) fin6⟩
    · cases (RV.rw p5).bl
      exact ⟨false, rfl, flat_bl rel5 fin5'⟩
    · exact fin5'.elim
  · cases (RV.rw p3).bl
    exact ⟨false, rfl, flat_bl rel3 fin3'⟩
  · exact fin3'.elim
theorem lmarks3 {o p q : CmpOp} {b c d : Expr} (h : notSet d = true) : lastMarks [o, p, q] [b, c, d] = false := marks h
theorem pd_ch3 (o p q : CmpOp) {kd : Kd} (hu : X.A.units + 64 < cLine) (hs : notSet d = true) (ha : PDE X ka a fa) (hb : PDE X kb b fb) (hc : PDE X kc c fc) (hd : PDE X kd d fd) :
    PDE X .val (.Compare a [o, p, q] [b, c, d] pos) (fun v S => (fa v S).bind fun x S1 => (fb v S1).bind fun y S2 => ch3D o p q fc fd x y v S2) :=
  PE.mono (pe_chain3 (op_cmp hu o) (op_cmp hu p) (op_cmp hu q) ha hb hc hd (lmarks3 hs)) fun σ H Q h => chain_sem3 o p q h
theorem pt_ch3 (o p q : CmpOp) {kd : Kd} (hu : X.A.units + 64 < cLine) (hs : notSet d = true) (ha : PDE X ka a fa) (hb : PDE X kb b fb) (hc : PDE X kc c fc) (hd : PDE X kd d fd) :
    PDT X (.Compare a [o, p, q] [b, c, d] pos) (fun v S => ((fa v S).bind fun x S1 => (fb v S1).bind fun y S2 => ch3D o p q fc fd x y v S2).bind blD) :=
  PT.mono (pt_chain3 (op_cmp hu o) (op_cmp hu p) (op_cmp hu q) ha hb hc hd (lmarks3 hs)) fun σ H Q h => chain_sem3 o p q (tG_test h)
end
/-! ### truth -/
theorem truD_sem {K : Frag} {env : Env} {S : Store} {ρ : List Addr} {B : Bd} {σ : L2.St} {H : Hp} {d : D} {v : V} {r : Bool} (rel : Rel K env S ρ B σ H) (ra : RW K H ρ B d v) (h : truD d S = some r) : TruV K v H r := by
  unfold truD at h
  split at h
  · cases ra.non; cases h; rfl
  · cases ra.bl; cases h; rfl
  · cases ra.int; cases h; rfl
  · cases ra.str
    split at h
    · cases h; exact ⟨‹_›, rfl⟩
    · cases h
  · obtain ⟨p, vs, rfl, h1, r1⟩ := ra.tup
    cases h
    refine .inr (.inl ⟨vs, h1, ?_⟩)
    cases r1 <;> rfl
  · obtain ⟨p, vs, rfl, h1, _, r1⟩ := ra.lst
    cases h
    refine .inl ⟨vs, SqL.of h1, ?_⟩
    cases r1 <;> rfl
  · obtain ⟨p, rfl, hn⟩ := ra.ref
    split at h
    · obtain ⟨vs, h1, r1⟩ := cell_lst rel.rs hn ‹_›
      cases h
      refine .inl ⟨vs, SqL.of h1, ?_⟩
      cases r1 <;> rfl
    · obtain ⟨o, vs, h1, r1⟩ := cell_ro rel.rs hn ‹_›
      cases h
      refine .inl ⟨vs, .inl (.inr ⟨o, h1⟩), ?_⟩
      cases r1 <;> rfl
    · rename_i kvs _
      obtain ⟨vs, h1, r1⟩ := cell_dic rel.rs hn ‹_›
      cases h
      refine .inr (.inr ⟨_, h1, ?_⟩)
      cases kvs with
      | nil => cases r1; rfl
      | cons kv kvs => cases r1; rfl
    · cases h
  · cases h
theorem truR_sem {K : Frag} {env : Env} {S : Store} {ρ : List Addr} {B : Bd} {σ : L2.St} {H : Hp} {d : D} {v : V} {Q : Bool → Hp → Prop} (rel : Rel K env S ρ B σ H) (ra : RW K H ρ B d v) (fin : Fin K B ρ H wT (truR d S) Q) : ∃ k, TruV K v H k ∧ Q k H := by
  unfold truR at fin
  split at fin
  · exact ⟨_, truD_sem rel ra ‹_›, Fin.here rel fin rfl⟩
  · exact fin.elim
theorem pt_any (ha : PDE X ka a fa) (he : ∀ whole, isTrue a X.env whole = (do let v ← whole; standAt a.pos; holding [v] (truthy v))) : PDT X a (fun v S => (fa v S).bind truR) :=
  PT.mono (pt_truth ha he) fun σ H Q ⟨env, S, ρ, B, rel, fin⟩ => Fin.bind down_T rel fin fun d1 S1 v1 H1 ρ1 rel1 e1 p1 fin1 => truR_sem rel1 (p1.rw rel.b0) fin1
theorem pd_not (ha : PDE X ka a fa) : PDE X .val (.UnaryOp .Not a pos) (fun v S => (fa v S).bind fun x S1 => (truR x S1).bind fun b S2 => .ok (.bl (!b)) S2) :=
  PE.mono (pe_notT ha) fun σ H Q ⟨env, S, ρ, B, rel, fin⟩ => Fin.bind down_E rel fin fun d1 S1 v1 H1 ρ1 rel1 e1 p1 fin1 => by
    obtain ⟨b, S2, hb, fin2⟩ := Fin.okB fin1
    unfold truR at hb
    split at hb
    · cases hb
      exact ⟨_, truD_sem rel1 (p1.rw rel.b0) ‹_›, flat_bl rel1 fin2⟩
    · cases hb
theorem pt_notD {ft : Env → Store → R Bool} (ha : PDT X a ft) : PDT X (.UnaryOp .Not a pos) (fun v S => (ft v S).bind fun b S1 => .ok (!b) S1) :=
  PT.mono (pt_not ha) fun σ H Q ⟨env, S, ρ, B, rel, fin⟩ => Fin.bind down_T rel fin fun d1 S1 v1 H1 ρ1 rel1 e1 p1 fin1 => by
    cases p1
    exact Fin.here rel1 fin1 rfl
theorem pt_andD {ft fu : Env → Store → R Bool} {r : List Expr} (ha : PDT X a ft) (hb : PW X (.BoolOp .And (b :: r) pos) (tG X.K wT fu)) : PW X (.BoolOp .And (a :: b :: r) pos) (tG X.K wT (fun v S => (ft v S).bind fun k S1 => if k = true then fu v S1 else .ok false S1)) := by
  have h := pw_and ha hb
  refine ⟨fun whole pins s σ H Q I q => h.run whole pins s σ H Q I ?_⟩
  obtain ⟨env, S, ρ, B, rel, fin⟩ := q
  refine Fin.bind down_T rel fin fun d1 S1 v1 H1 ρ1 rel1 e1 p1 fin1 => ?_
  cases p1
  cases d1 with
  | true => exact Fin.last rel1 fin1
  | false => exact Fin.here rel1 fin1 rfl
theorem pt_orD {ft fu : Env → Store → R Bool} {r : List Expr} (ha : PDT X a ft) (hb : PW X (.BoolOp .Or (b :: r) pos) (tG X.K wT fu)) : PW X (.BoolOp .Or (a :: b :: r) pos) (tG X.K wT (fun v S => (ft v S).bind fun k S1 => if k = true then .ok true S1 else fu v S1)) := by
  have h := pw_or ha hb
  refine ⟨fun whole pins s σ H Q I q => h.run whole pins s σ H Q I ?_⟩
  obtain ⟨env, S, ρ, B, rel, fin⟩ := q
  refine Fin.bind down_T rel fin fun d1 S1 v1 H1 ρ1 rel1 e1 p1 fin1 => ?_
  cases p1
  cases d1 with
  | true => exact Fin.here rel1 fin1 rfl
  | false => exact Fin.last rel1 fin1
theorem pd_and {r : List Expr} (ha : PDE X .val a fa) (hb : PDE X .val (.BoolOp .And (b :: r) pos) fb) : PDE X .val (.BoolOp .And (a :: b :: r) pos) (fun v S => (fa v S).bind fun x S1 => match x with | .bl true => fb v S1 | .bl false => .ok (.bl false) S1 | _ => .bad) :=
  PE.mono (pe_and ha hb) fun σ H Q ⟨env, S, ρ, B, rel, fin⟩ => Fin.bind down_E rel fin fun d1 S1 v1 H1 ρ1 rel1 e1 p1 fin1 => by
    split at fin1
    · cases (RV.rw p1).bl
      exact ⟨true, rfl, Fin.last rel1 fin1⟩
    · cases (RV.rw p1).bl
      exact ⟨false, rfl, flat_bl rel1 fin1⟩
    · exact fin1.elim
theorem pd_or {r : List Expr} (ha : PDE X .val a fa) (hb : PDE X .val (.BoolOp .Or (b :: r) pos) fb) : PDE X .val (.BoolOp .Or (a :: b :: r) pos) (fun v S => (fa v S).bind fun x S1 => match x with | .bl false => fb v S1 | .bl true => .ok (.bl true) S1 | _ => .bad) :=
  PE.mono (pe_or ha hb) fun σ H Q ⟨env, S, ρ, B, rel, fin⟩ => Fin.bind down_E rel fin fun d1 S1 v1 H1 ρ1 rel1 e1 p1 fin1 => by
    split at fin1
    · cases (RV.rw p1).bl
      exact ⟨false, rfl, Fin.last rel1 fin1⟩
    · cases (RV.rw p1).bl
      exact ⟨true, rfl, flat_bl rel1 fin1⟩
    · exact fin1.elim
/-- any kind but a frame's own list is a plain value -/
theorem PDE.val (hk : ka ≠ .own) (ha : PDE X ka a fa) : PDE X .val a fa := by
  refine PE.mono ha fun σ H Q ⟨env, S, ρ, B, rel, fin⟩ => ⟨env, S, ρ, B, rel, ?_⟩
  cases h : fa env S with
  | ok d S1 =>
    rw [h] at fin
    exact fun v H1 ρ1 e nd rs p => fin v H1 ρ1 e nd rs (p.rv rel.b0 hk)
  | exc _ _ _ => rw [h] at fin; exact fin
  | bad => rw [h] at fin; exact fin
theorem pd_ife {ft : Env → Store → R Bool} (hc : PDT X c ft) (ha : PDE X .val a fa) (hb : PDE X .val b fb) : PDE X .val (.IfExp c a b pos) (fun v S => (ft v S).bind fun k S1 => if k = true then fa v S1 else fb v S1) :=
  PE.mono (pe_ifExp hc ha hb) fun σ H Q ⟨env, S, ρ, B, rel, fin⟩ => Fin.bind down_E rel fin fun d1 S1 v1 H1 ρ1 rel1 e1 p1 fin1 => by
    cases p1
    cases d1 with
    | true => exact Fin.last rel1 fin1
    | false => exact Fin.last rel1 fin1
end
end IL
/-! IM: rules for expressions: argument lists, built-ins, subscripts, displays, what is walked, comprehensions. -/
namespace IL
open PySem PySem.Spec PyProof.Rows L2
section
variable {X : Cx} {e a b c d : Expr} {es : List Expr} {k ka kb kc : Kd} {f fa fb fc fd : Env → Store → R D} {fs : Env → Store → R (List D)} {pos p : Pos}

/-! ### arguments -/
theorem star_cons {e : Expr} {es : List Expr} {env : PySem.Env} (h : notStar e = true) : starEach (e :: es) env = (false, eval e env) :: starEach es env := by
  cases e <;> first | rfl | cases h
theorem star_none {env : PySem.Env} {pos : Pos} : ∀ {es : List Expr}, es.all notStar = true → (backTo pos (starEach es env)).any (·.1) = false
  | [], _ => rfl
  | e :: es, h => by
    rw [List.all_cons, Bool.and_eq_true] at h
    rw [star_cons h.1]
    exact star_none (es := es) h.2
theorem pd_nil : PDA X [] (fun _ S => .ok [] S) := PA.mono pa_nil fun σ H Q ⟨env, S, ρ, B, rel, fin⟩ => Fin.here rel fin .nil
theorem pd_cons (hs : notStar e = true) (he : PDE X .val e f) (hr : PDA X es fs) : PDA X (e :: es) (fun v S => (f v S).bind fun x S1 => (fs v S1).bind fun xs S2 => .ok (x :: xs) S2) :=
  PA.mono (pa_cons he hr (star_cons hs)) fun σ H Q ⟨env, S, ρ, B, rel, fin⟩ =>
    Fin.bind down_A rel fin fun d1 S1 v1 H1 ρ1 rel1 e1 p1 fin1 => Fin.bind down_A rel1 fin1 fun d2 S2 v2 H2 ρ2 rel2 e2 p2 fin2 =>
      Fin.here rel2 fin2 (.cons (RV.mono e2 p1) p2)
theorem pd_star (ha : PDE X ka a fa) (hr : PDA X es fs) : PDA X (.Starred a p :: es) (fun v S => (fa v S).bind fun x S1 => match seqD x with
    | some xs => (fs v S1).bind fun ys S2 => .ok (xs ++ ys) S2
    | none => .bad) :=
  PA.mono (StX.pa_star ha hr rfl) fun σ H Q ⟨env, S, ρ, B, rel, fin⟩ =>
    Fin.bind down_A rel fin fun d1 S1 v1 H1 ρ1 rel1 e1 p1 fin1 => by
      cases hd : seqD d1 with
      | none => rw [hd] at fin1; exact fin1.elim
      | some xs =>
        rw [hd] at fin1
        have key : ∃ q vs, v1 = .ref q ∧ (SqT X.K H1 q vs ∨ SqL X.K H1 q vs) ∧ RVs X.K H1 ρ1 B xs vs := by
          cases d1 with
          | tup ys => cases hd; obtain ⟨q, vs, rfl, h1, h2⟩ := (p1.rw rel.b0).tup; exact ⟨q, vs, rfl, .inl h1, h2⟩
          | lst ys => cases hd; obtain ⟨q, vs, rfl, h1, h2, h3⟩ := (p1.rw rel.b0).lst; exact ⟨q, vs, rfl, .inr (SqL.of h1), h3⟩
          | _ => cases hd
        obtain ⟨q, vs, rfl, h1, h2⟩ := key
        exact ⟨_, vs, rfl, h1, Fin.bind down_A rel1 fin1 fun ys S2 ws H2 ρ2 rel2 e2 p2 fin2 => Fin.here rel2 fin2 ((h2.mono e2).append p2)⟩
theorem pd_part (he : PDE X ka e f) : PDO X (some e) (fun v S => (f v S).bind fun x S1 => match x with | .int i => .ok (some i) S1 | _ => .bad) :=
  PO.mono (po_some he) fun σ H Q ⟨env, S, ρ, B, rel, fin⟩ => Fin.bind down_O rel fin fun d1 S1 v1 H1 ρ1 rel1 e1 p1 fin1 => by
    split at fin1
    · cases (p1.rw rel.b0).int
      exact ⟨_, rfl, Fin.here rel1 fin1 rfl⟩
    · exact fin1.elim
theorem pd_nopart : PDO X none (fun _ S => .ok none S) := PO.mono po_none fun σ H Q ⟨env, S, ρ, B, rel, fin⟩ => Fin.here rel fin rfl
/-! ### displays -/
theorem pd_tup {n : Nat} (h : PDA X es fs) : PDE X k (.Tuple es n pos) (fun v S => (fs v S).bind fun xs S1 => if xs.length ≤ sizeLine then .ok (.tup xs) S1 else .bad) :=
  PE.mono (pe_tup h) fun σ H Q ⟨env, S, ρ, B, rel, fin⟩ => Fin.bind down_E rel fin fun d1 S1 v1 H1 ρ1 rel1 e1 p1 fin1 => by
    obtain ⟨h, fin1⟩ := ok_if fin1
    exact ⟨by rw [← p1.length]; exact h, Fin.newT rel1 fin1 p1⟩
theorem pd_lst (h : PDA X es fs) : PDE X k (.List es pos) (fun v S => (fs v S).bind fun xs S1 => if xs.length ≤ sizeLine then .ok (.lst xs) S1 else .bad) :=
  PE.mono (pe_lst h) fun σ H Q ⟨env, S, ρ, B, rel, fin⟩ => Fin.bind down_E rel fin fun d1 S1 v1 H1 ρ1 rel1 e1 p1 fin1 => by
    obtain ⟨h, fin1⟩ := ok_if fin1
    exact ⟨by rw [← p1.length]; exact h, Fin.newL rel1 fin1 p1⟩
/-- a new list becomes a cell -/
theorem cell_sem {K : Frag} {f : Env → Store → R D} {σ : L2.St} {H : Hp} {Q : VK} (h : tG K (wE K .val) (fun v S => (f v S).bind fun x S1 => match x with | .lst xs => .ok (.ref S1.length) (S1 ++ [.lst xs]) | _ => .bad) σ H Q) : tG K (wE K .fr) f σ H Q := by
  obtain ⟨env, S, ρ, B, rel, fin⟩ := h
  refine ⟨env, S, ρ, B, rel, ?_⟩
  obtain ⟨x, S1, hx, fin1⟩ := Fin.okB fin
  rw [hx]
  intro v H1 ρ1 e1 nd rs p1
  split at fin1
  · rename_i xs
    obtain ⟨a, vs, rfl, h0, h1, hn, r, rs'⟩ := p1
    have hl : ρ1.length = S1.length := rs.1
    have hB : ∀ b, B b → b ≠ a := fun b hb q => (rel.bt b hb).1 (by rw [q]; exact h0)
    have ext : Ext K ρ H (ρ1 ++ [a]) H1 := ⟨fun n b q => by rw [List.getElem?_append_left (by have := e1.pre n b q; exact (List.getElem?_eq_some_iff.mp this).1)]; exact e1.pre n b q, fun b q => List.mem_append_left _ (e1.sub b q), e1.keep, e1.tup,
      fun b q q' => by
        rcases List.mem_append.mp q with q | q
        · exact e1.new b q q'
        · rw [List.mem_singleton.mp q]; exact h0⟩
    have step : Ext K ρ1 H1 (ρ1 ++ [a]) H1 → True := fun _ => trivial
    have up : ∀ {d : D} {v : V}, RV K H1 ρ1 (fun b => B b ∨ b = a) d v → RV K H1 (ρ1 ++ [a]) B d v := fun r => RV.grow (a := a) r
    have ups : ∀ {d : List D} {v : List V}, RVs K H1 ρ1 (fun b => B b ∨ b = a) d v → RVs K H1 (ρ1 ++ [a]) B d v := fun r => RVs.grow (a := a) r
    refine fin1 (.ref a) H1 (ρ1 ++ [a]) ext ?_ ?_ (.ref ?_)
    · rw [List.nodup_append]
      exact ⟨nd, by simp, fun b hb c hc q => hn (by rw [← List.mem_singleton.mp hc, ← q]; exact hb)⟩
    · refine ⟨by rw [List.length_append, List.length_append, hl]; rfl, fun n c q => ?_⟩
      by_cases hlt : n < S1.length
      · rw [List.getElem?_append_left hlt] at q
        obtain ⟨b, o, q1, q2, q3⟩ := rs'.2 n c q
        refine ⟨b, o, by rw [List.getElem?_append_left (by rw [hl]; exact hlt)]; exact q1, q2, ?_⟩
        cases q3 with
        | lst r => exact .lst (ups r)
        | ro r => exact .ro (ups r)
        | dic r => exact .dic (ups r)
      · have hge : S1.length ≤ n := Nat.le_of_not_lt hlt
        rw [List.getElem?_append_right hge] at q
        have hz : n - S1.length = 0 := by
          cases hq : n - S1.length with
          | zero => rfl
          | succ m => rw [hq] at q; simp at q
        rw [hz] at q
        simp only [List.getElem?_cons_zero, Option.some.injEq] at q
        subst q
        refine ⟨a, _, ?_, h1, .lst (ups r)⟩
        rw [List.getElem?_append_right (by rw [hl]; exact hge), hl, hz]
        rfl
    · rw [List.getElem?_append_right (by rw [hl]; exact Nat.le_refl _), hl, Nat.sub_self]
      rfl
  · exact fin1.elim
theorem pd_cell (h : PDE X .fr e f) : PDE X .val e (fun v S => (f v S).bind fun x S1 => match x with | .lst xs => .ok (.ref S1.length) (S1 ++ [.lst xs]) | _ => .bad) :=
  PE.mono h fun σ H Q q => cell_sem q
/-! ### built-ins -/
theorem boot_b1 : ∀ f : B1, bootBuiltins (b1N f) = some (b1V f) := by
  intro f
  cases f <;> decide +kernel
theorem blt_of {sc : Scope} {x y : Str} (h : bltB sc x y = true) : x = y ∧ sc.names.lookup x = some .globalImplicit ∧ (x == ("__debug__" : Str)) = false ∧ x ∈ bnames ∧ x ≠ "__name__" := by
  unfold bltB at h
  simp only [Bool.and_eq_true, decide_eq_true_eq, Bool.not_eq_true', decide_eq_false_iff_not] at h
  obtain ⟨h1, h2⟩ := glo_of h.1.1.2
  exact ⟨h.1.1.1, h1, h2, by simpa using h.1.2, h.2⟩
theorem rng_rv {K : Frag} {H : Hp} {ρ : List Addr} {B : Bd} {a : Int} : ∀ is : List Nat, RVs K H ρ B (is.map fun (i : Nat) => D.int (a + (i : Int))) (is.map fun (i : Nat) => V.int (a + (i : Nat)))
  | [] => .nil
  | i :: is => .cons (.int _) (rng_rv is)
theorem pd_lr1 {x y : Str} {p2 pos2 : Pos} (hc : X.calm = true) (hx : bltB X.env.scope x "list" = true) (hy : bltB X.env.scope y "range" = true) (hb : ∀ y ∈ bnames, X.mg y = none) (hs : notStar a = true) (ha : PDE X ka a fa) :
    PDE X k (.Call (.Name x p) [.Call (.Name y p2) [a] [] pos2] [] pos) (fun v S => (fa v S).bind fun x S1 => match x with
    | .int n => if rngOk 0 n ∧ n ≤ 16777216 then .ok (.lst (rngD 0 n)) S1 else .bad
    | _ => .bad) := by
  obtain ⟨rfl, h1, h2, h3, h4⟩ := blt_of hx
  obtain ⟨rfl, g1, g2, g3, g4⟩ := blt_of hy
  refine PE.mono (pe_listRg hc h1 (hb _ h3) (prg_1 g1 (hb _ g3) ha (star_cons hs)) rfl) fun σ H Q ⟨env, S, ρ, B, rel, fin⟩ => Fin.bind down_E rel fin fun d1 S1 v1 H1 ρ1 rel1 e1 p1 fin1 => ?_
  split at fin1
  · cases (p1.rw rel.b0).int
    obtain ⟨⟨⟨b1, b2, b3, b4⟩, b5⟩, fin1⟩ := ok_if fin1
    exact ⟨_, rfl, ⟨b1, b2, b3, b4, by omega⟩, Fin.newL rel1 fin1 (rng_rv _)⟩
  · exact fin1.elim
theorem pd_tr1 {x y : Str} {p2 pos2 : Pos} (hc : X.calm = true) (hx : bltB X.env.scope x "tuple" = true) (hy : bltB X.env.scope y "range" = true) (hb : ∀ y ∈ bnames, X.mg y = none) (hs : notStar a = true) (ha : PDE X ka a fa) :
    PDE X k (.Call (.Name x p) [.Call (.Name y p2) [a] [] pos2] [] pos) (fun v S => (fa v S).bind fun x S1 => match x with
    | .int n => if rngOk 0 n ∧ n ≤ 16777216 then .ok (.tup (rngD 0 n)) S1 else .bad
    | _ => .bad) := by
  obtain ⟨rfl, h1, h2, h3, h4⟩ := blt_of hx
  obtain ⟨rfl, g1, g2, g3, g4⟩ := blt_of hy
  refine PE.mono (pe_tupRg hc h1 (hb _ h3) (prg_1 g1 (hb _ g3) ha (star_cons hs)) rfl) fun σ H Q ⟨env, S, ρ, B, rel, fin⟩ => Fin.bind down_E rel fin fun d1 S1 v1 H1 ρ1 rel1 e1 p1 fin1 => ?_
  split at fin1
  · cases (p1.rw rel.b0).int
    obtain ⟨⟨⟨b1, b2, b3, b4⟩, b5⟩, fin1⟩ := ok_if fin1
    exact ⟨_, rfl, ⟨b1, b2, b3, b4, by omega⟩, Fin.newT rel1 fin1 (rng_rv _)⟩
  · exact fin1.elim
theorem rvs_rev {K : Frag} {H : Hp} {ρ : List Addr} {B : Bd} : ∀ {xs : List D} {vs : List V}, RVs K H ρ B xs vs → RVs K H ρ B xs.reverse vs.reverse
  | [], _, r => by cases r; exact .nil
  | x :: xs, _, r => by
    cases r with
    | cons r1 r2 =>
      rw [List.reverse_cons, List.reverse_cons]
      exact (rvs_rev r2).append (.cons r1 .nil)
theorem pd_revl {n : Nat} {p1 p2 p3 : Pos} (ha : PDE X ka a fa) :
    PDE X k (.Subscript a (.Slice none none (some (.UnaryOp .USub (.Constant (.int 1) n p1) p2)) p3) pos) (fun v S => (fa v S).bind fun x S1 => match x with
    | .tup _ => .bad
    | x => match itemsD x S1 with
      | some xs => .ok (.lst xs.reverse) S1
      | none => .bad) := by
  refine PE.mono (pe_revL ha) fun σ H Q ⟨env, S, ρ, B, rel, fin⟩ => Fin.bind down_E rel fin fun d1 S1 v1 H1 ρ1 rel1 e1 q1 fin1 => ?_
  split at fin1
  · exact fin1.elim
  · rename_i hn
    split at fin1
    · rename_i xs hi
      obtain ⟨p, vs, rfl, _, h2, _, h3⟩ := items_sq rel1.rs (q1.rw rel.b0) hi
      exact ⟨p, vs, rfl, h3 hn, Fin.newL rel1 fin1 (rvs_rev h2)⟩
    · exact fin1.elim
theorem pd_lr2 {x y : Str} {p2 pos2 : Pos} (hc : X.calm = true) (hx : bltB X.env.scope x "list" = true) (hy : bltB X.env.scope y "range" = true) (hb : ∀ y ∈ bnames, X.mg y = none) (hs : notStar a = true) (hs2 : notStar b = true) (ha : PDE X ka a fa) (hbb : PDE X kb b fb) :
    PDE X k (.Call (.Name x p) [.Call (.Name y p2) [a, b] [] pos2] [] pos) (fun v S => (fa v S).bind fun x S1 => (fb v S1).bind fun y S2 => match x, y with
    | .int i, .int j => if rngOk i j ∧ j - i ≤ 16777216 then .ok (.lst (rngD i j)) S2 else .bad
    | _, _ => .bad) := by
  obtain ⟨rfl, h1, h2, h3, h4⟩ := blt_of hx
  obtain ⟨rfl, g1, g2, g3, g4⟩ := blt_of hy
  refine PE.mono (pe_listRg hc h1 (hb _ h3) (prg_2 g1 (hb _ g3) ha hbb (star_cons hs) (star_cons hs2) (by rw [star_cons hs2]; rfl)) rfl) fun σ H Q ⟨env, S, ρ, B, rel, fin⟩ => Fin.bind down_E rel fin fun d1 S1 v1 H1 ρ1 rel1 e1 p1 fin1 => Fin.bind down_E rel1 fin1 fun d2 S2 v2 H2 ρ2 rel2 e2 p2 fin2 => ?_
  split at fin2
  · cases (p1.rw rel.b0).int
    cases (p2.rw rel1.b0).int
    obtain ⟨⟨⟨b1, b2, b3, b4⟩, b5⟩, fin2⟩ := ok_if fin2
    exact ⟨_, _, rfl, rfl, ⟨b1, b2, b3, b4, by omega⟩, Fin.newL rel2 fin2 (rng_rv _)⟩
  · exact fin2.elim
theorem pd_gcd {x : Str} (hx : x = "gcd") (hg : gloB X.env.scope x = true) (hm : X.mg "gcd" = some (.builtin "math.gcd")) (hs : notStar a = true) (hs2 : notStar b = true) (ha : PDE X ka a fa) (hb : PDE X kb b fb) :
    PDE X k (.Call (.Name x p) [a, b] [] pos) (fun v S => (fa v S).bind fun x S1 => (fb v S1).bind fun y S2 => b2D .gcd x y S2) := by
  subst hx
  obtain ⟨h1, h2⟩ := glo_of hg
  have hA : PA X [a, b] (tCons (tG X.K (wE X.K ka) fa) (tCons (tG X.K (wE X.K kb) fb) tNil)) := pa_cons ha (pa_cons hb pa_nil (star_cons hs2)) (star_cons hs)
  have hn : (backTo pos (starEach [b] X.env)).any (·.1) = false := star_none (es := [b]) (by rw [List.all_cons, hs2]; rfl)
  refine PE.mono (pe_callBfun cr_gcd h1 hm hA h2 (star_cons hs) hn) fun σ H Q ⟨env, S, ρ, B, rel, fin⟩ => Fin.bind down_E rel fin fun d1 S1 v1 H1 ρ1 rel1 e1 p1 fin1 => Fin.bind down_E rel1 fin1 fun d2 S2 v2 H2 ρ2 rel2 e2 p2 fin2 => ?_
  unfold b2D at fin2
  split at fin2
  · contradiction
  · contradiction
  · cases (p1.rw rel.b0).int
    cases (p2.rw rel1.b0).int
    exact ⟨_, _, rfl, flat_int rel2 fin2⟩
  · exact fin2.elim
theorem b1_read (f : B1) {ta : TE} (ha : PE X a ta) {x : Str} (hx : bltB X.env.scope x (b1N f) = true) (hb : ∀ y ∈ bnames, X.mg y = none) (hs : notStar a = true)
    (hsm : SmOk X) (hc : X.calm = true) (hg : X.A.guards = some []) (hu : X.A.units + 70 < cLine) : PE X (.Call (.Name x p) [a] [] pos) (tCB (rB1 X.K f) (tCons ta tNil)) := by
  obtain ⟨rfl, h1, h2, h3, h4⟩ := blt_of hx
  have hr := call_b1 (X := X) hsm hc hg hu f
  have hA : PA X [a] (tCons ta tNil) := pa_cons ha pa_nil (star_cons hs)
  have hst := star_cons (env := X.env) (es := []) hs
  have hn := star_none (env := X.env) (pos := pos) (es := []) rfl
  have hv := boot_b1 f
  cases f with
  | len => exact pe_callB hr h1 (hb _ h3) hv hA h4 h2 hst hn
  | int => exact pe_callTy hr h1 (hb _ h3) hv hA h4 h2 hst hn
  | str => exact pe_callTy hr h1 (hb _ h3) hv hA h4 h2 hst hn
  | repr => exact pe_callB hr h1 (hb _ h3) hv hA h4 h2 hst hn
  | abs => exact pe_callB hr h1 (hb _ h3) hv hA h4 h2 hst hn
  | max => exact pe_callB hr h1 (hb _ h3) hv hA h4 h2 hst hn
  | min => exact pe_callB hr h1 (hb _ h3) hv hA h4 h2 hst hn
  | sum => exact pe_callB hr h1 (hb _ h3) hv hA h4 h2 hst hn
  | sorted => exact pe_callB hr h1 (hb _ h3) hv hA h4 h2 hst hn
  | all => exact pe_callB hr h1 (hb _ h3) hv hA h4 h2 hst hn
  | any => exact pe_callB hr h1 (hb _ h3) hv hA h4 h2 hst hn
  | tup => exact pe_callTy hr h1 (hb _ h3) hv hA h4 h2 hst hn
  | lst => exact pe_callTy hr h1 (hb _ h3) hv hA h4 h2 hst hn
theorem pd_b1 (f : B1) (ha : PDE X ka a fa) {x : Str} (hx : bltB X.env.scope x (b1N f) = true) (hb : ∀ y ∈ bnames, X.mg y = none) (hs : notStar a = true)
    (hsm : SmOk X) (hc : X.calm = true) (hg : X.A.guards = some []) (hu : X.A.units + 70 < cLine) : PDE X k (.Call (.Name x p) [a] [] pos) (fun v S => (fa v S).bind fun x S1 => b1D f x S1) :=
  PE.mono (b1_read f ha hx hb hs hsm hc hg hu) fun σ H Q ⟨env, S, ρ, B, rel, fin⟩ =>
    Fin.bind down_E rel fin fun d1 S1 v1 H1 ρ1 rel1 e1 p1 fin1 => sem_b1 f rel1 (p1.rw rel.b0) fin1
theorem boot_ty : ∀ t : Ty, bootBuiltins (tyN t : Str) = some (.type (tyN t)) := by
  intro t
  cases t <;> decide +kernel
theorem boot_isi : bootBuiltins ("isinstance" : Str) = some (.builtin "isinstance") := by decide +kernel
theorem pd_isa (t : Ty) (ha : PDE X ka a fa) {x y : Str} {q : Pos} (hx : bltB X.env.scope x "isinstance" = true) (hy : bltB X.env.scope y (tyN t) = true) (hb : ∀ y ∈ bnames, X.mg y = none) (hs : notStar a = true) :
    PDE X k (.Call (.Name x p) [a, .Name y q] [] pos) (fun v S => (fa v S).bind fun x S1 => match isaD t x S1 with | some b => .ok (.bl b) S1 | none => .bad) := by
  obtain ⟨rfl, h1, h2, h3, h4⟩ := blt_of hx
  obtain ⟨rfl, g1, g2, g3, g4⟩ := blt_of hy
  have hT : PE X (.Name (tyN t : Str) q) (tC (.ty (tyN t))) := pe_bltn g1 (hb _ g3) (boot_ty t) rfl g4 g2
  have hA : PA X [a, .Name (tyN t : Str) q] (tCons (tG X.K (wE X.K ka) fa) (tCons (tC (.ty (tyN t))) tNil)) := pa_cons ha (pa_cons hT pa_nil (star_cons rfl)) (star_cons hs)
  refine PE.mono (pe_callB (call_isaA (X := X) t) h1 (hb _ h3) boot_isi hA h4 h2 (star_cons hs) (star_none (es := [.Name (tyN t : Str) q]) rfl)) fun σ H Q ⟨env, S, ρ, B, rel, fin⟩ =>
    Fin.bind down_E rel fin fun d1 S1 v1 H1 ρ1 rel1 e1 p1 fin1 => ?_
  split at fin1
  · obtain ⟨n, n1, n2⟩ := isaD_sem rel1 (p1.rw rel.b0) ‹_›
    exact ⟨v1, n, _, rfl, n1, n2, flat_bl rel1 fin1⟩
  · exact fin1.elim
/-! ### subscripts -/
theorem plain_ix {b : Expr} (h : notSlice b = true) : PlainIx b := by
  intro o i
  cases b <;> first | rfl | cases h
theorem pd_ix (hu : X.A.units + 1 < cLine) (hs : notSlice b = true) (ha : PDE X ka a fa) (hb : PDE X kb b fb) : PDE X .val (.Subscript a b pos) (fun v S => (fa v S).bind fun x S1 => (fb v S1).bind fun y S2 => ixD x y S2) :=
  PE.mono (pe_ix (ix_any hu) ha hb (plain_ix hs)) fun σ H Q ⟨env, S, ρ, B, rel, fin⟩ =>
    Fin.bind down_E rel fin fun d1 S1 v1 H1 ρ1 rel1 e1 p1 fin1 => Fin.bind down_E rel1 fin1 fun d2 S2 v2 H2 ρ2 rel2 e2 p2 fin2 =>
      sem_ix rfl rel2 ((p1.rw rel.b0).mono e2) (p2.rw rel1.b0) fin2
theorem pd_sl {lo hi : Option Expr} {p2 : Pos} {fl fh : Env → Store → R (Option Int)} (ha : PDE X ka a fa) (hl : PDO X lo fl) (hh : PDO X hi fh) :
    PDE X k (.Subscript a (.Slice lo hi none p2) pos) (fun v S => (fa v S).bind fun x S1 => (fl v S1).bind fun l S2 => (fh v S2).bind fun h S3 => slD x l h S3) :=
  PE.mono (pe_slice sl_any ha hl hh) fun σ H Q ⟨env, S, ρ, B, rel, fin⟩ =>
    Fin.bind down_E rel fin fun d1 S1 v1 H1 ρ1 rel1 e1 p1 fin1 => Fin.bind down_E rel1 fin1 fun d2 S2 v2 H2 ρ2 rel2 e2 p2 fin2 => Fin.bind down_E rel2 fin2 fun d3 S3 v3 H3 ρ3 rel3 e3 p3 fin3 => by
      cases p2
      cases p3
      exact sem_sl _ _ rel3 (((p1.rw rel.b0).mono e2).mono e3) fin3
end
end IL
/-! IN: calls of the text's own defs. -/
namespace IL
open PySem PySem.Spec PyProof.Rows L2

/-- what a def does, over plain data -/
def FnD (P : Program) (w : World) (K : Frag) (mg : Str → Option Value) (base : Heap) (k : Nat) (f : Addr) (fd : FuncData) (ps : List Str) (c : List D → Store → R D) : Prop :=
  ∀ (A : Around) (outer : List PySem.Env) (s : Shared) (H : Hp) (args : Args) (us : List Value) (vs : List V) (ds : List D) (S : Store) (ρ : List Addr) (B : Bd) (Q : VK),
    A.guards = some [] → Room k A → Env0 P w K mg base A outer s H → BindsTo s fd args (ps.zip us) → Vals vs us → ds.length = ps.length → RVs K H ρ B ds vs → RS K H ρ B S → ρ.Nodup →
    (∀ a, B a → H a ≠ none ∧ a ∉ ρ) → Fin K B ρ H (wE K .val) (c ds S) Q → codeAny (model P w) A (.call (.ref f) args) (CR CX0 outer P w H s Q E0) s
/-- how keywords bind -/
def KwOk (K : Frag) (fd : FuncData) (ps : List Str) (m : Nat) (ks : List Str) (perm : List Nat) : Prop :=
  ∀ (s : Shared) (us ws : List Value), K.In s.heap → us.length = m → ws.length = ks.length → (permL perm (us ++ ws)).length = ps.length → BindsTo s fd ⟨us, ks.zip ws⟩ (ps.zip (permL perm (us ++ ws)))
abbrev KwT := List (Str × Nat × List Str × List Nat)
def gcdW : Str × Nat × List Str × List Nat := ("math.gcd", 0, [], [])
/-- what is known where a text's expression stands -/
structure Ctx (X : Cx) (G : Str → Option D) (W : KwT) (T : Str → Option Fn) (cal : Cal) (n : Nat) : Prop where
  nd : X.N.Nodup
  kind : X.env.scope.kind = .function
  calm : X.calm = true
  gd : X.A.guards = some []
  room : Room n X.A
  bl : ∀ x ∈ bnames, X.mg x = none
  sm : SmOk X
  gcd : gcdW ∈ W → X.mg "gcd" = some (.builtin "math.gcd")
  glo : ∀ x d, G x = some d → GloOk X.K X.mg x d
  none : ∀ f args S, T f = none → cal f args S = .bad
  len : ∀ f d args S, T f = some d → args.length ≠ d.np → cal f args S = .bad
  fn : ∀ f d, T f = some d → ∃ (a : Addr) (fd : FuncData) (ps : List Str), X.mg f = some (.ref a) ∧ PySem.W.keepIn X.K (.ref a) = true ∧ ps.length = d.np ∧ Binds X.K fd ps [] ∧
    (∀ m ks perm, (f, m, ks, perm) ∈ W → KwOk X.K fd ps m ks perm) ∧ FnD X.prog X.w X.K X.mg X.base n a fd ps (cal f)
theorem Ctx.un {X : Cx} {G : Str → Option D} {W : KwT} {T : Str → Option Fn} {cal : Cal} {n : Nat} (c : Ctx X G W T cal n) : X.A.units + 200 < cLine := by
  have := c.room.un
  omega
section
variable {X : Cx} {G : Str → Option D} {W : KwT} {T : Str → Option Fn} {cal : Cal} {n : Nat} {fs : Env → Store → R (List D)} {es : List Expr} {p pos : Pos}
theorem Vals.permL {vs : List V} {us : List Value} (r : Vals vs us) : ∀ perm : List Nat, Vals (permL perm vs) (IL.permL perm us)
  | [] => .nil
  | i :: perm => by
    unfold IL.permL
    rw [List.filterMap_cons, List.filterMap_cons]
    cases h : vs[i]? with
    | none => rw [r.none_of h]; exact Vals.permL r perm
    | some v =>
      obtain ⟨u, hu, rv⟩ := r.get h
      rw [hu]
      exact .cons rv (Vals.permL r perm)
theorem RVs.permL {K : Frag} {H : Hp} {ρ : List Addr} {B : Bd} {ds : List D} {vs : List V} (r : RVs K H ρ B ds vs) : ∀ perm : List Nat, RVs K H ρ B (IL.permL perm ds) (IL.permL perm vs)
  | [] => .nil
  | i :: perm => by
    unfold IL.permL
    rw [List.filterMap_cons, List.filterMap_cons]
    cases h : ds[i]? with
    | none =>
      have : vs[i]? = none := by
        rw [List.getElem?_eq_none_iff] at h ⊢
        rw [← r.length]; exact h
      rw [this]; exact RVs.permL r perm
    | some d =>
      obtain ⟨v, hv, rv⟩ := r.get h
      rw [hv]
      exact .cons rv (RVs.permL r perm)
/-- the callee runs, its values bound -/
theorem run_d {pins : List (Addr × Obj)} {env : Env} {S : Store} {ρ : List Addr} {B : Bd} {σ : L2.St} {H : Hp} {s : Shared} {Q : VK} {args : Args} {us : List Value} {vs : List V} {ds : List D} {a : Addr} {fd : FuncData} {ps : List Str} {c : List D → Store → R D}
    (F : FnD X.prog X.w X.K X.mg X.base n a fd ps c) (hg : X.A.guards = some []) (hr : Room n X.A) (J : Inv X pins σ H s) (hb : BindsTo s fd args (ps.zip us)) (r : Vals vs us) (hl : ds.length = ps.length) (rel : Rel X.K env S ρ B σ H)
    (rd : RVs X.K H ρ B ds vs) (fin : Fin X.K B ρ H (wE X.K .val) (c ds S) Q) : wpAny (model X.prog X.w) X.A (call (.ref a) args.pos args.kw) (EP X pins σ Q) X.xe s := by
  have h := F X.A X.stack s H args us vs ds S ρ B Q hg hr J.env0 hb r hl rd rel.rs rel.nd rel.bt fin
  refine wpAny_call (codeAny_mono h fun q s' hq => ?_)
  cases q with
  | error e => exact False.elim hq
  | ok fl => cases fl <;> first | exact J.after hq | exact False.elim hq
theorem pd_call (c : Ctx X G W T cal n) {f x : Str} {e : Expr} (hx : x = f) (hgl : gloB X.env.scope x = true) (hst : notStar e = true) (hss : es.all notStar = true) (ha : PDA X (e :: es) fs) :
    PDE X .val (.Call (.Name x p) (e :: es) [] pos) (fun v S => (fs v S).bind fun xs S1 => cal f xs S1) := by
  subst hx
  obtain ⟨g1, g2⟩ := glo_of hgl
  cases hT : T x with
  | none =>
    refine ⟨fun pins s σ H Q J h => ?_⟩
    obtain ⟨env, S, ρ, B, rel, fin⟩ := h
    obtain ⟨xs, S1, _, fin1⟩ := Fin.okB fin
    rw [c.none _ _ _ hT] at fin1
    exact fin1.elim
  | some d =>
    obtain ⟨a, fd, ps, hm, hk, hl, hb, _, F⟩ := c.fn x d hT
    refine ⟨fun pins s σ H Q J h => ?_⟩
    obtain ⟨env, S, ρ, B, rel, fin⟩ := h
    obtain ⟨xs, S1, hxs, fin1⟩ := Fin.okB fin
    have hlen : xs.length = d.np := Classical.byContradiction fun q => by
      rw [c.len _ _ _ _ hT q] at fin1
      exact fin1
    have rd : tG X.K (wA X.K) fs σ H (fun vs H1 => ∃ ρ1, Rel X.K env S1 ρ1 B σ H1 ∧ RVs X.K H1 ρ1 B xs vs ∧ Fin X.K B ρ1 H1 (wE X.K .val) (cal x xs S1) Q) :=
      tG_case rel hxs fun vs H1 ρ1 e1 rel1 p1 => ⟨ρ1, rel1, p1, Fin.step down_E e1 fin1⟩
    refine wpAny_Call_Name_kw (ld_glob J g1 hm ?_ g2)
    have fin2 := ha.run pos pins s σ H _ J rd
    refine PySem.W.callWith_K (h₀ := X.base) J.ok.mod.kin hk (thn fin2 ?_) (star_cons hst) (star_none hss)
    intro us s1 ⟨vs, H1, J1, r, ρ1, rel1, r1, fin3⟩
    refine ⟨J1.kIn, ?_⟩
    have hl2 : xs.length = ps.length := hlen.trans hl.symm
    have hz : us.length = ps.length := by rw [← r.length, ← r1.length]; exact hl2
    have hb2 := hb s1 us J1.kIn (by rw [List.append_nil]; exact hz)
    rw [List.append_nil] at hb2
    exact run_d (args := ⟨us, []⟩) F c.gd c.room J1 hb2 r hl2 rel1 r1 fin3
/-! ### keywords -/
abbrev PDK (X : Cx) (kws : List Keyword) (f : Env → Store → R (List D)) : Prop := PK X kws (tG X.K (wA X.K) f)
theorem PK.mono {X : Cx} {e : List Keyword} {t t' : TA} (h : PK X e t) (m : ∀ σ H Q, t' σ H Q → t σ H Q) : PK X e t' := ⟨fun pos pins s σ H Q I q => h.run pos pins s σ H Q I (m σ H Q q)⟩
theorem kw_nil : PDK X [] (fun _ S => .ok [] S) := PK.mono pk_nil fun σ H Q ⟨env, S, ρ, B, rel, fin⟩ => Fin.here rel fin .nil
theorem kw_cons {e : Expr} {nm : Option Str} {kp : Pos} {kws : List Keyword} {f : Env → Store → R D} (he : PDE X .val e f) (hr : PDK X kws fs) : PDK X (⟨nm, e, kp⟩ :: kws) (fun v S => (f v S).bind fun x S1 => (fs v S1).bind fun xs S2 => .ok (x :: xs) S2) :=
  PK.mono (pk_cons he hr) fun σ H Q ⟨env, S, ρ, B, rel, fin⟩ =>
    Fin.bind down_A rel fin fun d1 S1 v1 H1 ρ1 rel1 e1 p1 fin1 => Fin.bind down_A rel1 fin1 fun d2 S2 v2 H2 ρ2 rel2 e2 p2 fin2 =>
      Fin.here rel2 fin2 (.cons (RV.mono e2 p1) p2)
theorem kw_all {env : PySem.Env} {pos : Pos} : ∀ {kws : List Keyword} {ks : List Str}, kws.map (·.arg) = ks.map some →
    (backToKw pos (keywordEach kws env)).all (·.1.isSome) = true ∧ (backToKw pos (keywordEach kws env)).filterMap (·.1) = ks ∧ (backToKw pos (keywordEach kws env)).any (·.1.isNone) = false
  | [], [], _ => ⟨rfl, rfl, rfl⟩
  | [], _ :: _, h => by cases h
  | _ :: _, [], h => by cases h
  | ⟨nm, v, q⟩ :: kws, k :: ks, h => by
    rw [List.map_cons, List.map_cons] at h
    injection h with h1 h2
    have h1 : nm = some k := h1
    subst h1
    obtain ⟨i1, i2, i3⟩ := kw_all (env := env) (pos := pos) h2
    refine ⟨i1, ?_, i3⟩
    show k :: (backToKw pos (keywordEach kws env)).filterMap (·.1) = k :: ks
    rw [i2]
theorem cak_last (c : Ctx X G W T cal n) {f : Str} {d : Fn} {a : Addr} {fd : FuncData} {ps ks : List Str} {perm : List Nat} {m : Nat} {pins : List (Addr × Obj)} {env : Env} {S2 : Store} {B : Bd} {σ : L2.St} {Q : VK} {xs ys : List D}
    (hT : T f = some d) (hl : ps.length = d.np) (hkw : KwOk X.K fd ps m ks perm) (F : FnD X.prog X.w X.K X.mg X.base n a fd ps (cal f)) (hx : xs.length = m) (hy : ys.length = ks.length)
    {us : List Value} {vs : List V} {ws : List Value} {zs : List V} {s2 : Shared} {H2 : Hp} {ρ2 : List Addr} (J2 : Inv X pins σ H2 s2) (r : Vals vs us) (rz : Vals zs ws) (r1 : RVs X.K H2 ρ2 B xs vs)
    (rel2 : Rel X.K env S2 ρ2 B σ H2) (r2 : RVs X.K H2 ρ2 B ys zs) (fin3 : Fin X.K B ρ2 H2 (wE X.K .val) (cal f (permD perm (xs ++ ys)) S2) Q) :
    wpAny (model X.prog X.w) X.A (call (.ref a) us (ks.zip ws)) (EP X pins σ Q) X.xe s2 := by
  have hlen : (permD perm (xs ++ ys)).length = d.np := Classical.byContradiction fun q => by
    rw [c.len _ _ _ _ hT q] at fin3
    exact fin3
  have hl2 : (permL perm (xs ++ ys)).length = ps.length := hlen.trans hl.symm
  have rr := r1.append r2
  have rv : Vals (vs ++ zs) (us ++ ws) := r.append rz
  have q1 : us.length = m := by rw [← r.length, ← r1.length]; exact hx
  have q2 : ws.length = ks.length := by rw [← rz.length, ← r2.length]; exact hy
  have h5 : (permL perm (us ++ ws)).length = ps.length := by
    rw [← (Vals.permL rv perm).length, ← (RVs.permL rr perm).length]
    exact hl2
  exact run_d (args := ⟨us, ks.zip ws⟩) F c.gd c.room J2 (hkw s2 us ws J2.kIn q1 q2 h5) (Vals.permL rv perm) hl2 rel2 (RVs.permL rr perm) fin3
theorem pd_cak (c : Ctx X G W T cal n) {f x : Str} {e : Expr} {ks : List Str} {kws : List Keyword} {perm : List Nat} {m : Nat} {fk : Env → Store → R (List D)} (hx : x = f) (hgl : gloB X.env.scope x = true) (hst : notStar e = true) (hss : es.all notStar = true)
    (hks : kws.map (·.arg) = ks.map some) (hW : (f, m, ks, perm) ∈ W) (ha : PDA X (e :: es) fs) (hk : PDK X kws fk) :
    PDE X .val (.Call (.Name x p) (e :: es) kws pos) (fun v S => (fs v S).bind fun xs S1 => (fk v S1).bind fun ys S2 => if xs.length = m ∧ ys.length = ks.length then cal f (permD perm (xs ++ ys)) S2 else .bad) := by
  subst hx
  obtain ⟨g1, g2⟩ := glo_of hgl
  obtain ⟨k1, k2, k3⟩ := kw_all (env := X.env) (pos := pos) hks
  refine ⟨fun pins s σ H Q J h => ?_⟩
  obtain ⟨env, S, ρ, B, rel, fin⟩ := h
  obtain ⟨xs, S1, hxs, fin1⟩ := Fin.okB fin
  obtain ⟨ys, S2, hys, fin2⟩ := Fin.okB fin1
  obtain ⟨⟨hl1, hl2⟩, fin2⟩ := ok_if fin2
  cases hT : T x with
  | none =>
    rw [c.none _ _ _ hT] at fin2
    exact fin2.elim
  | some d =>
    obtain ⟨a, fd, ps, hmg, hke, hl, _, hkw, F⟩ := c.fn x d hT
    have rd : tG X.K (wA X.K) fs σ H (fun vs H1 => ∃ ρ1, Ext X.K ρ H ρ1 H1 ∧ Rel X.K env S1 ρ1 B σ H1 ∧ RVs X.K H1 ρ1 B xs vs) :=
      tG_case rel hxs fun vs H1 ρ1 e1 rel1 p1 => ⟨ρ1, e1, rel1, p1⟩
    have rk : ∀ {H1 : Hp} {ρ1 : List Addr}, Ext X.K ρ H ρ1 H1 → Rel X.K env S1 ρ1 B σ H1 → tG X.K (wA X.K) fk σ H1 (fun zs H2 => ∃ ρ2, Ext X.K ρ1 H1 ρ2 H2 ∧ Rel X.K env S2 ρ2 B σ H2 ∧ RVs X.K H2 ρ2 B ys zs ∧ Fin X.K B ρ2 H2 (wE X.K .val) (cal x (permD perm (xs ++ ys)) S2) Q) :=
      fun e1 rel1 => tG_case rel1 hys fun zs H2 ρ2 e2 rel2 p2 => ⟨ρ2, e2, rel2, p2, Fin.step down_E (e1.trans e2) fin2⟩
    refine wpAny_Call_Name_kw (ld_glob J g1 hmg ?_ g2)
    have fin3 := ha.run pos pins s σ H _ J rd
    have hpl : ((backTo pos (starEach (e :: es) X.env)).any (·.1) || (backToKw pos (keywordEach kws X.env)).any (·.1.isNone)) = false := by
      rw [k3, star_none (es := e :: es) (by rw [List.all_cons, hst, hss]; rfl)]
      rfl
    refine PySem.W.callWith_KW (h₀ := X.base) J.ok.mod.kin hke k1 (thn fin3 ?_) hpl (star_cons hst)
    intro us s1 ⟨vs, H1, J1, r, ρ1, e1, rel1, r1⟩
    refine thn (hk.run pos pins s1 σ H1 _ J1 (rk e1 rel1)) ?_
    intro ws s2 ⟨zs, H2, J2, rz, ρ2, e2, rel2, r2, fin4⟩
    refine ⟨J2.kIn, ?_⟩
    rw [k2]
    exact cak_last c hT hl (hkw _ _ _ hW) F hl1 hl2 J2 r rz (r1.mono e2) rel2 r2 fin4
theorem pd_cak0 (c : Ctx X G W T cal n) {f x : Str} {ks : List Str} {kws : List Keyword} {perm : List Nat} {fk : Env → Store → R (List D)} (hx : x = f) (hgl : gloB X.env.scope x = true)
    (hks : kws.map (·.arg) = ks.map some) (hW : (f, 0, ks, perm) ∈ W) (hk : PDK X kws fk) :
    PDE X .val (.Call (.Name x p) [] kws pos) (fun v S => (fk v S).bind fun ys S2 => if ([] : List D).length = 0 ∧ ys.length = ks.length then cal f (permD perm ([] ++ ys)) S2 else .bad) := by
  subst hx
  obtain ⟨g1, g2⟩ := glo_of hgl
  obtain ⟨k1, k2, k3⟩ := kw_all (env := X.env) (pos := pos) hks
  refine ⟨fun pins s σ H Q J h => ?_⟩
  obtain ⟨env, S, ρ, B, rel, fin⟩ := h
  obtain ⟨ys, S2, hys, fin2⟩ := Fin.okB fin
  obtain ⟨⟨hl1, hl2⟩, fin2⟩ := ok_if fin2
  cases hT : T x with
  | none =>
    rw [c.none _ _ _ hT] at fin2
    exact fin2.elim
  | some d =>
    obtain ⟨a, fd, ps, hmg, hke, hl, _, hkw, F⟩ := c.fn x d hT
    have rk : tG X.K (wA X.K) fk σ H (fun zs H2 => ∃ ρ2, Rel X.K env S2 ρ2 B σ H2 ∧ RVs X.K H2 ρ2 B ys zs ∧ Fin X.K B ρ2 H2 (wE X.K .val) (cal x (permD perm ([] ++ ys)) S2) Q) :=
      tG_case rel hys fun zs H2 ρ2 e2 rel2 p2 => ⟨ρ2, rel2, p2, Fin.step down_E e2 fin2⟩
    refine wpAny_Call_Name_kw (ld_glob J g1 hmg ?_ g2)
    refine PySem.W.callWith_KW0 (h₀ := X.base) J.ok.mod.kin hke k1 (thn (hk.run pos pins s σ H _ J rk) ?_) (by rw [k3]; rfl)
    intro ws s2 ⟨zs, H2, J2, rz, ρ2, rel2, r2, fin4⟩
    refine ⟨J2.kIn, ?_⟩
    rw [k2]
    exact cak_last c hT hl (hkw _ _ _ hW) F hl1 hl2 (us := []) (vs := []) J2 .nil rz .nil rel2 r2 fin4
end
end IL
/-! IP: dicts as cells, methods of cells. -/
namespace IL
open PySem PySem.Spec PyProof.Rows L2
section
variable {X : Cx} {K : Frag} {env : Env} {S : Store} {ρ : List Addr} {B : Bd} {σ : L2.St} {H : Hp} {Q : V → Hp → Prop} {k ka kb kc : Kd} {fa fb fc : Env → Store → R D} {fs : Env → Store → R (List D)} {a b : Expr} {pos p apos cpos : Pos}

/-! ### a new object becomes a cell -/
theorem Ext.grow {ρ1 : List Addr} {H1 : Hp} {q : Addr} (e : Ext K ρ H ρ1 H1) (h0 : H q = none) : Ext K ρ H (ρ1 ++ [q]) H1 :=
  ⟨fun n b r => by rw [List.getElem?_append_left (List.getElem?_eq_some_iff.mp (e.pre n b r)).1]; exact e.pre n b r, fun b r => List.mem_append_left _ (e.sub b r), e.keep, e.tup,
    fun b r r' => (List.mem_append.mp r).elim (fun r => e.new b r r') fun r => by rw [List.mem_singleton.mp r]; exact h0⟩
theorem nodup_snoc {ρ : List Addr} {q : Addr} (nd : ρ.Nodup) (hn : q ∉ ρ) : (ρ ++ [q]).Nodup := by
  rw [List.nodup_append]
  exact ⟨nd, by simp, fun b hb c hc r => hn (by rw [← List.mem_singleton.mp hc, ← r]; exact hb)⟩
theorem CellOk.grow {q : Addr} {c : Cell} {o : HO} (h : CellOk K H ρ (fun b => B b ∨ b = q) c o) : CellOk K H (ρ ++ [q]) B c o := by
  cases h with
  | lst r => exact .lst r.grow
  | ro r => exact .ro r.grow
  | dic r => exact .dic r.grow
theorem RS.snoc {q : Addr} {c : Cell} {o : HO} (rs : RS K H ρ (fun b => B b ∨ b = q) S) (hq : H q = some o) (hc : CellOk K H ρ (fun b => B b ∨ b = q) c o) : RS K H (ρ ++ [q]) B (S ++ [c]) := by
  have hl := rs.1
  refine ⟨by rw [List.length_append, List.length_append, hl]; rfl, fun n c' r => ?_⟩
  by_cases hlt : n < S.length
  · rw [List.getElem?_append_left hlt] at r
    obtain ⟨b, o', q1, q2, q3⟩ := rs.2 n c' r
    exact ⟨b, o', by rw [List.getElem?_append_left (by rw [hl]; exact hlt)]; exact q1, q2, q3.grow⟩
  · have hge : S.length ≤ n := Nat.le_of_not_lt hlt
    rw [List.getElem?_append_right hge] at r
    have hz : n - S.length = 0 := by
      cases hq : n - S.length with
      | zero => rfl
      | succ m => rw [hq] at r; simp at r
    rw [hz] at r
    simp only [List.getElem?_cons_zero, Option.some.injEq] at r
    subst r
    refine ⟨q, o, ?_, hq, hc.grow⟩
    rw [List.getElem?_append_right (by rw [hl]; exact hge), hl, hz]
    rfl
/-! ### {k: v, ..} with written texts as keys -/
def PDP (X : Cx) (pos : Pos) (keys : List (Option Expr)) (values : List Expr) (ks : List Str) (fs : Env → Store → R (List D)) : Prop :=
  ∃ trs, PPs X pos keys values trs ∧ ∀ σ H T, tG X.K (wA X.K) fs σ H (fun vs H1 => T (List.zipWith (fun k v => (V.str k, v)) ks vs) H1) → tPairs trs σ H T
theorem pdp_nil : PDP X pos [] [] [] (fun _ S => .ok [] S) := ⟨[], pps_nil, fun σ H T ⟨env, S, ρ, B, rel, fin⟩ => Fin.here (b := ([] : List V)) rel fin RVs.nil⟩
theorem pdp_cons {k : Str} {j : Nat} {keys : List (Option Expr)} {values : List Expr} {ks : List Str} (ha : PDE X .val a fa) (hr : PDP X pos keys values ks fs) :
    PDP X pos (some (.Constant (.str k) j p) :: keys) (a :: values) (k :: ks) (fun v S => (fa v S).bind fun x S1 => (fs v S1).bind fun xs S2 => .ok (x :: xs) S2) := by
  obtain ⟨trs, h1, h2⟩ := hr
  refine ⟨(tC (.str k), tG X.K (wE X.K .val) fa) :: trs, pps_cons pe_str ha h1, fun σ H T ⟨env, S, ρ, B, rel, fin⟩ => ?_⟩
  refine Fin.bind down_A rel fin fun d1 S1 v1 H1 ρ1 rel1 e1 p1 fin1 => h2 _ _ _ ?_
  refine Fin.bind down_A rel1 fin1 fun d2 S2 v2 H2 ρ2 rel2 e2 p2 fin2 => ?_
  exact Fin.here (b := v1 :: v2) rel2 fin2 (RVs.cons (RV.mono e2 p1) p2)
theorem keys_zip : ∀ {ks : List Str} {xs : List D}, ks.length = xs.length → (List.zipWith (fun (k : Str) (d : D) => ((Sum.inr k : Key), d)) ks xs).map (·.1) = ks.map Sum.inr ∧ (List.zipWith (fun (k : Str) (d : D) => ((Sum.inr k : Key), d)) ks xs).map (·.2) = xs
  | [], [], _ => ⟨rfl, rfl⟩
  | k :: ks, x :: xs, h => by
    obtain ⟨h1, h2⟩ := keys_zip (ks := ks) (xs := xs) (by simpa using h)
    exact ⟨by rw [List.zipWith_cons_cons, List.map_cons, h1]; rfl, by rw [List.zipWith_cons_cons, List.map_cons, h2]⟩
theorem merge_new : ∀ (ks : List Str) (vs : List V) (acc : List (Key × V)), ks.Nodup → (∀ k ∈ ks, valV acc (Sum.inr k) = none) → mergeK acc ((ks.map Sum.inr).zip vs) = acc ++ (ks.map Sum.inr).zip vs
  | [], _, acc, _, _ => by simp [mergeK]
  | _ :: _, [], acc, _, _ => by simp [mergeK]
  | k :: ks, v :: vs, acc, nd, h => by
    rw [List.map_cons, List.zip_cons_cons]
    have e : mergeK acc ((Sum.inr k, v) :: (ks.map Sum.inr).zip vs) = mergeK (putK acc (Sum.inr k) v) ((ks.map Sum.inr).zip vs) := rfl
    rw [e, putK_new v (h k List.mem_cons_self), merge_new ks vs _ (List.nodup_cons.mp nd).2 ?_, List.append_assoc]
    · rfl
    · intro j hj
      rw [valV_snoc _ _ _ _ (h k List.mem_cons_self), if_neg, h j (List.mem_cons_of_mem _ hj)]
      intro q
      have := Sum.inr.inj q
      subst this
      exact (List.nodup_cons.mp nd).1 hj
theorem pd_dic {keys : List (Option Expr)} {values : List Expr} {ks : List Str} (hP : PDP X pos keys values ks fs) (hall : keys.all (·.isSome) = true) (hl : keys.length = values.length) (h0 : keys ≠ []) (h15 : keys.length ≤ 15) :
    PDE X .val (.Dict keys values pos) (fun v S => (fs v S).bind fun xs S1 => if ks.length = xs.length ∧ ks.Nodup ∧ ks.length ≤ 15 then .ok (.ref S1.length) (S1 ++ [.dic (ks.zipWith (fun (k : Str) (d : D) => ((Sum.inr k : Key), d)) xs)]) else .bad) := by
  obtain ⟨trs, h1, h2⟩ := hP
  refine PE.mono (pe_disp h1 hall hl h0 h15) fun σ H Q ⟨env, S, ρ, B, rel, fin⟩ => fun q hq => h2 _ _ _ ?_
  obtain ⟨xs, S1, hxs, fin1⟩ := Fin.okB fin
  obtain ⟨⟨c1, c2, c3⟩, fin1⟩ := ok_if fin1
  have hqr : q ∉ ρ := fun z => rel.trk q z hq
  have rel' : Rel X.K env S ρ (fun b => B b ∨ b = q) σ (upd H q (.dK [])) := by
    refine ⟨fun i s hs => ?_, RS.new hq rel.rs, rel.nd, fun b hb => ?_, rel.len⟩
    · have := (rel.eo i s hs)
      generalize σ[i]? = o at this
      cases this with
      | no => exact .no
      | val r => exact .val ((r.more (B' := fun b => B b ∨ b = q) fun b u h e => h.elim _root_.id fun r => by subst r; rw [hq] at e; cases e).mono (Ext.upd_new hq rel.trk))
      | own g r b => exact .own (by rw [upd_ne (ne_of_none g hq)]; exact g) (r.new hq rel.trk) (.inl b)
    · rcases hb with hb | rfl
      · obtain ⟨b1, b2⟩ := rel.bt b hb
        exact ⟨by rw [upd_ne (fun z => b1 (by rw [z]; exact hq))]; exact b1, b2⟩
      · exact ⟨by rw [upd_same]; exact fun z => (by cases z), hqr⟩
  refine tG_case rel' hxs fun vs H1 ρ1 e1 rel1 p1 => ?_
  have hq1 : H1 q = some (.dK []) := e1.keep q _ upd_same hqr
  have hq2 : q ∉ ρ1 := (rel1.bt q (.inr rfl)).2
  have hlv : ks.length = vs.length := by rw [← RVs.length p1]; exact c1
  refine ⟨hq1, (ks.map Sum.inr).zip vs, ?_, ?_, ?_⟩
  · have : ∀ (ks : List Str) (vs : List V), List.zipWith (fun k v => (V.str k, v)) ks vs = ((ks.map (Sum.inr : Str → Key)).zip vs).map fun kv => (kV kv.1, kv.2) := by
      intro ks
      induction ks with
      | nil => intro vs; rfl
      | cons k ks ih =>
        intro vs
        cases vs with
        | nil => rfl
        | cons v vs => rw [List.zipWith_cons_cons, ih, List.map_cons, List.zip_cons_cons, List.map_cons]; rfl
    exact this ks vs
  · rw [List.length_zip, List.length_map]
    exact Nat.le_trans (Nat.min_le_left _ _) c3
  · rw [merge_new ks vs [] c2 (fun _ _ => valV_nil), List.nil_append]
    have up : RVs X.K (upd H1 q (.dK ((ks.map Sum.inr).zip vs))) ρ1 (fun b => B b ∨ b = q) xs vs := p1.upd (.inr (.inr rfl)) hq1 wr_dK
    have rs1 : RS X.K (upd H1 q (.dK ((ks.map Sum.inr).zip vs))) ρ1 (fun b => B b ∨ b = q) S1 := RS.updB hq2 (.inr rfl) hq1 wr_dK rel1.rs
    obtain ⟨z1, z2⟩ := keys_zip c1
    have ext : Ext X.K ρ H ρ1 (upd H1 q (.dK ((ks.map Sum.inr).zip vs))) := by
      refine ⟨e1.pre, e1.sub, fun b o hb hn => ?_, fun b ws hb => ?_, fun b hb hn => ?_⟩
      · rw [upd_ne (ne_of_none hb hq)]
        exact e1.keep b o (by rw [upd_ne (ne_of_none hb hq)]; exact hb) hn
      · exact sqT_upd (e1.tup b ws (sqT_new hb hq)) hq1 wr_dK.1 wr_dK.2
      · have := e1.new b hb hn
        by_cases hz : b = q
        · rw [hz]; exact hq
        · rw [upd_ne hz] at this; exact this
    refine fin1 (.ref q) _ (ρ1 ++ [q]) (Ext.grow ext hq) (nodup_snoc rel1.nd hq2) (RS.snoc rs1 upd_same ?_) (.ref ?_)
    · have := CellOk.dic (K := X.K) (H := upd H1 q (.dK ((ks.map Sum.inr).zip vs))) (ρ := ρ1) (B := fun b => B b ∨ b = q) (kvs := List.zipWith (fun (k : Str) (d : D) => ((Sum.inr k : Key), d)) ks xs) (vs := vs) (by rw [z2]; exact up)
      rw [z1] at this
      exact this
    · have hl : ρ1.length = S1.length := rel1.rs.1
      rw [List.getElem?_append_right (by rw [hl]; exact Nat.le_refl _), hl, Nat.sub_self]
      rfl
/-! ### methods of a list that is a cell -/
theorem Fin.set {n : Nat} {q : Addr} {ys : List D} {vs ws : List V} {d : D} {v : V} (rel : Rel K env S ρ B σ H) (hn : ρ[n]? = some q) (hq : H q = some (.lst vs)) (r : RVs K H ρ B ys ws) (rv : RV K H ρ B d v)
    (fin : Fin K B ρ H (wE K .val) (.ok d (S.set n (.lst ys))) Q) : Q v (upd H q (.lst ws)) := by
  have hm : q ∈ ρ := List.mem_of_getElem? hn
  exact fin v _ ρ (Ext.upd_cell hm hq wr_lst) rel.nd (RS.set rel.nd hn hq wr_lst (.lst (r.upd (.inl hm) hq wr_lst)) rel.rs) (RV.upd (.inl hm) hq wr_lst rv)
theorem set_open {n : Nat} {q : Addr} {g : List D → Option (D × List D)} (rel : Rel K env S ρ B σ H) (hn : ρ[n]? = some q) (fin : Fin K B ρ H (wE K .val) (setCell n S g) Q) :
    ∃ xs vs d ys, S[n]? = some (.lst xs) ∧ H q = some (.lst vs) ∧ RVs K H ρ B xs vs ∧ g xs = some (d, ys) ∧ ys.length ≤ sizeLine ∧ Fin K B ρ H (wE K .val) (.ok d (S.set n (.lst ys))) Q := by
  unfold setCell at fin
  split at fin
  · rename_i xs hS
    obtain ⟨vs, h1, h2⟩ := cell_lst rel.rs hn hS
    split at fin
    · rename_i d ys hg
      obtain ⟨h3, fin⟩ := ok_if fin
      exact ⟨xs, vs, d, ys, hS, h1, h2, hg, h3, fin⟩
    · exact fin.elim
  · exact fin.elim
def notCall : Expr → Bool
  | .Call .. => false
  | _ => true
theorem base_ok {o : Expr} {m : Str} {env : PySem.Env} {w : Sem Value} (h : notCall o = true) : attributeBase o m env w = w := by
  cases o <;> first | rfl | cases h
theorem few1 {e : Expr} {env : PySem.Env} (h : notStar e = true) : ((backTo cpos (starEach (e :: []) env)).all (fun x => !x.1) && (backToKw cpos (keywordEach [] env)).all (fun x => x.1.isSome)
      && decide ((e :: ([] : List Expr)).length + ([] : List Keyword).length + (if ([] : List Keyword).isEmpty then 0 else 1) < 30)) = true := by
  rw [star_cons h]; rfl
theorem few2 {e f : Expr} {env : PySem.Env} (h : notStar e = true) (h2 : notStar f = true) : ((backTo cpos (starEach (e :: [f]) env)).all (fun x => !x.1) && (backToKw cpos (keywordEach [] env)).all (fun x => x.1.isSome)
      && decide ((e :: [f]).length + ([] : List Keyword).length + (if ([] : List Keyword).isEmpty then 0 else 1) < 30)) = true := by
  rw [star_cons h, star_cons h2]; rfl
theorem pd_pop (hn : notCall a = true) (hline : (apos.endLine == cpos.line) = true) (ha : PDE X ka a fa) :
    PDE X .val (.Call (.Attribute a "pop" apos) [] [] cpos) (fun v S => (fa v S).bind fun x S1 => match x with | .ref n => setCell n S1 fun xs => (xs[xs.length - 1]?).map fun d => (d, xs.dropLast) | _ => .bad) :=
  PE.mono (pe_bm0 PySem.F.plainAttrs_list PySem.F.slot_list_pop PySem.F.type_list_pop mt_pop ha (base_ok hn) hline) fun σ H Q ⟨env, S, ρ, B, rel, fin⟩ =>
    Fin.bind down_E rel fin fun d1 S1 v1 H1 ρ1 rel1 e1 p1 fin1 => by
      split at fin1
      · obtain ⟨q, rfl, hq⟩ := (p1.rw rel.b0).ref
        obtain ⟨xs, vs, d, ys, h1, h2, h3, h4, h5, fin2⟩ := set_open rel1 hq fin1
        cases hx : xs[xs.length - 1]? with
        | none => rw [hx] at h4; cases h4
        | some d' =>
          rw [hx] at h4
          cases h4
          obtain ⟨v, hv, rv⟩ := h3.get hx
          rw [h3.length] at hv
          exact ⟨.inl ⟨rfl, _, SqL.of h2⟩, q, vs, v, rfl, rfl, h2, hv, Fin.set rel1 hq h2 h3.dropLast rv fin2⟩
      · exact fin1.elim
theorem isLst_at {d : D} {v : V} (rel : Rel K env S ρ B σ H) (r : RW K H ρ B d v) (h : isLst d S = true) : ∃ n q vs xs, d = .ref n ∧ v = .ref q ∧ ρ[n]? = some q ∧ H q = some (.lst vs) ∧ RVs K H ρ B xs vs ∧ S[n]? = some (.lst xs) := by
  unfold isLst at h
  split at h
  · rename_i n
    split at h
    · rename_i xs hS
      obtain ⟨q, rfl, hq⟩ := r.ref
      obtain ⟨vs, h1, h2⟩ := cell_lst rel.rs hq hS
      exact ⟨n, q, vs, xs, rfl, rfl, hq, h1, h2, hS⟩
    · cases h
  · cases h
theorem pd_popi (hn : notCall a = true) (hs : notStar b = true) (hline : (apos.endLine == cpos.line) = true) (ha : PDE X ka a fa) (hb : PDE X kb b fb) :
    PDE X .val (.Call (.Attribute a "pop" apos) [b] [] cpos) (fun v S => (fa v S).bind fun x S1 => if isLst x S1 = true then (fb v S1).bind fun y S2 => popiD x y S2 else .bad) := by
  have hA : PA X [b] (tCons (tG X.K (wE X.K kb) fb) tNil) := pa_cons hb pa_nil (star_cons hs)
  refine PE.mono (pe_bm PySem.F.plainAttrs_list PySem.F.slot_list_pop PySem.F.type_list_pop mt_popAt ha hA (base_ok hn) (few1 hs) hline (star_cons hs) (star_none (es := []) rfl)) fun σ H Q ⟨env, S, ρ, B, rel, fin⟩ => ?_
  refine Fin.bind down_E rel fin fun d1 S1 v1 H1 ρ1 rel1 e1 p1 fin1 => ?_
  obtain ⟨hL, fin1⟩ := ok_if fin1
  obtain ⟨n, q, us, zs, rfl, rfl, hq, q1, q2, q3⟩ := isLst_at rel1 (p1.rw rel.b0) hL
  refine ⟨.inl ⟨rfl, _, SqL.of q1⟩, Fin.bind down_E rel1 fin1 fun d2 S2 v2 H2 ρ2 rel2 e2 p2 fin2 => ?_⟩
  unfold popiD at fin2
  split at fin2
  · rename_i he
    cases he
    cases (p2.rw rel1.b0).int
    have hq2 := e2.pre _ _ hq
    obtain ⟨xs, vs, d, ys, h1, h2, h3, h4, h5, fin3⟩ := set_open rel2 hq2 fin2
    split at h4
    · rename_i hk
      cases hx : seqIndex? _ xs.length with
      | none => rw [hx] at h4; cases h4
      | some j =>
        rw [hx] at h4
        cases hz : xs[j]? with
        | none => rw [Option.bind_some, hz] at h4; cases h4
        | some d' =>
          rw [Option.bind_some, hz] at h4
          cases h4
          obtain ⟨v, hv, rv⟩ := h3.get hz
          rw [h3.length] at hx
          exact ⟨q, vs, _, j, v, rfl, rfl, h2, hk.1, hk.2, hx, hv, Fin.set rel2 hq2 h2 (h3.eraseIdx j) rv fin3⟩
    · cases h4
  · exact fin2.elim
theorem pd_app (hn : notCall a = true) (hs : notStar b = true) (hline : (apos.endLine == cpos.line) = true) (ha : PDE X ka a fa) (hb : PDE X .val b fb) :
    PDE X .val (.Call (.Attribute a "append" apos) [b] [] cpos) (fun v S => (fa v S).bind fun x S1 => if isLst x S1 = true then (fb v S1).bind fun y S2 => appD x y S2 else .bad) := by
  have hA : PA X [b] (tCons (tG X.K (wE X.K .val) fb) tNil) := pa_cons hb pa_nil (star_cons hs)
  refine PE.mono (pe_bm PySem.F.plainAttrs_list PySem.F.slot_list_append PySem.F.type_list_append mt_append ha hA (base_ok hn) (few1 hs) hline (star_cons hs) (star_none (es := []) rfl)) fun σ H Q ⟨env, S, ρ, B, rel, fin⟩ => ?_
  refine Fin.bind down_E rel fin fun d1 S1 v1 H1 ρ1 rel1 e1 p1 fin1 => ?_
  obtain ⟨hL, fin1⟩ := ok_if fin1
  obtain ⟨n, q, us, zs, rfl, rfl, hq, q1, q2, q3⟩ := isLst_at rel1 (p1.rw rel.b0) hL
  refine ⟨.inl ⟨rfl, _, SqL.of q1⟩, Fin.bind down_E rel1 fin1 fun d2 S2 v2 H2 ρ2 rel2 e2 p2 fin2 => ?_⟩
  have hq2 := e2.pre _ _ hq
  obtain ⟨xs, vs, d, ys, h1, h2, h3, h4, h5, fin3⟩ := set_open rel2 hq2 fin2
  split at h4
  · rename_i hk
    cases h4
    exact ⟨q, vs, v2, rfl, rfl, h2, by rw [← h3.length]; exact hk, Fin.set rel2 hq2 h2 (h3.append (.cons p2 .nil)) .non fin3⟩
  · cases h4
theorem pd_extd (hn : notCall a = true) (hs : notStar b = true) (hline : (apos.endLine == cpos.line) = true) (ha : PDE X ka a fa) (hb : PDE X kb b fb) :
    PDE X .val (.Call (.Attribute a "extend" apos) [b] [] cpos) (fun v S => (fa v S).bind fun x S1 => if isLst x S1 = true then (fb v S1).bind fun y S2 => extD x y S2 else .bad) := by
  have hA : PA X [b] (tCons (tG X.K (wE X.K kb) fb) tNil) := pa_cons hb pa_nil (star_cons hs)
  refine PE.mono (pe_bm PySem.F.plainAttrs_list PySem.F.slot_list_extend PySem.F.type_list_extend mt_extend ha hA (base_ok hn) (few1 hs) hline (star_cons hs) (star_none (es := []) rfl)) fun σ H Q ⟨env, S, ρ, B, rel, fin⟩ => ?_
  refine Fin.bind down_E rel fin fun d1 S1 v1 H1 ρ1 rel1 e1 p1 fin1 => ?_
  obtain ⟨hL, fin1⟩ := ok_if fin1
  obtain ⟨n, q, us, zs, rfl, rfl, hq, q1, q2, q3⟩ := isLst_at rel1 (p1.rw rel.b0) hL
  refine ⟨.inl ⟨rfl, _, SqL.of q1⟩, Fin.bind down_E rel1 fin1 fun d2 S2 v2 H2 ρ2 rel2 e2 p2 fin2 => ?_⟩
  unfold extD at fin2
  split at fin2
  · rename_i he
    cases he
    obtain ⟨p, ws, rfl, g1, g2, g3⟩ := (p2.rw rel1.b0).lst
    have hq2 := e2.pre _ _ hq
    obtain ⟨xs, vs, d, ys, h1, h2, h3, h4, h5, fin3⟩ := set_open rel2 hq2 fin2
    split at h4
    · rename_i hk
      cases h4
      exact ⟨q, p, vs, ws, rfl, rfl, h2, g1, by rw [← h3.length, ← g3.length]; exact hk, Fin.set rel2 hq2 h2 (h3.append g3) .non fin3⟩
    · cases h4
  · exact fin2.elim
theorem pd_ins {e : Expr} {fe : Env → Store → R D} (hn : notCall a = true) (hs : notStar b = true) (hs2 : notStar e = true) (hline : (apos.endLine == cpos.line) = true) (ha : PDE X ka a fa) (hb : PDE X kb b fb) (he : PDE X .val e fe) :
    PDE X .val (.Call (.Attribute a "insert" apos) [b, e] [] cpos) (fun v S => (fa v S).bind fun x S1 => if isLst x S1 = true then (fb v S1).bind fun y S2 => (fe v S2).bind fun z S3 => insD x y z S3 else .bad) := by
  have hA : PA X [b, e] (tCons (tG X.K (wE X.K kb) fb) (tCons (tG X.K (wE X.K .val) fe) tNil)) := pa_cons hb (pa_cons he pa_nil (star_cons hs2)) (star_cons hs)
  refine PE.mono (pe_bm PySem.F.plainAttrs_list PySem.F.slot_list_insert PySem.F.type_list_insert mt_insert ha hA (base_ok hn) (few2 hs hs2) hline (star_cons hs) (star_none (es := [e]) (by rw [List.all_cons, hs2]; rfl))) fun σ H Q ⟨env, S, ρ, B, rel, fin⟩ => ?_
  refine Fin.bind down_E rel fin fun d1 S1 v1 H1 ρ1 rel1 e1 p1 fin1 => ?_
  obtain ⟨hL, fin1⟩ := ok_if fin1
  obtain ⟨n, q, us, zs, rfl, rfl, hq, q1, q2, q3⟩ := isLst_at rel1 (p1.rw rel.b0) hL
  refine ⟨.inl ⟨rfl, _, SqL.of q1⟩, Fin.bind down_E rel1 fin1 fun d2 S2 v2 H2 ρ2 rel2 e2 p2 fin2 => Fin.bind down_E rel2 fin2 fun d3 S3 v3 H3 ρ3 rel3 e3 p3 fin3 => ?_⟩
  unfold insD at fin3
  split at fin3
  · rename_i he
    cases he
    cases (p2.rw rel1.b0).int
    have hq2 := e3.pre _ _ (e2.pre _ _ hq)
    obtain ⟨xs, vs, d, ys, h1, h2, h3, h4, h5, fin4⟩ := set_open rel3 hq2 fin3
    split at h4
    · rename_i hk
      cases h4
      exact ⟨q, vs, _, v3, rfl, rfl, h2, by rw [← h3.length]; exact hk.2.2, hk.1, hk.2.1, Fin.set rel3 hq2 h2 (((h3.take _).append (.cons p3 .nil)).append (h3.drop _)) .non fin4⟩
    · cases h4
  · exact fin3.elim
end
end IL
/-! IQ0: enumerate of a tuple. -/
namespace PySem
open Sem (wp)
set_option maxHeartbeats 1000000 in
theorem il_enum_new {v : Value} {o : Obj} {H : Heap → Prop} (B : Begins v o H) :
    Meets (Builtin.«enumerate.__new__» ⟨[.type "enumerate", v], []⟩) (fun _ R s => H s.heap ∧
      R (.ok (.ret (.ref (s.heap.push o).objs.size))) { s with heap := (s.heap.push o).push { cls := .type "enumerate", data := .fields #[.none, .bool false, .ref s.heap.objs.size, rawInt 0, .none, .none] } }) :=
  .of_wp fun prog w A R s h => by
    obtain ⟨hp, g, d, tk, os⟩ := s; obtain ⟨h1, h⟩ := h
    have hsub := sub_enumerate
    have q1 : ∀ {A' : Around} {E : Value → Shared → Prop} {Q : Value → Shared → Prop}, Q (.ref hp.objs.size) ⟨hp.push o, g, d, tk, os⟩ → wpAny (model prog w) A' (pyIter v) Q E ⟨hp, g, d, tk, os⟩ :=
      fun q => B.iter prog w _ _ ⟨hp, g, d, tk, os⟩ _ h1 q
    wp_walk using q1
    refine wpAny_stack_any fun st => wpAny_pure ?_
    split
    · rename_i c _ _ _ _ _
      cases (c == Value.type "enumerate")
      · wp_walk using q1
        exact ⟨_, rfl, h⟩
      · wp_walk using q1
        exact ⟨_, rfl, h⟩
    · wp_walk using q1
      exact ⟨_, rfl, h⟩
section
variable {prog : Program} {w : World} {A : Around} {E : Value → Shared → Prop} {s : Shared}
theorem il_enum_begins {v : Value} {o : Obj} {H : Heap → Prop} {Q : Value → Shared → Prop} (B : Begins v o H) (h1 : H s.heap)
    (h : ∀ h', IsEnum h' (s.heap.objs.size + 1) s.heap.objs.size 0 .none → h'.get? s.heap.objs.size = some o → h'.objs.size = s.heap.objs.size + 2 →
      (∀ b o, s.heap.get? b = some o → h'.get? b = some o) → Q (.ref (s.heap.objs.size + 1)) { s with heap := h' }) :
    wpAny (model prog w) A (call (.type "enumerate") [v]) Q E s := by
  refine callType_new F.called_enumerate (by decide) (F.typeCall_enumerate_1 _) (F.newCall_enumerate_1 _) (fun obj => F.args_object_init_2 obj _) F.entry_enumerate_new
    (il_enum_new B) ⟨h1, ?_⟩
  have hz : (s.heap.push o).objs.size = s.heap.objs.size + 1 := Heap.size_push ..
  show _ ∧ _
  rw [hz]
  have he : IsEnum ((s.heap.push o).push { cls := .type "enumerate", data := .fields #[.none, .bool false, .ref s.heap.objs.size, rawInt 0, .none, .none] }) (s.heap.objs.size + 1) s.heap.objs.size 0 .none := by
    have := Heap.get?_push_size (s.heap.push o) (o := { cls := .type "enumerate", data := .fields #[.none, .bool false, .ref s.heap.objs.size, rawInt 0, .none, .none] }) rfl
    rw [hz] at this; exact this
  refine ⟨⟨_, he, rfl⟩, h _ he (Heap.get?_push_of_some _ (Heap.get?_push_size _ B.free)) (by rw [Heap.size_push, hz]) fun b o x => Heap.get?_push_of_some _ (Heap.get?_push_of_some _ x)⟩
end
end PySem
namespace IL
open PySem PySem.Spec PyProof.Rows L2
/-- the tuple at a, each item in a new pair -/
def IteT (K : PySem.W.Frag) (a : Addr) : It :=
  ⟨fun i H => ∃ (xs : List V) (x : V), SqT K H a xs ∧ xs[i]? = some x, fun i H v H' => ∃ T x, v = .ref T ∧ H T = none ∧ H' = upd H T (.tup [.int (i : Nat), x]) ∧ ∀ xs, SqT K H a xs → xs[i]? = some x, fun i H => ∃ xs : List V, SqT K H a xs ∧ xs.length ≤ i⟩
theorem turn_enumT {P : Program} {w : World} {K : PySem.W.Frag} {elts : List Expr} {kk : Nat} {tpos : Pos} (a e it : Addr) :
    Turn P w K (.Tuple elts kk tpos) (IteT K a) [e, it] e (fun i h => (∃ old, IsEnum h e it ((i : Nat) : Int) old) ∧ h.IsTupleIter it a i ∧ e ≠ it ∧ e ≠ a ∧ a ≠ it) where
  mem := by simp
  obj := fun i h st b hb => by
    obtain ⟨⟨old, he⟩, ⟨o, ho, hc, hd⟩, _⟩ := st
    have e' : b = e ∨ b = it := by simpa using hb
    rcases e' with z | z
    · rw [z]; exact ⟨_, he, fun v q => nomatch q⟩
    · rw [z]; exact ⟨o, ho, fun v q => by rw [hd] at q; cases q⟩
  keep := fun i h h' st k => let ⟨⟨old, he⟩, hi, hne⟩ := st; ⟨⟨old, k e (by simp) _ he⟩, hi.at fun o q => k it (by simp) o q, hne⟩
  item := by
    intro X hP hw hK hc i pins s σ H E I hf st hg
    subst hP hw hK
    obtain ⟨⟨old, he⟩, hit, hne, hne2, hne3⟩ := st
    obtain ⟨xs, x, hq, hx⟩ := hg
    obtain ⟨its, rv, p, hz⟩ := I.tuple hq
    obtain ⟨u, hu, ru⟩ := rv.get hx
    have hel : e < s.heap.objs.size := Heap.lt_size he
    have hil : it < s.heap.objs.size := by obtain ⟨_, q, _⟩ := hit; exact Heap.lt_size q
    have hlt : i < its.toArray.size := by
      have := (List.getElem?_eq_some_iff.mp hu).1
      simpa using this
    have pt : s.heap.IsTuple a its.toArray := p
    refine wpAny_pyNext_enum_itemC (D := Draws.tuple (show X.A.in1.handled = none from I.ok.hd hc) it a hne3 its.toArray) he ⟨hit, pt⟩ hlt hne (by simp [hne, hne2]) fun u' h' tk hP ho hit' hT hsz hk => ?_
    have hP : its.toArray[i]? = some u' := hP
    have huu : u' = u := by
      rw [List.getElem?_toArray, hu] at hP
      exact (Option.some.inj hP).symm
    subst huu
    have hit' : h'.IsTupleIter it a (i + 1) := hit'.1
    refine ⟨_, rfl, wpAny_letOwnedTupleGo_enum (s := { s with heap := h', toks := tk + 1 }) ho fun h'' he' sb => ?_⟩
    have hT2 : h''.get? s.heap.objs.size = some { cls := .type "tuple", data := .seq #[.int i tk, u'] } := (sb.2 _ (Nat.ne_of_gt hel)).trans hT
    have new : ObjOk X.prog X.w (upd H s.heap.objs.size (.tup [.int (i : Nat), x])) h'' s.heap.objs.size (.tup [.int (i : Nat), x]) :=
      ⟨by show 2 ≤ sizeLine; decide, [.int i tk, u'], .cons ⟨_, rfl⟩ (.cons ru .nil), ⟨_, hT2, rfl, _, rfl⟩⟩
    have I1 : Inv X pins σ (upd H s.heap.objs.size (.tup [.int (i : Nat), x])) { s with heap := h'', toks := tk + 1 } :=
      I.turnedNew (ch := [e, it]) (fun b ob hb q => (sb.2 b (fun z => hb (by simp [z]))).trans (hk b ob (fun z => hb (by simp [z])) (fun z => hb (by simp [z])) q)) hf (Nat.le_refl _) new
    refine ⟨.ref s.heap.objs.size, _, I1, rfl, ⟨_, x, rfl, I.hok.fresh (Nat.le_refl _), rfl, fun ys hy => by rw [I.tuple_inj hy hq]; exact hx⟩, ⟨⟨u', ?_⟩, hit'.at fun o q => (sb.2 it (Ne.symm hne)).trans q, hne, hne2, hne3⟩, fun b hb => ?_⟩
    · have e1 : ((i + 1 : Nat) : Int) = (i : Int) + 1 := by omega
      rw [e1]; exact he'
    · have hb' : b < s.heap.objs.size := by
        have e' : b = e ∨ b = it := by simpa using hb
        rcases e' with z | z
        · rw [z]; exact hel
        · rw [z]; exact hil
      rw [upd_ne (Nat.ne_of_lt hb')]
      exact (hf b hb).1
  done := by
    intro X hP hw hK hc i pins s σ H E I hf st hg
    subst hP hw hK
    obtain ⟨⟨old, he⟩, hit, hne, hne2, hne3⟩ := st
    obtain ⟨xs, hq, hx⟩ := hg
    obtain ⟨its, rv, p, hz⟩ := I.tuple hq
    obtain ⟨f0, f1, f2, f3, f4, f5⟩ := hf it (by simp)
    have hl := rv.length
    have pt : s.heap.IsTuple a its.toArray := p
    unfold pyNext
    refine wpAny_bind (wpAny_attempt (wpAny_callSpecial?_slot (name := Str.ofString "__next__") (show s.TypeIs (.ref e) "enumerate" from ⟨_, he, rfl⟩) F.slot_enumerate_next
      (wpAny_call_entry F.slot_enumerate_next (show s.TypeIs (.ref e) "enumerate" from ⟨_, he, rfl⟩) F.entry_enumerate_next ?_ (F.args_enumerate_next_1 _))))
    show wpAny _ _ (field (.ref e) 2 >>= _) _ _ _
    refine wpAny_bind (wpAny_field he rfl (x := .ref it) rfl ?_)
    refine wpAny_bind (wpAny_nextOf_tuple_end (show _ = none from I.ok.hd hc) hit pt (by simp; omega) fun h' x' eb hx' => ?_)
    obtain ⟨o, ho, hc'⟩ := hx'
    refine wpAny_bind (wpAny_isInstance (T := "StopIteration") (b := true) ⟨o, ho, hc'⟩ isSubtype_stop ?_)
    exact wpAny_pure ⟨rfl, I.turned (t' := s.toks) (fun b o hb q => eb b o hb q) f0 f1 f3 f4 f5⟩
  self := fun A i s Q E st h => let ⟨⟨_, he⟩, _⟩ := st; wpAny_pyIter_enum he h
def iEnumA (K : PySem.W.Frag) (ta : TA) : TI := fun σ H R => ta σ H fun vs H1 => ∃ a xs, vs = [.ref a] ∧ ((SqL K H1 a xs ∧ R (Ite K a) H1) ∨ (SqT K H1 a xs ∧ R (IteT K a) H1))
theorem pi_enumA {X : Cx} {e : Expr} {ta : TA} {p pos tpos : Pos} {elts : List Expr} {kk : Nat} (hg : Gl X "enumerate") (hm : X.mg "enumerate" = none) (ha : PA X [e] ta) (hs : starEach [e] X.env = [(false, eval e X.env)]) :
    PI X (.Tuple elts kk tpos) (.Call (.Name "enumerate" p) [e] [] pos) (iEnumA X.K ta) := by
  refine ⟨fun pins s σ H R I h => ?_⟩
  refine Call_ (ld_blt I hg hm boot_enumerate (PyProof.Rows.callWith_type1 (thn (ha.run pos pins s σ H _ I h) fun us s1 ⟨vs, H1, I1, r1, q1⟩ => ?_) hs rfl))
  obtain ⟨a, xs, ex, q⟩ := q1
  subst ex
  cases r1 with
  | cons r rr =>
    cases rr
    cases r
    have fp2 : ∀ b, b ∈ [s1.heap.objs.size + 1, s1.heap.objs.size] → FpOk X pins H1 b := fun b hb => by
      have e' : b = s1.heap.objs.size + 1 ∨ b = s1.heap.objs.size := by simpa using hb
      have hle : s1.heap.objs.size ≤ b := by
        rcases e' with z | z
        · rw [z]; exact Nat.le_add_right _ _
        · rw [z]; exact Nat.le_refl _
      exact I1.fpOk hle (I1.hok.fresh hle)
    rcases q with ⟨hq, q⟩ | ⟨hq, q⟩
    · obtain ⟨its, rv, p', hz⟩ := I1.list hq
      refine call_enumerate_list p'.isList fun h' he hit hsz hk => wpAny_pyIter_enum he ?_
      have I2 : Inv X pins σ H1 { s1 with heap := h' } := I1.kept (t' := s1.toks) hk
      exact ⟨s1.heap.objs.size + 1, [s1.heap.objs.size + 1, s1.heap.objs.size], _, _, H1, rfl, I2, turn_enum a (s1.heap.objs.size + 1) s1.heap.objs.size, ⟨⟨.none, he⟩, hit, Nat.succ_ne_self _⟩, fp2, q⟩
    · obtain ⟨its, rv, p', hz⟩ := I1.tuple hq
      have pt : s1.heap.IsTuple a its.toArray := p'
      obtain ⟨oo, hoo, _⟩ := id pt
      have hlt : a < s1.heap.objs.size := Heap.lt_size hoo
      refine il_enum_begins (begins_tuple a its.toArray) pt fun h' he hit hsz hk => wpAny_pyIter_enum he ?_
      have I2 : Inv X pins σ H1 { s1 with heap := h' } := I1.kept (t' := s1.toks) hk
      refine ⟨s1.heap.objs.size + 1, [s1.heap.objs.size + 1, s1.heap.objs.size], _, _, H1, rfl, I2, turn_enumT a (s1.heap.objs.size + 1) s1.heap.objs.size, ⟨⟨.none, he⟩, ⟨_, hit, rfl, rfl⟩, Nat.succ_ne_self _, ?_, ?_⟩, fp2, q⟩
      · exact Nat.ne_of_gt (Nat.lt_succ_of_lt hlt)
      · exact Nat.ne_of_lt hlt
end IL
set_option maxHeartbeats 1000000
/-! IQ1: zip of a tuple and a list. What zip asks of each of its two is kept apart (Src), so one walk serves. -/
namespace RZM
open PySem
open PySem.Sem (wp)
/-- what an iterator stands on: it is told anew behind changes elsewhere -/
def Stays (it l : Addr) (J : Heap → Prop) : Prop := ∀ (h h' : Heap) (c : Addr), it ≠ c → l ≠ c → Heap.ExtBut c h h' → J h → J h'
section
variable {prog : Program} {w : World}
/-- the next thing of an iterator -/
def Gives (prog : Program) (w : World) (it : Addr) (J J' : Heap → Prop) (x : Value) : Prop :=
  ∀ (A : Around) (E : Value → Shared → Prop) (s : Shared) (Q : Value → Shared → Prop), J s.heap → (∀ h', J' h' → Heap.SameBut it s.heap h' → Q x { s with heap := h' }) → wpAny (model prog w) A (Builtin.SmallTypes.nextOf (.ref it)) Q E s
def Ended (prog : Program) (w : World) (it : Addr) (J : Heap → Prop) : Prop :=
  ∀ (A : Around) (E : Value → Shared → Prop) (s : Shared) (Q : Value → Shared → Prop), A.handled = none → J s.heap →
    (∀ h' e, Heap.ExtBut it s.heap h' → (∃ o, h'.get? e = some o ∧ o.cls = .type "StopIteration") → E (.ref e) { s with heap := h' }) → wpAny (model prog w) A (Builtin.SmallTypes.nextOf (.ref it)) Q E s
variable {A : Around} {E : Value → Shared → Prop} {s : Shared}
theorem next_item {z TI TO i1 i2 l1 l2 : Addr} {J1 J1' J2 J2' : Heap → Prop} {x y a b : Value} {Q : Value → Shared → Prop} (D : ZipApart z TI TO i1 i2 l1 l2)
    (hz : IsZip s.heap z TI TO .none) (hTI : IsPair s.heap TI (.ref i1) (.ref i2)) (hTO : IsPair s.heap TO a b)
    (h1 : J1 s.heap) (h2 : J2 s.heap) (t1 : Stays i1 l1 J1) (t1' : Stays i1 l1 J1') (t2 : Stays i2 l2 J2) (t2' : Stays i2 l2 J2') (g1 : Gives prog w i1 J1 J1' x) (g2 : Gives prog w i2 J2 J2' y)
    (hQ : ∀ h', IsZip h' z TI TO (rawInt s.heap.objs.size) → IsPair h' TO x y → J1' h' → J2' h' → IsPair h' s.heap.objs.size x y → h'.objs.size = s.heap.objs.size + 1 →
      (∀ c o, c ≠ z → c ≠ TO → c ≠ i1 → c ≠ i2 → s.heap.get? c = some o → h'.get? c = some o) → Q (.ref s.heap.objs.size) { s with heap := h' })
    (up1 : ∀ h o, J1' h → J1' (h.push o)) (up2 : ∀ h o, J2' h → J2' (h.push o)) :
    wpAny (model prog w) A (Builtin.«zip.__next__» ⟨[.ref z], []⟩) (fun fin s' => ∃ v, fin = .done (.ret v) ∧ Q v s') E s := by
  show wpAny _ _ (field (.ref z) 2 >>= _) _ _ _
  refine wpAny_bind (wpAny_field hz rfl (x := .bool false) rfl ?_)
  show wpAny _ _ (field (.ref z) 3 >>= _) _ _ _
  refine wpAny_bind (wpAny_field hz rfl (x := .ref TI) rfl ?_)
  refine wpAny_bind (wpAny_seqItems hTI rfl ?_)
  show wpAny _ _ (Builtin.SmallTypes.ownedTupleIsFree (.ref z) >>= _) _ _ _
  refine wpAny_bind ?_
  unfold Builtin.SmallTypes.ownedTupleIsFree
  refine wpAny_bind (wpAny_field hz rfl (x := .none) rfl (wpAny_pure ?_))
  simp only [if_true]
  refine wpAny_bind (wpAny_rule ?_)
  refine wpAny_bind (wpAny_field hz rfl (x := .ref TO) rfl ?_)
  refine wpAny_bind (wpAny_setField_rec hz (by simp) fun h₁ hz₁ hs₁ => ?_)
  replace hz₁ : IsZip h₁ z TI TO .ellipsis := hz₁
  refine wpAny_bind ?_
  simp only [List.zipIdx_cons, List.zipIdx_nil, List.forIn_cons, List.forIn_nil]
  refine wpAny_bind (wpAny_bind (wpAny_onRaise ?_))
  show wpAny _ _ (Builtin.SmallTypes.nextOf (.ref i1) >>= _) _ _ _
  have a1 := t1 _ _ z D.i1z D.l1z hs₁.extBut h1
  refine wpAny_bind (g1 _ _ _ _ a1 fun h₂ h1₂ hs₂ => wpAny_pure ?_)
  have hTO₂ : IsPair h₂ TO a b := hs₂.extBut _ _ D.TOi1 (hs₁.extBut _ _ D.TOz hTO)
  refine wpAny_bind (wpAny_seqItems hTO₂ rfl ?_)
  refine wpAny_bind (wpAny_updateSeq_pair hTO₂ fun h₃ hTO₃ hs₃ => ?_)
  replace hTO₃ : IsPair h₃ TO x b := hTO₃
  refine wpAny_bind (wpAny_letGo (wpAny_pure ?_))
  refine wpAny_bind (wpAny_bind (wpAny_onRaise ?_))
  show wpAny _ _ (Builtin.SmallTypes.nextOf (.ref i2) >>= _) _ _ _
  have b1 := t2 _ _ z D.i2z D.l2z hs₁.extBut h2
  have b2 := t2 _ _ i1 D.i12.symm D.l2i1 hs₂.extBut b1
  have b3 := t2 _ _ TO D.TOi2.symm D.l2TO hs₃.extBut b2
  refine wpAny_bind (g2 _ _ _ _ b3 fun h₄ h2₄ hs₄ => wpAny_pure ?_)
  have hTO₄ : IsPair h₄ TO x b := hs₄.extBut _ _ D.TOi2 hTO₃
  refine wpAny_bind (wpAny_seqItems hTO₄ rfl ?_)
  refine wpAny_bind (wpAny_updateSeq_pair hTO₄ fun h₅ hTO₅ hs₅ => ?_)
  replace hTO₅ : IsPair h₅ TO x y := hTO₅
  refine wpAny_bind (wpAny_letGo (wpAny_pure (wpAny_pure ?_)))
  refine wpAny_bind (wpAny_seqItems hTO₅ rfl ?_)
  refine wpAny_bind (wpAny_newTuple ?_)
  have hsz : h₅.objs.size = s.heap.objs.size := by rw [hs₅.1, hs₄.1, hs₃.1, hs₂.1, hs₁.1]
  have hz₅ : IsZip h₅ z TI TO .ellipsis := hs₅.extBut _ _ D.TOz.symm (hs₄.extBut _ _ D.i2z.symm (hs₃.extBut _ _ D.TOz.symm (hs₂.extBut _ _ D.i1z.symm hz₁)))
  have hk₅ : ∀ c o, c ≠ z → c ≠ TO → c ≠ i1 → c ≠ i2 → s.heap.get? c = some o → h₅.get? c = some o := fun c o c1 c2 c3 c4 e =>
    hs₅.extBut _ _ c2 (hs₄.extBut _ _ c4 (hs₃.extBut _ _ c2 (hs₂.extBut _ _ c3 (hs₁.extBut _ _ c1 e))))
  have h1₅ := t1' _ _ TO D.TOi1.symm D.l1TO hs₅.extBut (t1' _ _ i2 D.i12 D.l1i2 hs₄.extBut (t1' _ _ TO D.TOi1.symm D.l1TO hs₃.extBut h1₂))
  have h2₅ := t2' _ _ TO D.TOi2.symm D.l2TO hs₅.extBut h2₄
  have hzlt : z < h₅.objs.size := Heap.lt_size hz₅
  show wpAny _ _ (Builtin.SmallTypes.ownedTupleHandOut (.ref z) (.ref h₅.objs.size) >>= _) _ _ _
  refine wpAny_bind ?_
  unfold Builtin.SmallTypes.ownedTupleHandOut
  have hz₆ : IsZip (h₅.push { cls := .type "tuple", data := .seq #[x, y] }) z TI TO .ellipsis := Heap.get?_push_of_some _ hz₅
  refine wpAny_bind (wpAny_setField_rec hz₆ (by simp) fun h₇ hz₇ hs₇ => ?_)
  replace hz₇ : IsZip h₇ z TI TO (rawInt h₅.objs.size) := hz₇
  refine wpAny_setField_rec hz₇ (by simp) fun h₈ hz₈ hs₈ => ?_
  replace hz₈ : IsZip h₈ z TI TO (rawInt h₅.objs.size) := hz₈
  have up : ∀ c o, c ≠ z → h₅.get? c = some o → h₈.get? c = some o := fun c o c1 e => hs₈.extBut _ _ c1 (hs₇.extBut _ _ c1 (Heap.get?_push_of_some _ e))
  have hT₈ : IsPair h₈ h₅.objs.size x y := hs₈.extBut _ _ (Nat.ne_of_gt hzlt) (hs₇.extBut _ _ (Nat.ne_of_gt hzlt) (Heap.get?_push_size _ rfl))
  have hz8 : h₈.objs.size = h₅.objs.size + 1 := by rw [hs₈.1, hs₇.1, Heap.size_push]
  have h1₈ := t1' _ _ z D.i1z D.l1z hs₈.extBut (t1' _ _ z D.i1z D.l1z hs₇.extBut (up1 _ { cls := .type "tuple", data := .seq #[x, y] } h1₅))
  have h2₈ := t2' _ _ z D.i2z D.l2z hs₈.extBut (t2' _ _ z D.i2z D.l2z hs₇.extBut (up2 _ { cls := .type "tuple", data := .seq #[x, y] } h2₅))
  rw [hsz] at hz₈ hT₈ hz8
  refine wpAny_pure ⟨_, rfl, ?_⟩
  show Q (.ref h₅.objs.size) _
  rw [hsz]
  exact hQ h₈ hz₈ (up _ _ D.TOz hTO₅) h1₈ h2₈ hT₈ hz8 fun c o c1 c2 c3 c4 e => up c o c1 (hk₅ c o c1 c2 c3 c4 e)
theorem next_end {z TI TO i1 i2 l1 l2 : Addr} {J1 J2 : Heap → Prop} {a b : Value} {Q : Fin → Shared → Prop} (hh : A.handled = none) (D : ZipApart z TI TO i1 i2 l1 l2)
    (hz : IsZip s.heap z TI TO .none) (hTI : IsPair s.heap TI (.ref i1) (.ref i2)) (hTO : IsPair s.heap TO a b)
    (h1 : J1 s.heap) (h2 : J2 s.heap) (t1 : Stays i1 l1 J1) (t2 : Stays i2 l2 J2) (hend : Ended prog w i1 J1 ∨ (∃ J1' x, Gives prog w i1 J1 J1' x) ∧ Ended prog w i2 J2)
    (hE : ∀ h' e, (∀ c o, c ≠ z → c ≠ TO → c ≠ i1 → c ≠ i2 → s.heap.get? c = some o → h'.get? c = some o) → (∃ o, h'.get? e = some o ∧ o.cls = .type "StopIteration") → E (.ref e) { s with heap := h' }) :
    wpAny (model prog w) A (Builtin.«zip.__next__» ⟨[.ref z], []⟩) Q E s := by
  show wpAny _ _ (field (.ref z) 2 >>= _) _ _ _
  refine wpAny_bind (wpAny_field hz rfl (x := .bool false) rfl ?_)
  show wpAny _ _ (field (.ref z) 3 >>= _) _ _ _
  refine wpAny_bind (wpAny_field hz rfl (x := .ref TI) rfl ?_)
  refine wpAny_bind (wpAny_seqItems hTI rfl ?_)
  show wpAny _ _ (Builtin.SmallTypes.ownedTupleIsFree (.ref z) >>= _) _ _ _
  refine wpAny_bind ?_
  unfold Builtin.SmallTypes.ownedTupleIsFree
  refine wpAny_bind (wpAny_field hz rfl (x := .none) rfl (wpAny_pure ?_))
  simp only [if_true]
  refine wpAny_bind (wpAny_rule ?_)
  refine wpAny_bind (wpAny_field hz rfl (x := .ref TO) rfl ?_)
  refine wpAny_bind (wpAny_setField_rec hz (by simp) fun h₁ hz₁ hs₁ => ?_)
  replace hz₁ : IsZip h₁ z TI TO .ellipsis := hz₁
  refine wpAny_bind ?_
  simp only [List.zipIdx_cons, List.zipIdx_nil, List.forIn_cons, List.forIn_nil]
  refine wpAny_bind (wpAny_bind (wpAny_onRaise ?_))
  show wpAny _ _ (Builtin.SmallTypes.nextOf (.ref i1) >>= _) _ _ _
  have a1 := t1 _ _ z D.i1z D.l1z hs₁.extBut h1
  rcases hend with he1 | ⟨⟨J1', x, g1⟩, he2⟩
  · refine wpAny_bind (he1 _ _ _ _ hh a1 fun h₂ e hs₂ he => ?_)
    obtain ⟨oe, hoe, hce⟩ := he
    have hz₂ : IsZip h₂ z TI TO .ellipsis := hs₂ _ _ D.i1z.symm hz₁
    have hez : e ≠ z := fun x => by subst x; rw [hz₂] at hoe; cases hoe; simp at hce
    refine wpAny_setField_rec hz₂ (by simp) fun h₃ _ hs₃ => hE h₃ e (fun c o c1 _ c3 _ x => hs₃.extBut _ _ c1 (hs₂ _ _ c3 (hs₁.extBut _ _ c1 x))) ⟨oe, hs₃.extBut _ _ hez hoe, hce⟩
  · refine wpAny_bind (g1 _ _ _ _ a1 fun h₂ h1₂ hs₂ => wpAny_pure ?_)
    have hTO₂ : IsPair h₂ TO a b := hs₂.extBut _ _ D.TOi1 (hs₁.extBut _ _ D.TOz hTO)
    refine wpAny_bind (wpAny_seqItems hTO₂ rfl ?_)
    refine wpAny_bind (wpAny_updateSeq_pair hTO₂ fun h₃ hTO₃ hs₃ => ?_)
    refine wpAny_bind (wpAny_letGo (wpAny_pure ?_))
    refine wpAny_bind (wpAny_bind (wpAny_onRaise ?_))
    show wpAny _ _ (Builtin.SmallTypes.nextOf (.ref i2) >>= _) _ _ _
    have b1 := t2 _ _ z D.i2z D.l2z hs₁.extBut h2
    have b2 := t2 _ _ i1 D.i12.symm D.l2i1 hs₂.extBut b1
    have b3 := t2 _ _ TO D.TOi2.symm D.l2TO hs₃.extBut b2
    refine wpAny_bind (he2 _ _ _ _ hh b3 fun h₄ e hs₄ he => ?_)
    obtain ⟨oe, hoe, hce⟩ := he
    have hz₄ : IsZip h₄ z TI TO .ellipsis := hs₄ _ _ D.i2z.symm (hs₃.extBut _ _ D.TOz.symm (hs₂.extBut _ _ D.i1z.symm hz₁))
    have hez : e ≠ z := fun x => by subst x; rw [hz₄] at hoe; cases hoe; simp at hce
    refine wpAny_setField_rec hz₄ (by simp) fun h₅ _ hs₅ => hE h₅ e (fun c o c1 c2 c3 c4 x => hs₅.extBut _ _ c1 (hs₄ _ _ c4 (hs₃.extBut _ _ c2 (hs₂.extBut _ _ c3 (hs₁.extBut _ _ c1 x))))) ⟨oe, hs₅.extBut _ _ hez hoe, hce⟩
/-! ### tuples and lists as such -/
def JT (it l : Addr) (k : Nat) (xs : Array Value) (h : Heap) : Prop := h.IsTupleIter it l k ∧ h.IsTuple l xs
def JL (it l : Addr) (k : Nat) (xs : Array Value) (h : Heap) : Prop := h.IsListIter it l k ∧ h.IsList l xs
theorem jt_stays {it l : Addr} {k : Nat} {xs : Array Value} : Stays it l (JT it l k xs) := fun h h' c c1 c2 hs j => ⟨j.1.extBut hs c1, j.2.extBut hs c2⟩
theorem jl_stays {it l : Addr} {k : Nat} {xs : Array Value} : Stays it l (JL it l k xs) := fun h h' c c1 c2 hs j => ⟨j.1.extBut hs c1, j.2.extBut hs c2⟩
theorem jt_gives {it l : Addr} {k : Nat} {xs : Array Value} {x : Value} (hn : l ≠ it) (hx : xs[k]? = some x) : Gives prog w it (JT it l k xs) (JT it l (k + 1) xs) x :=
  fun A E s Q j h => RZ.nextOf_tuple_item j.1 j.2 hx fun h' a b => h h' ⟨a, j.2.extBut b.extBut hn⟩ b
theorem jl_gives {it l : Addr} {k : Nat} {xs : Array Value} {x : Value} (hn : l ≠ it) (hx : xs[k]? = some x) : Gives prog w it (JL it l k xs) (JL it l (k + 1) xs) x :=
  fun A E s Q j h => wpAny_nextOf_list_item j.1 j.2 hx fun h' a b => h h' ⟨a, j.2.extBut b.extBut hn⟩ b
theorem jt_ended {it l : Addr} {k : Nat} {xs : Array Value} (hx : xs[k]? = none) : Ended prog w it (JT it l k xs) :=
  fun A E s Q hh j h => RZ.nextOf_tuple_end hh j.1 j.2 hx h
theorem jl_ended {it l : Addr} {k : Nat} {xs : Array Value} (hx : xs[k]? = none) : Ended prog w it (JL it l k xs) :=
  fun A E s Q hh j h => wpAny_nextOf_list_end hh j.1 j.2 hx h
theorem jt_push {it l : Addr} {k : Nat} {xs : Array Value} (h : Heap) (o : Obj) (j : JT it l k xs h) : JT it l k xs (h.push o) := ⟨j.1.at fun _ e => Heap.get?_push_of_some _ e, j.2.at fun _ e => Heap.get?_push_of_some _ e⟩
theorem jl_push {it l : Addr} {k : Nat} {xs : Array Value} (h : Heap) (o : Obj) (j : JL it l k xs h) : JL it l k xs (h.push o) := ⟨j.1.at fun _ e => Heap.get?_push_of_some _ e, Heap.IsList.push j.2 _⟩
theorem pyNext_item {z TI TO i1 i2 l1 l2 : Addr} {J1 J1' J2 J2' : Heap → Prop} {x y a b : Value} {Q : Option Value → Shared → Prop} (D : ZipApart z TI TO i1 i2 l1 l2)
    (hz : IsZip s.heap z TI TO .none) (hTI : IsPair s.heap TI (.ref i1) (.ref i2)) (hTO : IsPair s.heap TO a b)
    (h1 : J1 s.heap) (h2 : J2 s.heap) (t1 : Stays i1 l1 J1) (t1' : Stays i1 l1 J1') (t2 : Stays i2 l2 J2) (t2' : Stays i2 l2 J2') (g1 : Gives prog w i1 J1 J1' x) (g2 : Gives prog w i2 J2 J2' y)
    (up1 : ∀ h o, J1' h → J1' (h.push o)) (up2 : ∀ h o, J2' h → J2' (h.push o))
    (hQ : ∀ h', IsZip h' z TI TO (rawInt s.heap.objs.size) → IsPair h' TO x y → J1' h' → J2' h' → IsPair h' s.heap.objs.size x y → h'.objs.size = s.heap.objs.size + 1 →
      (∀ c o, c ≠ z → c ≠ TO → c ≠ i1 → c ≠ i2 → s.heap.get? c = some o → h'.get? c = some o) → Q (some (.ref s.heap.objs.size)) { s with heap := h' }) :
    wpAny (model prog w) A (pyNext (.ref z)) Q E s := by
  have hT : s.TypeIs (.ref z) "zip" := ⟨_, hz, rfl⟩
  unfold pyNext
  exact wpAny_bind (wpAny_attempt (wpAny_callSpecial?_slot (name := Str.ofString "__next__") hT F.slot_zip_next
    (wpAny_call_entry F.slot_zip_next hT F.entry_zip_next
      (next_item D hz hTI hTO h1 h2 t1 t1' t2 t2' g1 g2 (fun h' a1 a2 a3 a4 a5 a6 a7 => wpAny_pure (hQ h' a1 a2 a3 a4 a5 a6 a7)) up1 up2) (F.args_zip_next_1 _))))
theorem pyNext_end {z TI TO i1 i2 l1 l2 : Addr} {J1 J2 : Heap → Prop} {a b : Value} {Q : Option Value → Shared → Prop} (hh : A.handled = none) (D : ZipApart z TI TO i1 i2 l1 l2)
    (hz : IsZip s.heap z TI TO .none) (hTI : IsPair s.heap TI (.ref i1) (.ref i2)) (hTO : IsPair s.heap TO a b)
    (h1 : J1 s.heap) (h2 : J2 s.heap) (t1 : Stays i1 l1 J1) (t2 : Stays i2 l2 J2) (hend : Ended prog w i1 J1 ∨ (∃ J1' x, Gives prog w i1 J1 J1' x) ∧ Ended prog w i2 J2)
    (hQ : ∀ h', (∀ c o, c ≠ z → c ≠ TO → c ≠ i1 → c ≠ i2 → s.heap.get? c = some o → h'.get? c = some o) → Q none { s with heap := h' }) : wpAny (model prog w) A (pyNext (.ref z)) Q E s := by
  have hT : s.TypeIs (.ref z) "zip" := ⟨_, hz, rfl⟩
  unfold pyNext
  refine wpAny_bind (wpAny_attempt (wpAny_callSpecial?_slot (name := Str.ofString "__next__") hT F.slot_zip_next
    (wpAny_call_entry F.slot_zip_next hT F.entry_zip_next (next_end hh D hz hTI hTO h1 h2 t1 t2 hend fun h' e hk he => ?_) (F.args_zip_next_1 _))))
  obtain ⟨o, ho, hc⟩ := he
  refine wpAny_bind (wpAny_isInstance (T := "StopIteration") (b := true) ⟨o, ho, hc⟩ isSubtype_stop ?_)
  exact wpAny_pure (hQ _ hk)
end
abbrev m1 (h : Heap) (l1 : Addr) : Heap := h.push { cls := .type "tuple_iterator", data := .fields #[.ref l1, .int 0 0] }
abbrev m2 (h : Heap) (l1 l2 : Addr) : Heap := (m1 h l1).push { cls := .type "list_iterator", data := .fields #[.ref l2, .int 0 0] }
abbrev m3 (h : Heap) (l1 l2 : Addr) : Heap := (m2 h l1 l2).push { cls := .type "tuple", data := .seq #[.ref h.objs.size, .ref (m1 h l1).objs.size] }
abbrev m4 (h : Heap) (l1 l2 : Addr) : Heap := (m3 h l1 l2).push { cls := .type "tuple", data := .seq #[.none, .none] }
abbrev m5 (h : Heap) (l1 l2 : Addr) : Heap := (m4 h l1 l2).push { cls := .type "zip", data := .fields #[.none, .bool false, .bool false, .ref (m2 h l1 l2).objs.size, .ref (m3 h l1 l2).objs.size] }
theorem meets_new (l1 l2 : Addr) (xs ys : Array Value) :
    Meets (Builtin.«zip.__new__» ⟨[.type "zip", .ref l1, .ref l2], []⟩) (fun _ R s => s.heap.IsTuple l1 xs ∧ s.heap.IsList l2 ys ∧
      R (.ok (.ret (.ref (m4 s.heap l1 l2).objs.size))) { s with heap := m5 s.heap l1 l2 }) :=
  .of_wp fun prog w A R s h => by
    obtain ⟨hp, g, d, tk, os⟩ := s; obtain ⟨hl1, hl2, h⟩ := h
    have hsub := sub_zip
    have hL1 : Heap.IsTuple (Shared.heap ⟨hp, g, d, tk, os⟩) l1 xs := hl1
    have hL2 : Heap.IsList (Shared.heap ⟨hp.push { cls := .type "tuple_iterator", data := .fields #[.ref l1, .int 0 0] }, g, d, tk, os⟩) l2 ys := Heap.IsList.push hl2 _
    wp_walk using wpAny_pyIter_tuple hL1, wpAny_pyIter_list hL2
    exact ⟨_, rfl, h⟩
section
variable {prog : Program} {w : World} {A : Around} {E : Value → Shared → Prop} {s : Shared}
theorem call_new {l1 l2 : Addr} {xs ys : Array Value} {Q : Value → Shared → Prop} (hl1 : s.heap.IsTuple l1 xs) (hl2 : s.heap.IsList l2 ys)
    (h : ∀ h', IsZip h' (s.heap.objs.size + 4) (s.heap.objs.size + 2) (s.heap.objs.size + 3) .none → IsPair h' (s.heap.objs.size + 2) (.ref s.heap.objs.size) (.ref (s.heap.objs.size + 1)) →
      IsPair h' (s.heap.objs.size + 3) .none .none → h'.IsTupleIter s.heap.objs.size l1 0 → h'.IsListIter (s.heap.objs.size + 1) l2 0 → h'.objs.size = s.heap.objs.size + 5 →
      (∀ c o, s.heap.get? c = some o → h'.get? c = some o) → Q (.ref (s.heap.objs.size + 4)) { s with heap := h' }) :
    wpAny (model prog w) A (call (.type "zip") [.ref l1, .ref l2]) Q E s := by
  refine callType_new F.called_zip (by decide) (F.typeCall_zip_2 _ _) (F.newCall_zip_2 _ _) (fun obj => F.args_object_init_3 obj _ _) F.entry_zip_new
    (meets_new l1 l2 xs ys) ⟨hl1, hl2, ?_⟩
  have z1 : (m1 s.heap l1).objs.size = s.heap.objs.size + 1 := Heap.size_push ..
  have z2 : (m2 s.heap l1 l2).objs.size = s.heap.objs.size + 2 := by rw [Heap.size_push, z1]
  have z3 : (m3 s.heap l1 l2).objs.size = s.heap.objs.size + 3 := by rw [Heap.size_push, z2]
  have z4 : (m4 s.heap l1 l2).objs.size = s.heap.objs.size + 4 := by rw [Heap.size_push, z3]
  have z5 : (m5 s.heap l1 l2).objs.size = s.heap.objs.size + 5 := by rw [Heap.size_push, z4]
  have g5 : (m5 s.heap l1 l2).get? (m4 s.heap l1 l2).objs.size = some _ := Heap.get?_push_size _ rfl
  have g4 : (m5 s.heap l1 l2).get? (m3 s.heap l1 l2).objs.size = some _ := Heap.get?_push_of_some _ (Heap.get?_push_size _ rfl)
  have g3 : (m5 s.heap l1 l2).get? (m2 s.heap l1 l2).objs.size = some _ := Heap.get?_push_of_some _ (Heap.get?_push_of_some _ (Heap.get?_push_size _ rfl))
  have g2 : (m5 s.heap l1 l2).get? (m1 s.heap l1).objs.size = some _ := Heap.get?_push_of_some _ (Heap.get?_push_of_some _ (Heap.get?_push_of_some _ (Heap.get?_push_size _ rfl)))
  have g1 : (m5 s.heap l1 l2).get? s.heap.objs.size = some _ := Heap.get?_push_of_some _ (Heap.get?_push_of_some _ (Heap.get?_push_of_some _ (Heap.get?_push_of_some _ (Heap.get?_push_size _ rfl))))
  show _ ∧ _
  rw [z2, z3, z4] at g5
  rw [z1, z2] at g3
  rw [z3] at g4
  rw [z1] at g2
  rw [z4]
  exact ⟨⟨_, g5, rfl⟩, h _ g5 g3 g4 ⟨_, g1, rfl, rfl⟩ ⟨_, g2, rfl, rfl⟩ z5 fun c o x =>
    Heap.get?_push_of_some _ (Heap.get?_push_of_some _ (Heap.get?_push_of_some _ (Heap.get?_push_of_some _ (Heap.get?_push_of_some _ x))))⟩
end
end RZM
namespace RZM
open PySem PySem.Spec PyProof.Rows L2
/-- the tuple at a and the list at b as they stand at each turn, the items in new pairs -/
def ItzM (K : PySem.W.Frag) (a b : Addr) : It :=
  ⟨fun i H => ∃ (xs ys : List V) (x y : V), SqT K H a xs ∧ SqL K H b ys ∧ xs[i]? = some x ∧ ys[i]? = some y,
    fun i H v H' => ∃ T x y, v = .ref T ∧ H T = none ∧ H' = upd H T (.tup [x, y]) ∧ (∀ xs, SqT K H a xs → xs[i]? = some x) ∧ ∀ ys, SqL K H b ys → ys[i]? = some y,
    fun i H => ∃ xs ys : List V, SqT K H a xs ∧ SqL K H b ys ∧ (xs.length ≤ i ∨ ys.length ≤ i)⟩
theorem turn_zipM {P : Program} {w : World} {K : PySem.W.Frag} {elts : List Expr} {kk : Nat} {tpos : Pos} {a b z TI TO i1 i2 : Addr} (D : ZipApart z TI TO i1 i2 a b) :
    Turn P w K (.Tuple elts kk tpos) (ItzM K a b) [z, TI, TO, i1, i2] z (fun i h => IsZip h z TI TO .none ∧ IsPair h TI (.ref i1) (.ref i2) ∧ (∃ x y, IsPair h TO x y) ∧ h.IsTupleIter i1 a i ∧ h.IsListIter i2 b i) where
  mem := by simp
  obj := fun i h st c hc => by
    obtain ⟨hz, hTI, ⟨x, y, hTO⟩, ⟨o1, e1, _, d1⟩, ⟨o2, e2, _, d2⟩⟩ := st
    have e' : c = z ∨ c = TI ∨ c = TO ∨ c = i1 ∨ c = i2 := by simpa using hc
    rcases e' with q | q | q | q | q
    · rw [q]; exact ⟨_, hz, fun v q => nomatch q⟩
    · rw [q]; exact ⟨_, hTI, fun v q => nomatch q⟩
    · rw [q]; exact ⟨_, hTO, fun v q => nomatch q⟩
    · rw [q]; exact ⟨o1, e1, fun v q => by rw [d1] at q; cases q⟩
    · rw [q]; exact ⟨o2, e2, fun v q => by rw [d2] at q; cases q⟩
  keep := fun i h h' st k => by
    obtain ⟨hz, hTI, ⟨x, y, hTO⟩, h1, h2⟩ := st
    exact ⟨k z (by simp) _ hz, k TI (by simp) _ hTI, ⟨x, y, k TO (by simp) _ hTO⟩, h1.at fun o q => k i1 (by simp) o q, h2.at fun o q => k i2 (by simp) o q⟩
  item := by
    intro X hP hw hK hc i pins s σ H E I hf st hg
    subst hP hw hK
    obtain ⟨hz, hTI, ⟨x0, y0, hTO⟩, h1, h2⟩ := st
    obtain ⟨xs, ys, x, y, hqx, hqy, hx, hy⟩ := hg
    obtain ⟨its, rv, p, _⟩ := I.tuple hqx
    obtain ⟨its2, rv2, p2, _⟩ := I.list hqy
    obtain ⟨u, hu, ru⟩ := rv.get hx
    obtain ⟨u2, hu2, ru2⟩ := rv2.get hy
    have hzl : z < s.heap.objs.size := Heap.lt_size hz
    refine pyNext_item D hz hTI hTO (J1 := JT i1 a i its.toArray) (J2 := JL i2 b i its2.toArray) ⟨h1, p⟩ ⟨h2, p2.isList⟩ jt_stays jt_stays jl_stays jl_stays (jt_gives D.l1i1 (x := u) (by simpa using hu)) (jl_gives D.l2i2 (x := u2) (by simpa using hu2)) jt_push jl_push fun h' z' TO' h1' h2' hT hsz hk => ?_
    have h1' := h1'.1
    have h2' := h2'.1
    refine ⟨_, rfl, wpAny_letOwnedTupleGo_zip (s := { s with heap := h' }) z' fun h'' z'' sb => ?_⟩
    have hT2 : h''.get? s.heap.objs.size = some { cls := .type "tuple", data := .seq #[u, u2] } := (sb.2 _ (Nat.ne_of_gt hzl)).trans hT
    have new : ObjOk X.prog X.w (upd H s.heap.objs.size (.tup [x, y])) h'' s.heap.objs.size (.tup [x, y]) :=
      ⟨by show 2 ≤ sizeLine; decide, [u, u2], .cons ru (.cons ru2 .nil), ⟨_, hT2, rfl, _, rfl⟩⟩
    have I1 : Inv X pins σ (upd H s.heap.objs.size (.tup [x, y])) { s with heap := h'' } :=
      I.turnedNew (t' := s.toks) (ch := [z, TI, TO, i1, i2]) (fun c o hb q => (sb.2 c (fun q' => hb (by simp [q']))).trans (hk c o (fun q' => hb (by simp [q'])) (fun q' => hb (by simp [q'])) (fun q' => hb (by simp [q'])) (fun q' => hb (by simp [q'])) q)) hf (Nat.le_refl _) new
    refine ⟨.ref s.heap.objs.size, _, I1, rfl, ⟨_, x, y, rfl, I.hok.fresh (Nat.le_refl _), rfl, fun l hl => by rw [I.tuple_inj hl hqx]; exact hx, fun l hl => by rw [I.list_inj hl hqy]; exact hy⟩, ⟨z'', ?_, ⟨u, u2, ?_⟩, ?_, ?_⟩, fun c hcm => ?_⟩
    · exact (sb.2 _ D.TIz).trans (hk _ _ D.TIz D.TITO D.TIi1 D.TIi2 hTI)
    · exact (sb.2 _ D.TOz).trans TO'
    · exact h1'.at fun o q => (sb.2 _ D.i1z).trans q
    · exact h2'.at fun o q => (sb.2 _ D.i2z).trans q
    · have hlt : c < s.heap.objs.size := by
        have e' : c = z ∨ c = TI ∨ c = TO ∨ c = i1 ∨ c = i2 := by simpa using hcm
        rcases e' with q | q | q | q | q
        · rw [q]; exact hzl
        · rw [q]; exact Heap.lt_size hTI
        · rw [q]; exact Heap.lt_size hTO
        · rw [q]; obtain ⟨_, e1, _⟩ := h1; exact Heap.lt_size e1
        · rw [q]; obtain ⟨_, e2, _⟩ := h2; exact Heap.lt_size e2
      rw [upd_ne (Nat.ne_of_lt hlt)]
      exact (hf c hcm).1
  done := by
    intro X hP hw hK hc i pins s σ H E I hf st hg
    subst hP hw hK
    obtain ⟨hz, hTI, ⟨x0, y0, hTO⟩, h1, h2⟩ := st
    obtain ⟨xs, ys, hqx, hqy, hend⟩ := hg
    obtain ⟨its, rv, p, _⟩ := I.tuple hqx
    obtain ⟨its2, rv2, p2, _⟩ := I.list hqy
    have l1 := rv.length
    have l2 := rv2.length
    have he : Ended X.prog X.w i1 (JT i1 a i its.toArray) ∨ (∃ J1' x, Gives X.prog X.w i1 (JT i1 a i its.toArray) J1' x) ∧ Ended X.prog X.w i2 (JL i2 b i its2.toArray) := by
      by_cases q : xs.length ≤ i
      · exact .inl (jt_ended (by simp; omega))
      · have q2 : ys.length ≤ i := by omega
        have hi : i < its.length := by omega
        exact .inr ⟨⟨_, its[i], jt_gives D.l1i1 (by simp [hi])⟩, jl_ended (by simp; omega)⟩
    exact pyNext_end (I.ok.hd hc) D hz hTI hTO (J1 := JT i1 a i its.toArray) (J2 := JL i2 b i its2.toArray) ⟨h1, p⟩ ⟨h2, p2.isList⟩ jt_stays jl_stays he fun h' hk => ⟨rfl, I.turnedL (t' := s.toks) (ch := [z, TI, TO, i1, i2]) (fun c o hb q =>
      hk c o (fun q' => hb (by simp [q'])) (fun q' => hb (by simp [q'])) (fun q' => hb (by simp [q'])) (fun q' => hb (by simp [q'])) q) hf⟩
  self := fun A i s Q E st h => wpAny_pyIter_zip st.1 h
/-- zip of two lists, of two tuples, of a tuple and a list -/
def iZipM (K : PySem.W.Frag) (ta : TA) : TI := fun σ H R => ta σ H fun vs H1 => ∃ a b xs ys, vs = [.ref a, .ref b] ∧ ((SqL K H1 a xs ∧ SqL K H1 b ys ∧ R (Itz K a b) H1) ∨ (SqT K H1 a xs ∧ SqT K H1 b ys ∧ R (RZ.ItzT K a b) H1) ∨ (SqT K H1 a xs ∧ SqL K H1 b ys ∧ R (ItzM K a b) H1))
theorem pi_zipM {X : Cx} {e e2 : Expr} {ta : TA} {p pos tpos : Pos} {elts : List Expr} {kk : Nat} (hg : Gl X "zip") (hm : X.mg "zip" = none) (ha : PA X [e, e2] ta)
    (hs : starEach [e, e2] X.env = (false, eval e X.env) :: starEach [e2] X.env := by rfl) (hpl : (backTo pos (starEach [e2] X.env)).any (·.1) = false := by rfl) :
    PI X (.Tuple elts kk tpos) (.Call (.Name "zip" p) [e, e2] [] pos) (iZipM X.K ta) := by
  refine ⟨fun pins s σ H R I h => ?_⟩
  refine Call_ (ld_blt I hg hm PyProof.Rows.boot_zip (PyProof.Rows.callWith_type1 (thn (ha.run pos pins s σ H _ I h) fun us s1 ⟨vs, H1, I1, r1, q1⟩ => ?_) hs hpl))
  obtain ⟨a, b, xs, ys, ex, q1⟩ := q1
  subst ex
  cases r1 with
  | cons r rr =>
    cases rr with
    | cons r' rr =>
      cases rr
      cases r
      cases r'
      have fresh5 : ∀ c, c ∈ [s1.heap.objs.size + 4, s1.heap.objs.size + 2, s1.heap.objs.size + 3, s1.heap.objs.size, s1.heap.objs.size + 1] → FpOk X pins H1 c := fun c hcm => by
        have hle : s1.heap.objs.size ≤ c := by
          simp only [List.mem_cons, List.not_mem_nil, or_false] at hcm
          rcases hcm with z | z | z | z | z <;> subst z <;> first | exact Nat.le_refl _ | exact Nat.le_add_right _ _
        exact I1.fpOk hle (I1.hok.fresh hle)
      rcases q1 with ⟨hqx, hqy, q⟩ | ⟨hqx, hqy, q⟩ | ⟨hqx, hqy, q⟩
      · obtain ⟨its, rv, p1, _⟩ := I1.list hqx
        obtain ⟨its2, rv2, p2, _⟩ := I1.list hqy
        refine call_zip_2 p1.isList p2.isList fun h' hz hTI hTO h1 h2 hsz hk => wpAny_pyIter_zip hz ?_
        have I2 : Inv X pins σ H1 { s1 with heap := h' } := I1.kept (t' := s1.toks) hk
        exact ⟨s1.heap.objs.size + 4, [s1.heap.objs.size + 4, s1.heap.objs.size + 2, s1.heap.objs.size + 3, s1.heap.objs.size, s1.heap.objs.size + 1], _, _, H1, rfl, I2, turn_zip (PySem.W.ktu_apart s1.heap.objs.size a b p1.lt p2.lt), ⟨hz, hTI, ⟨_, _, hTO⟩, h1, h2⟩, fresh5, q⟩
      · obtain ⟨its, rv, p1, _⟩ := I1.tuple hqx
        obtain ⟨its2, rv2, p2, _⟩ := I1.tuple hqy
        obtain ⟨o1, ho1, _⟩ := id p1
        obtain ⟨o2, ho2, _⟩ := id p2
        refine RZ.call_zipT (show s1.heap.IsTuple a its.toArray from p1) (show s1.heap.IsTuple b its2.toArray from p2) fun h' hz hTI hTO h1 h2 hsz hk => wpAny_pyIter_zip hz ?_
        have I2 : Inv X pins σ H1 { s1 with heap := h' } := I1.kept (t' := s1.toks) hk
        exact ⟨s1.heap.objs.size + 4, [s1.heap.objs.size + 4, s1.heap.objs.size + 2, s1.heap.objs.size + 3, s1.heap.objs.size, s1.heap.objs.size + 1], _, _, H1, rfl, I2, RZ.turn_zipT (PySem.W.ktu_apart s1.heap.objs.size a b (Heap.lt_size ho1) (Heap.lt_size ho2)), ⟨hz, hTI, ⟨_, _, hTO⟩, h1, h2⟩, fresh5, q⟩
      · obtain ⟨its, rv, p1, _⟩ := I1.tuple hqx
        obtain ⟨its2, rv2, p2, _⟩ := I1.list hqy
        obtain ⟨o1, ho1, _⟩ := id p1
        refine call_new (show s1.heap.IsTuple a its.toArray from p1) p2.isList fun h' hz hTI hTO h1 h2 hsz hk => wpAny_pyIter_zip hz ?_
        have I2 : Inv X pins σ H1 { s1 with heap := h' } := I1.kept (t' := s1.toks) hk
        exact ⟨s1.heap.objs.size + 4, [s1.heap.objs.size + 4, s1.heap.objs.size + 2, s1.heap.objs.size + 3, s1.heap.objs.size, s1.heap.objs.size + 1], _, _, H1, rfl, I2, turn_zipM (PySem.W.ktu_apart s1.heap.objs.size a b (Heap.lt_size ho1) p2.lt), ⟨hz, hTI, ⟨_, _, hTO⟩, h1, h2⟩, fresh5, q⟩
end RZM
/-! IQ: what is walked; targets of names; comprehensions. -/
namespace IL
open PySem PySem.Spec PyProof.Rows L2

theorem PGs.mono {X : Cx} {tg : List Expr} {t t' : TGs} (h : PGs X tg t) (m : ∀ v σ H R, t' v σ H R → t v σ H R) : PGs X tg t' := ⟨fun pins s σ H v u R I r q => h.run pins s σ H v u R I r (m v σ H R q)⟩
/-- what is walked, at its place; C: what may be relied on of a list's place -/
inductive Wk (K : Frag) (C : Bd) (H : Hp) (ρ : List Addr) (B : Bd) : It → List D → Prop
  | rng {a b : Int} : Wk K C H ρ B (Itr a (b - a).toNat) (rngD a b)
  | rng3 {i c : Int} {n : Nat} : Wk K C H ρ B (Itc i c n) ((List.range n).map fun (m : Nat) => D.int (i + (m : Int) * c))
  | lst {a : Addr} {vs : List V} {ds : List D} : H a = some (.lst vs) → C a → RVs K H ρ B ds vs → Wk K C H ρ B (Itl K a) ds
  | tup {a : Addr} {vs : List V} {ds : List D} : SqT K H a vs → RVs K H ρ B ds vs → Wk K C H ρ B (Itt K a) ds
  | enu {a : Addr} {vs : List V} {ds : List D} : H a = some (.lst vs) → C a → RVs K H ρ B ds vs → Wk K C H ρ B (Ite K a) (enuD 0 ds)
  | enuT {a : Addr} {vs : List V} {ds : List D} : SqT K H a vs → RVs K H ρ B ds vs → Wk K C H ρ B (IteT K a) (enuD 0 ds)
  | zipL {a b : Addr} {vs ws : List V} {ds es : List D} : H a = some (.lst vs) → C a → RVs K H ρ B ds vs → H b = some (.lst ws) → C b → RVs K H ρ B es ws → Wk K C H ρ B (Itz K a b) (zipD ds es)
  | zipT {a b : Addr} {vs ws : List V} {ds es : List D} : SqT K H a vs → RVs K H ρ B ds vs → SqT K H b ws → RVs K H ρ B es ws → Wk K C H ρ B (RZ.ItzT K a b) (zipD ds es)
  | zipM {a b : Addr} {vs ws : List V} {ds es : List D} : SqT K H a vs → RVs K H ρ B ds vs → H b = some (.lst ws) → C b → RVs K H ρ B es ws → Wk K C H ρ B (RZM.ItzM K a b) (zipD ds es)
/-- it stands, what else may have come -/
theorem Wk.step {K : Frag} {C C' : Bd} {H H' : Hp} {ρ ρ' : List Addr} {B B' : Bd} {J : It} {ds : List D} (w : Wk K C H ρ B J ds) (k : ∀ a o, H a = some o → C a → H' a = some o) (c : ∀ a o, H a = some o → C a → C' a) (t : ∀ a vs, SqT K H a vs → SqT K H' a vs)
    (m : ∀ ds vs, RVs K H ρ B ds vs → RVs K H' ρ' B' ds vs) : Wk K C' H' ρ' B' J ds := by
  cases w with
  | rng => exact .rng
  | rng3 => exact .rng3
  | lst h z r => exact .lst (k _ _ h z) (c _ _ h z) (m _ _ r)
  | tup h r => exact .tup (t _ _ h) (m _ _ r)
  | enu h z r => exact .enu (k _ _ h z) (c _ _ h z) (m _ _ r)
  | enuT h r => exact .enuT (t _ _ h) (m _ _ r)
  | zipL h z r h' z' r' => exact .zipL (k _ _ h z) (c _ _ h z) (m _ _ r) (k _ _ h' z') (c _ _ h' z') (m _ _ r')
  | zipT h r h' r' => exact .zipT (t _ _ h) (m _ _ r) (t _ _ h') (m _ _ r')
  | zipM h r h' z' r' => exact .zipM (t _ _ h) (m _ _ r) (k _ _ h' z') (c _ _ h' z') (m _ _ r')
theorem enuD_len : ∀ (n : Nat) (ds : List D), (enuD n ds).length = ds.length
  | _, [] => rfl
  | n, d :: ds => by rw [enuD, List.length_cons, List.length_cons, enuD_len (n + 1) ds]
theorem enuD_get : ∀ (n : Nat) (ds : List D) (i : Nat), (enuD n ds)[i]? = (ds[i]?).map fun d => D.tup [.int ((n + i : Nat) : Int), d]
  | _, [], i => by simp [enuD]
  | n, d :: ds, 0 => by simp [enuD]
  | n, d :: ds, i + 1 => by
    rw [enuD, List.getElem?_cons_succ, List.getElem?_cons_succ, enuD_get (n + 1) ds i]
    have : n + 1 + i = n + (i + 1) := by omega
    rw [this]
theorem zipD_len : ∀ (ds es : List D), (zipD ds es).length = min ds.length es.length
  | [], _ => by simp [zipD]
  | _ :: _, [] => by simp [zipD]
  | d :: ds, e :: es => by rw [zipD, List.length_cons, List.length_cons, List.length_cons, zipD_len ds es]; omega
theorem zipD_get : ∀ {ds es : List D} {i : Nat} {d : D}, (zipD ds es)[i]? = some d → ∃ x y, ds[i]? = some x ∧ es[i]? = some y ∧ d = .tup [x, y]
  | [], _, i, d, h => by simp [zipD] at h
  | _ :: _, [], i, d, h => by simp [zipD] at h
  | x :: ds, y :: es, 0, d, h => by
    rw [zipD, List.getElem?_cons_zero] at h
    cases h
    exact ⟨x, y, by simp, by simp, rfl⟩
  | x :: ds, y :: es, i + 1, d, h => by
    rw [zipD, List.getElem?_cons_succ] at h
    obtain ⟨a, b, h1, h2, h3⟩ := zipD_get h
    exact ⟨a, b, by rw [List.getElem?_cons_succ]; exact h1, by rw [List.getElem?_cons_succ]; exact h2, h3⟩
theorem rngD_get {a b : Int} {i : Nat} {d : D} (h : (rngD a b)[i]? = some d) : i < (b - a).toNat ∧ d = .int (a + i) := by
  unfold rngD at h
  rw [List.getElem?_map] at h
  by_cases hi : i < (b - a).toNat
  · rw [List.getElem?_range hi] at h
    cases h
    exact ⟨hi, rfl⟩
  · rw [List.getElem?_eq_none (by rw [List.length_range]; omega)] at h
    cases h
/-- a new pair at T -/
theorem pair_new {K : Frag} {H : Hp} {ρ : List Addr} {B : Bd} {T : Addr} {x y : V} {d e : D} (trk : ∀ a, a ∈ ρ → H a ≠ none) (hT : H T = none) (r1 : RV K H ρ B d x) (r2 : RV K H ρ B e y) :
    Ext K ρ H ρ (upd H T (.tup [x, y])) ∧ (∀ a ∈ ρ, (upd H T (.tup [x, y])) a = H a) ∧ RV K (upd H T (.tup [x, y])) ρ B (.tup [d, e]) (.ref T) := by
  have ex : Ext K ρ H ρ (upd H T (.tup [x, y])) := Ext.upd_new hT trk
  exact ⟨ex, fun a ha => upd_ne fun q => trk a ha (by rw [q]; exact hT), .tup (SqT.of upd_same) (.cons (RV.mono ex r1) (.cons (RV.mono ex r2) .nil))⟩
/-- a turn -/
theorem Wk.turn {K : Frag} {C : Bd} {H : Hp} {ρ : List Addr} {B : Bd} {J : It} {ds : List D} (w : Wk K C H ρ B J ds) (trk : ∀ a, a ∈ ρ → H a ≠ none) (i : Nat) :
    (ds.length ≤ i → J.stop i H) ∧ ∀ d, ds[i]? = some d → J.go i H ∧ ∀ x H', J.yld i H x H' → Ext K ρ H ρ H' ∧ (∀ a ∈ ρ, H' a = H a) ∧ RV K H' ρ B d x := by
  cases w with
  | rng =>
    refine ⟨fun h => ?_, fun d h => ?_⟩
    · unfold rngD at h
      rw [List.length_map, List.length_range] at h
      exact h
    · obtain ⟨h1, rfl⟩ := rngD_get h
      refine ⟨h1, fun x H' hy => ?_⟩
      obtain ⟨rfl, rfl⟩ := hy
      exact ⟨.refl, fun _ _ => rfl, .int _⟩
  | rng3 =>
    rename_i i0 c0 n0
    refine ⟨fun h => ?_, fun d h => ?_⟩
    · rw [List.length_map, List.length_range] at h
      exact h
    · rw [List.getElem?_map] at h
      obtain ⟨m, hm, rfl⟩ := Option.map_eq_some_iff.mp h
      obtain ⟨h1, h2⟩ := List.getElem?_eq_some_iff.mp hm
      rw [List.length_range] at h1
      rw [List.getElem_range] at h2
      subst h2
      refine ⟨h1, fun x H' hy => ?_⟩
      obtain ⟨rfl, rfl⟩ := hy
      exact ⟨.refl, fun _ _ => rfl, .int _⟩
  | lst h z r =>
    refine ⟨fun hi => ⟨_, SqL.of h, by rw [← r.length]; exact hi⟩, fun d hd => ?_⟩
    obtain ⟨v, hv, rv⟩ := r.get hd
    refine ⟨⟨_, v, SqL.of h, hv⟩, fun x H' hy => ?_⟩
    obtain ⟨rfl, hx⟩ := hy
    have := hx _ (SqL.of h)
    rw [hv] at this; cases this
    exact ⟨.refl, fun _ _ => rfl, rv⟩
  | tup h r =>
    refine ⟨fun hi => ⟨_, h, by rw [← r.length]; exact hi⟩, fun d hd => ?_⟩
    obtain ⟨v, hv, rv⟩ := r.get hd
    refine ⟨⟨_, v, h, hv⟩, fun x H' hy => ?_⟩
    obtain ⟨rfl, hx⟩ := hy
    have := hx _ h
    rw [hv] at this; cases this
    exact ⟨.refl, fun _ _ => rfl, rv⟩
  | enu h z r =>
    refine ⟨fun hi => ⟨_, SqL.of h, by rw [enuD_len] at hi; rw [← r.length]; exact hi⟩, fun d hd => ?_⟩
    rw [enuD_get] at hd
    cases hq : (_ : List D)[i]? with
    | none => rw [hq] at hd; cases hd
    | some d' =>
      rw [hq] at hd
      cases hd
      obtain ⟨v, hv, rv⟩ := r.get hq
      refine ⟨⟨_, v, SqL.of h, hv⟩, fun x H' hy => ?_⟩
      obtain ⟨T, y, rfl, hT, rfl, hx⟩ := hy
      have := hx _ (SqL.of h)
      rw [hv] at this; cases this
      rw [Nat.zero_add]
      exact pair_new trk hT (.int _) rv
  | enuT h r =>
    refine ⟨fun hi => ⟨_, h, by rw [enuD_len] at hi; rw [← r.length]; exact hi⟩, fun d hd => ?_⟩
    rw [enuD_get] at hd
    cases hq : (_ : List D)[i]? with
    | none => rw [hq] at hd; cases hd
    | some d' =>
      rw [hq] at hd
      cases hd
      obtain ⟨v, hv, rv⟩ := r.get hq
      refine ⟨⟨_, v, h, hv⟩, fun x H' hy => ?_⟩
      obtain ⟨T, y, rfl, hT, rfl, hx⟩ := hy
      have := hx _ h
      rw [hv] at this; cases this
      rw [Nat.zero_add]
      exact pair_new trk hT (.int _) rv
  | zipL h z r h' z' r' =>
    refine ⟨fun hi => ⟨_, _, SqL.of h, SqL.of h', ?_⟩, fun d hd => ?_⟩
    · rw [zipD_len] at hi
      rw [← r.length, ← r'.length]
      omega
    · obtain ⟨a', b', h1, h2, rfl⟩ := zipD_get hd
      obtain ⟨v, hv, rv⟩ := r.get h1
      obtain ⟨v', hv', rv'⟩ := r'.get h2
      refine ⟨⟨_, _, v, v', SqL.of h, SqL.of h', hv, hv'⟩, fun x H' hy => ?_⟩
      obtain ⟨T, y, y', rfl, hT, rfl, hx, hx'⟩ := hy
      have := hx _ (SqL.of h)
      rw [hv] at this; cases this
      have := hx' _ (SqL.of h')
      rw [hv'] at this; cases this
      exact pair_new trk hT rv rv'
  | zipT h r h' r' =>
    refine ⟨fun hi => ⟨_, _, h, h', ?_⟩, fun d hd => ?_⟩
    · rw [zipD_len] at hi
      rw [← r.length, ← r'.length]
      omega
    · obtain ⟨a', b', h1, h2, rfl⟩ := zipD_get hd
      obtain ⟨v, hv, rv⟩ := r.get h1
      obtain ⟨v', hv', rv'⟩ := r'.get h2
      refine ⟨⟨_, _, v, v', h, h', hv, hv'⟩, fun x H' hy => ?_⟩
      obtain ⟨T, y, y', rfl, hT, rfl, hx, hx'⟩ := hy
      have := hx _ h
      rw [hv] at this; cases this
      have := hx' _ h'
      rw [hv'] at this; cases this
      exact pair_new trk hT rv rv'
  | zipM h r h' z' r' =>
    refine ⟨fun hi => ⟨_, _, h, SqL.of h', ?_⟩, fun d hd => ?_⟩
    · rw [zipD_len] at hi
      rw [← r.length, ← r'.length]
      omega
    · obtain ⟨a', b', h1, h2, rfl⟩ := zipD_get hd
      obtain ⟨v, hv, rv⟩ := r.get h1
      obtain ⟨v', hv', rv'⟩ := r'.get h2
      refine ⟨⟨_, _, v, v', h, SqL.of h', hv, hv'⟩, fun x H' hy => ?_⟩
      obtain ⟨T, y, y', rfl, hT, rfl, hx, hx'⟩ := hy
      have := hx _ h
      rw [hv] at this; cases this
      have := hx' _ (SqL.of h')
      rw [hv'] at this; cases this
      exact pair_new trk hT rv rv'
/-! ### lists that may be cells -/
inductive Ls (K : Frag) (C : Bd) (H : Hp) (ρ : List Addr) (B : Bd) : Addr → List It1 → EndsI → Prop
  | fz {a : Addr} {vs : List V} {ds : List D} : H a = some (.lst vs) → C a → RVs K H ρ B ds vs → Ls K C H ρ B a (ds.map .d) []
  | cell {a : Addr} {n len : Nat} : ρ[n]? = some a → Ls K C H ρ B a (cellI n len) [(n, len)]
theorem Ls.step {K : Frag} {C C' : Bd} {H H' : Hp} {ρ ρ' : List Addr} {B B' : Bd} {a : Addr} {its : List It1} {ends : EndsI} (w : Ls K C H ρ B a its ends) (k : ∀ a o, H a = some o → C a → H' a = some o) (c : ∀ a o, H a = some o → C a → C' a)
    (m : ∀ ds vs, RVs K H ρ B ds vs → RVs K H' ρ' B' ds vs) (pre : ∀ (n : Nat) (a : Addr), ρ[n]? = some a → ρ'[n]? = some a) : Ls K C' H' ρ' B' a its ends := by
  cases w with
  | fz h z r => exact .fz (k _ _ h z) (c _ _ h z) (m _ _ r)
  | cell h => exact .cell (pre _ _ h)
theorem Ls.item {K : Frag} {C : Bd} {H : Hp} {ρ : List Addr} {B : Bd} {S : Store} {a : Addr} {its : List It1} {ends : EndsI} (w : Ls K C H ρ B a its ends) (rs : RS K H ρ B S) {i : Nat} {it : It1} {d : D} (h : its[i]? = some it) (hr : rdI it S = some d) :
    ∃ vs v, SqL K H a vs ∧ vs[i]? = some v ∧ RV K H ρ B d v := by
  cases w with
  | fz g z r =>
    rw [List.getElem?_map] at h
    obtain ⟨x, hx, rfl⟩ := Option.map_eq_some_iff.mp h
    cases hr
    obtain ⟨v, hv, rv⟩ := r.get hx
    exact ⟨_, v, SqL.of g, hv, rv⟩
  | cell g =>
    rename_i n len
    unfold cellI at h
    rw [List.getElem?_map] at h
    obtain ⟨x, hx, rfl⟩ := Option.map_eq_some_iff.mp h
    have hxi : x = i := by
      have := (List.getElem?_eq_some_iff.mp hx).2
      rw [List.getElem_range] at this
      exact this.symm
    subst hxi
    unfold rdI at hr
    split at hr
    · rename_i ys hS
      split at hr
      · obtain ⟨vs, q1, q2⟩ := cell_lst rs g hS
        obtain ⟨v, hv, rv⟩ := q2.get hr
        exact ⟨vs, v, SqL.of q1, hv, rv⟩
      · cases hr
    · cases hr
theorem Ls.stop {K : Frag} {C : Bd} {H : Hp} {ρ : List Addr} {B : Bd} {S : Store} {a : Addr} {its : List It1} {ends : EndsI} (w : Ls K C H ρ B a its ends) (rs : RS K H ρ B S) {i : Nat} (he : endsOk ends S = true) (hi : its.length ≤ i) :
    ∃ vs : List V, SqL K H a vs ∧ vs.length ≤ i := by
  cases w with
  | fz g z r =>
    rw [List.length_map] at hi
    exact ⟨_, SqL.of g, by rw [← r.length]; exact hi⟩
  | cell g =>
    rename_i n len
    unfold cellI at hi
    rw [List.length_map, List.length_range] at hi
    unfold endsOk at he
    rw [List.all_cons, Bool.and_eq_true] at he
    have he := he.1
    split at he
    · rename_i ys hS
      obtain ⟨vs, q1, q2⟩ := cell_lst rs g hS
      have := of_decide_eq_true he
      exact ⟨vs, SqL.of q1, by rw [← q2.length]; omega⟩
    · cases he
theorem Ls.sq {K : Frag} {C : Bd} {H : Hp} {ρ : List Addr} {B : Bd} {S : Store} {a : Addr} {its : List It1} {ends : EndsI} (w : Ls K C H ρ B a its ends) (rs : RS K H ρ B S) (he : endsOk ends S = true) : ∃ vs : List V, SqL K H a vs := by
  obtain ⟨vs, h, _⟩ := w.stop rs he (Nat.le_refl _)
  exact ⟨vs, h⟩
inductive Wk2 (K : Frag) (C : Bd) (H : Hp) (ρ : List Addr) (B : Bd) : It → List It1 → EndsI → Prop
  | lst {a : Addr} {its : List It1} {ends : EndsI} : Ls K C H ρ B a its ends → Wk2 K C H ρ B (Itl K a) its ends
  | enu {a : Addr} {its : List It1} {ends : EndsI} : Ls K C H ρ B a its ends → Wk2 K C H ρ B (Ite K a) (enuI 0 its) ends
  | zip {a b : Addr} {its its' : List It1} {ends ends' : EndsI} : Ls K C H ρ B a its ends → Ls K C H ρ B b its' ends' → Wk2 K C H ρ B (Itz K a b) (zipI its its') (ends ++ ends')
theorem Wk2.step {K : Frag} {C C' : Bd} {H H' : Hp} {ρ ρ' : List Addr} {B B' : Bd} {J : It} {its : List It1} {ends : EndsI} (w : Wk2 K C H ρ B J its ends) (k : ∀ a o, H a = some o → C a → H' a = some o) (c : ∀ a o, H a = some o → C a → C' a)
    (m : ∀ ds vs, RVs K H ρ B ds vs → RVs K H' ρ' B' ds vs) (pre : ∀ (n : Nat) (a : Addr), ρ[n]? = some a → ρ'[n]? = some a) : Wk2 K C' H' ρ' B' J its ends := by
  cases w with
  | lst h => exact .lst (h.step k c m pre)
  | enu h => exact .enu (h.step k c m pre)
  | zip h h' => exact .zip (h.step k c m pre) (h'.step k c m pre)
theorem enuI_get : ∀ (n : Nat) (ds : List It1) (i : Nat), (enuI n ds)[i]? = (ds[i]?).map fun d => It1.pr (.d (.int ((n + i : Nat) : Int))) d
  | _, [], i => by simp [enuI]
  | n, d :: ds, 0 => by simp [enuI]
  | n, d :: ds, i + 1 => by
    rw [enuI, List.getElem?_cons_succ, List.getElem?_cons_succ, enuI_get (n + 1) ds i]
    have : n + 1 + i = n + (i + 1) := by omega
    rw [this]
theorem enuI_len : ∀ (n : Nat) (ds : List It1), (enuI n ds).length = ds.length
  | _, [] => rfl
  | n, d :: ds => by rw [enuI, List.length_cons, List.length_cons, enuI_len (n + 1) ds]
theorem zipI_len : ∀ (ds es : List It1), (zipI ds es).length = min ds.length es.length
  | [], _ => by simp [zipI]
  | _ :: _, [] => by simp [zipI]
  | d :: ds, e :: es => by rw [zipI, List.length_cons, List.length_cons, List.length_cons, zipI_len ds es]; omega
theorem zipI_get : ∀ {ds es : List It1} {i : Nat} {d : It1}, (zipI ds es)[i]? = some d → ∃ x y, ds[i]? = some x ∧ es[i]? = some y ∧ d = .pr x y
  | [], _, i, d, h => by simp [zipI] at h
  | _ :: _, [], i, d, h => by simp [zipI] at h
  | x :: ds, y :: es, 0, d, h => by
    rw [zipI, List.getElem?_cons_zero] at h
    cases h
    exact ⟨x, y, by simp, by simp, rfl⟩
  | x :: ds, y :: es, i + 1, d, h => by
    rw [zipI, List.getElem?_cons_succ] at h
    obtain ⟨a, b, h1, h2, h3⟩ := zipI_get h
    exact ⟨a, b, by rw [List.getElem?_cons_succ]; exact h1, by rw [List.getElem?_cons_succ]; exact h2, h3⟩
theorem rdI_pr {a b : It1} {S : Store} {d : D} (h : rdI (.pr a b) S = some d) : ∃ x y, rdI a S = some x ∧ rdI b S = some y ∧ d = .tup [x, y] := by
  unfold rdI at h
  split at h
  · rename_i x y h1 h2
    cases h
    exact ⟨x, y, h1, h2, rfl⟩
  · cases h
theorem endsOk_app {a b : EndsI} {S : Store} (h : endsOk (a ++ b) S = true) : endsOk a S = true ∧ endsOk b S = true := by
  unfold endsOk at h ⊢
  rw [List.all_append, Bool.and_eq_true] at h
  exact h
theorem Wk2.turn {K : Frag} {C : Bd} {H : Hp} {ρ : List Addr} {B : Bd} {S : Store} {J : It} {its : List It1} {ends : EndsI} (w : Wk2 K C H ρ B J its ends) (trk : ∀ a, a ∈ ρ → H a ≠ none) (rs : RS K H ρ B S) (i : Nat) :
    (its.length ≤ i → endsOk ends S = true → J.stop i H) ∧ ∀ it d, its[i]? = some it → rdI it S = some d → J.go i H ∧ ∀ x H', J.yld i H x H' → Ext K ρ H ρ H' ∧ (∀ a ∈ ρ, H' a = H a) ∧ RV K H' ρ B d x := by
  cases w with
  | lst l =>
    refine ⟨fun hi he => l.stop rs he hi, fun it d hd hr => ?_⟩
    obtain ⟨vs, v, q1, q2, q3⟩ := l.item rs hd hr
    refine ⟨⟨vs, v, q1, q2⟩, fun x H' hy => ?_⟩
    obtain ⟨rfl, hx⟩ := hy
    have := hx _ q1
    rw [q2] at this; cases this
    exact ⟨.refl, fun _ _ => rfl, q3⟩
  | enu l =>
    refine ⟨fun hi he => l.stop rs he (by rw [enuI_len] at hi; exact hi), fun it d hd hr => ?_⟩
    rw [enuI_get] at hd
    obtain ⟨it', hq, rfl⟩ := Option.map_eq_some_iff.mp hd
    obtain ⟨x1, y1, r1, r2, rfl⟩ := rdI_pr hr
    cases r1
    obtain ⟨vs, v, q1, q2, q3⟩ := l.item rs hq r2
    refine ⟨⟨vs, v, q1, q2⟩, fun x H' hy => ?_⟩
    obtain ⟨T, y, rfl, hT, rfl, hx⟩ := hy
    have := hx _ q1
    rw [q2] at this; cases this
    rw [Nat.zero_add]
    exact pair_new trk hT (.int _) q3
  | zip l l' =>
    refine ⟨fun hi he => ?_, fun it d hd hr => ?_⟩
    · rw [zipI_len] at hi
      obtain ⟨e1, e2⟩ := endsOk_app he
      obtain ⟨vs, q1⟩ := l.sq rs e1
      obtain ⟨ws, q1'⟩ := l'.sq rs e2
      rename_i a b its1 its2 ends1 ends2
      by_cases hm : its1.length ≤ i
      · obtain ⟨vs, q1, q2⟩ := l.stop rs e1 hm
        exact ⟨vs, ws, q1, q1', .inl q2⟩
      · have hm' : its2.length ≤ i := by omega
        obtain ⟨ws, q1', q2'⟩ := l'.stop rs e2 hm'
        exact ⟨vs, ws, q1, q1', .inr q2'⟩
    · obtain ⟨a', b', h1, h2, rfl⟩ := zipI_get hd
      obtain ⟨x1, y1, r1, r2, rfl⟩ := rdI_pr hr
      obtain ⟨vs, v, q1, q2, q3⟩ := l.item rs h1 r1
      obtain ⟨ws, w, q1', q2', q3'⟩ := l'.item rs h2 r2
      refine ⟨⟨vs, ws, v, w, q1, q1', q2, q2'⟩, fun x H' hy => ?_⟩
      obtain ⟨T, y, y', rfl, hT, rfl, hx, hx'⟩ := hy
      have := hx _ q1
      rw [q2] at this; cases this
      have := hx' _ q1'
      rw [q2'] at this; cases this
      exact pair_new trk hT q3 q3'
/-- lists are where nobody writes; cw: not a frame's own either -/
abbrev CW (cw : Bool) (ρ : List Addr) (B : Bd) : Bd := fun a => a ∉ ρ ∧ (cw = true → ¬ B a)
abbrev wI (K : Frag) (cw : Bool) : Wish (List D) It := fun B _ H' ρ' _ ds J => Wk K (CW cw ρ' B) H' ρ' B J ds
theorem down_I {K : Frag} {cw : Bool} : Down K (wI K cw) := fun _ _ _ _ _ _ _ _ _ _ _ _ h => h
abbrev PDI (X : Cx) (cw : Bool) (tg e : Expr) (f : Env → Store → R (List D)) : Prop := PI X tg e (tG X.K (wI X.K cw) f)

section
variable {X : Cx} {tg a b : Expr} {ka kb : Kd} {fa fb : Env → Store → R D} {p pos tpos : Pos} {cw : Bool} {elts : List Expr} {kk : Nat}
theorem star2 (hs : notStar a = true) (hs2 : notStar b = true) {env : PySem.Env} : starEach [a, b] env = [(false, eval a env), (false, eval b env)] := by
  rw [star_cons hs, star_cons hs2]; rfl
theorem pd_rng1 (hg : Gl X "range") (hm : X.mg "range" = none) (hs : notStar a = true) (ha : PDE X ka a fa) : PDI X cw tg (.Call (.Name "range" p) [a] [] pos) (fun v S => (fa v S).bind fun x S1 => match x with | .int n => if rngOk 0 n then .ok (rngD 0 n) S1 else .bad | _ => .bad) := by
  have hA : PA X [a] (tCons (tG X.K (wE X.K ka) fa) tNil) := pa_cons ha pa_nil (star_cons hs)
  refine PI.mono (pi_range1 hg hm hA (star_cons hs)) fun σ H R ⟨env, S, ρ, B, rel, fin⟩ => Fin.bind down_I rel fin fun d1 S1 v1 H1 ρ1 rel1 e1 p1 fin1 => ?_
  split at fin1
  · cases (p1.rw rel.b0).int
    obtain ⟨h, fin1⟩ := ok_if fin1
    refine ⟨_, rfl, h.2.2.1, h.2.2.2, Fin.here rel1 fin1 ?_⟩
    have := Wk.rng (K := X.K) (C := CW cw ρ1 B) (H := H1) (ρ := ρ1) (B := B) (a := 0) (b := (by assumption : Int))
    rw [Int.sub_zero] at this
    exact this
  · exact fin1.elim
theorem pd_rng2 (hg : Gl X "range") (hm : X.mg "range" = none) (hs : notStar a = true) (hs2 : notStar b = true) (ha : PDE X ka a fa) (hb : PDE X kb b fb) : PDI X cw tg (.Call (.Name "range" p) [a, b] [] pos) (fun v S => (fa v S).bind fun x S1 => (fb v S1).bind fun y S2 => match x, y with
    | .int i, .int j => if rngOk i j then .ok (rngD i j) S2 else .bad
    | _, _ => .bad) := by
  have hA : PA X [a, b] (tCons (tG X.K (wE X.K ka) fa) (tCons (tG X.K (wE X.K kb) fb) tNil)) := pa_cons ha (pa_cons hb pa_nil (star_cons hs2)) (star_cons hs)
  refine PI.mono (pi_range2 hg hm hA (star2 hs hs2) (star_cons hs2)) fun σ H R ⟨env, S, ρ, B, rel, fin⟩ => Fin.bind down_I rel fin fun d1 S1 v1 H1 ρ1 rel1 e1 p1 fin1 => Fin.bind down_I rel1 fin1 fun d2 S2 v2 H2 ρ2 rel2 e2 p2 fin2 => ?_
  split at fin2
  · cases (p1.rw rel.b0).int
    cases (p2.rw rel1.b0).int
    obtain ⟨h, fin2⟩ := ok_if fin2
    exact ⟨_, _, rfl, h, Fin.here rel2 fin2 .rng⟩
  · exact fin2.elim
theorem pd_rng3 {c : Expr} {kc : Kd} {fc : Env → Store → R D} (hg : Gl X "range") (hm : X.mg "range" = none) (hs : notStar a = true) (hs2 : notStar b = true) (hs3 : notStar c = true) (ha : PDE X ka a fa) (hb : PDE X kb b fb) (hc : PDE X kc c fc) : PDI X cw tg (.Call (.Name "range" p) [a, b, c] [] pos) (fun v S => (fa v S).bind fun x S1 => (fb v S1).bind fun y S2 => (fc v S2).bind fun z S3 => match x, y, z with
    | .int i, .int j, .int k => if rg3Ok i j k then .ok (rng3D i j k) S3 else .bad
    | _, _, _ => .bad) := by
  have hA : PA X [a, b, c] (tCons (tG X.K (wE X.K ka) fa) (tCons (tG X.K (wE X.K kb) fb) (tCons (tG X.K (wE X.K kc) fc) tNil))) := pa_cons ha (pa_cons hb (pa_cons hc pa_nil (star_cons hs3)) (star_cons hs2)) (star_cons hs)
  refine PI.mono (pi_range3 hg hm hA (star_cons hs) (by rw [star_cons hs2, star_cons hs3]; rfl)) fun σ H R ⟨env, S, ρ, B, rel, fin⟩ => Fin.bind down_I rel fin fun d1 S1 v1 H1 ρ1 rel1 e1 p1 fin1 => Fin.bind down_I rel1 fin1 fun d2 S2 v2 H2 ρ2 rel2 e2 p2 fin2 => Fin.bind down_I rel2 fin2 fun d3 S3 v3 H3 ρ3 rel3 e3 p3 fin3 => ?_
  split at fin3
  · cases (p1.rw rel.b0).int
    cases (p2.rw rel1.b0).int
    cases (p3.rw rel2.b0).int
    obtain ⟨⟨h1, h2, h3, h4⟩, fin3⟩ := ok_if fin3
    exact ⟨_, _, _, _, rfl, ⟨h1, h2, h3, h4⟩, Fin.here rel3 fin3 .rng3⟩
  · exact fin3.elim
theorem cw_of {K : Frag} {H H' : Hp} {ρ' : List Addr} {B : Bd} {S' : Store} {k : Kd} {xs : List D} {v : V} (bt : ∀ a, B a → H a ≠ none) (hk : cw = true → k ≠ .own) (r : RK K k B H H' ρ' S' (.lst xs) v) : ∃ a vs, v = .ref a ∧ H' a = some (.lst vs) ∧ CW cw ρ' B a ∧ RVs K H' ρ' B xs vs := by
  cases cw with
  | false =>
    obtain ⟨a, vs, rfl, h1, h2, h3⟩ := (r.rw bt).lst
    exact ⟨a, vs, rfl, h1, ⟨h2, fun q => by cases q⟩, h3⟩
  | true =>
    cases r.rv bt (hk rfl) with
    | lst h1 h2 h3 h4 => exact ⟨_, _, rfl, h1, ⟨h2, fun _ => h3⟩, h4⟩
theorem CW.mono {K : Frag} {ρ ρ' : List Addr} {H H' : Hp} {B : Bd} {q : Addr} {o : HO} (e : Ext K ρ H ρ' H') (h : H q = some o) (c : CW cw ρ B q) : CW cw ρ' B q :=
  ⟨fun z => (by have := e.new _ z c.1; rw [h] at this; cases this), c.2⟩
theorem pd_enu (hg : Gl X "enumerate") (hm : X.mg "enumerate" = none) (hs : notStar a = true) (hk : cw = true → ka ≠ .own) (ha : PDE X ka a fa) : PDI X cw (.Tuple elts kk tpos) (.Call (.Name "enumerate" p) [a] [] pos) (fun v S => (fa v S).bind fun x S1 => match x with
    | .lst xs => .ok (enuD 0 xs) S1
    | .tup xs => .ok (enuD 0 xs) S1
    | _ => .bad) := by
  have hA : PA X [a] (tCons (tG X.K (wE X.K ka) fa) tNil) := pa_cons ha pa_nil (star_cons hs)
  refine PI.mono (pi_enumA hg hm hA (star_cons hs)) fun σ H R ⟨env, S, ρ, B, rel, fin⟩ => Fin.bind down_I rel fin fun d1 S1 v1 H1 ρ1 rel1 e1 p1 fin1 => ?_
  split at fin1
  · obtain ⟨q, vs, rfl, h1, h2, h3⟩ := cw_of rel.b0 hk p1
    exact ⟨_, _, rfl, .inl ⟨SqL.of h1, Fin.here rel1 fin1 (.enu h1 h2 h3)⟩⟩
  · obtain ⟨q, vs, rfl, h1, h2⟩ := (p1.rw rel.b0).tup
    exact ⟨_, _, rfl, .inr ⟨h1, Fin.here rel1 fin1 (.enuT h1 h2)⟩⟩
  · exact fin1.elim
theorem pd_zip (hg : Gl X "zip") (hm : X.mg "zip" = none) (hs : notStar a = true) (hs2 : notStar b = true) (hk : cw = true → ka ≠ .own) (hk2 : cw = true → kb ≠ .own) (ha : PDE X ka a fa) (hb : PDE X kb b fb) :
    PDI X cw (.Tuple elts kk tpos) (.Call (.Name "zip" p) [a, b] [] pos) (fun v S => (fa v S).bind fun x S1 => (fb v S1).bind fun y S2 => match x, y with
    | .tup xs, .tup ys => .ok (zipD xs ys) S2
    | .lst xs, .lst ys => .ok (zipD xs ys) S2
    | .tup xs, .lst ys => .ok (zipD xs ys) S2
    | _, _ => .bad) := by
  have hA : PA X [a, b] (tCons (tG X.K (wE X.K ka) fa) (tCons (tG X.K (wE X.K kb) fb) tNil)) := pa_cons ha (pa_cons hb pa_nil (star_cons hs2)) (star_cons hs)
  refine PI.mono (RZM.pi_zipM hg hm hA (star_cons hs) (by rw [star_cons hs2]; rfl)) fun σ H R ⟨env, S, ρ, B, rel, fin⟩ => Fin.bind down_I rel fin fun d1 S1 v1 H1 ρ1 rel1 e1 p1 fin1 => Fin.bind down_I rel1 fin1 fun d2 S2 v2 H2 ρ2 rel2 e2 p2 fin2 => ?_
  split at fin2
  · obtain ⟨q, vs, rfl, h1, h2⟩ := (p1.rw rel.b0).tup
    obtain ⟨q', vs', rfl, h1', h2'⟩ := (p2.rw rel1.b0).tup
    exact ⟨_, _, _, _, rfl, .inr (.inl ⟨e2.tup _ _ h1, h1', Fin.here rel2 fin2 (.zipT (e2.tup _ _ h1) (h2.mono e2) h1' h2')⟩)⟩
  · obtain ⟨q, vs, rfl, h1, h2, h3⟩ := cw_of rel.b0 hk p1
    obtain ⟨q', vs', rfl, h1', h2', h3'⟩ := cw_of rel1.b0 hk2 p2
    have h1 := e2.keep _ _ h1 h2.1
    exact ⟨_, _, _, _, rfl, .inl ⟨SqL.of h1, SqL.of h1', Fin.here rel2 fin2 (.zipL h1 (CW.mono e2 (by assumption) h2) (h3.mono e2) h1' h2' h3')⟩⟩
  · obtain ⟨q, vs, rfl, h1, h2⟩ := (p1.rw rel.b0).tup
    obtain ⟨q', vs', rfl, h1', h2', h3'⟩ := cw_of rel1.b0 hk2 p2
    exact ⟨_, _, _, _, rfl, .inr (.inr ⟨e2.tup _ _ h1, SqL.of h1', Fin.here rel2 fin2 (.zipM (e2.tup _ _ h1) (h2.mono e2) h1' h2' h3')⟩)⟩
  · exact fin2.elim
theorem pd_seq (hk : cw = true → ka ≠ .own) (ha : PDE X ka a fa) : PDI X cw tg a (fun v S => (fa v S).bind fun x S1 => match x with
    | .tup xs => .ok xs S1
    | .lst xs => .ok xs S1
    | _ => .bad) := by
  refine PI.mono (PI.or (pi_list ha) (pi_tup ha)) fun σ H R ⟨env, S, ρ, B, rel, fin⟩ => ?_
  obtain ⟨x, S1, hx, fin1⟩ := Fin.okB fin
  split at fin1
  · refine .inr (tG_case rel hx fun v1 H1 ρ1 e1 rel1 p1 => ?_)
    obtain ⟨q, vs, rfl, h1, h2⟩ := (p1.rw rel.b0).tup
    exact ⟨_, rfl, ⟨_, h1⟩, Fin.here rel1 (Fin.step down_I e1 fin1) (.tup h1 h2)⟩
  · refine .inl (tG_case rel hx fun v1 H1 ρ1 e1 rel1 p1 => ?_)
    obtain ⟨q, vs, rfl, h1, h2, h3⟩ := cw_of rel.b0 hk p1
    exact ⟨_, rfl, ⟨_, SqL.of h1⟩, Fin.here rel1 (Fin.step down_I e1 fin1) (.lst h1 h2 h3)⟩
  · exact fin1.elim
abbrev wIC (K : Frag) (cw : Bool) : Wish (List It1 × EndsI) It := fun B _ H' ρ' _ p J => Wk2 K (CW cw ρ' B) H' ρ' B J p.1 p.2
theorem down_IC {K : Frag} {cw : Bool} : Down K (wIC K cw) := fun _ _ _ _ _ _ _ _ _ _ _ _ h => h
abbrev PDIC (X : Cx) (cw : Bool) (tg e : Expr) (f : Env → Store → R (List It1 × EndsI)) : Prop := PI X tg e (tG X.K (wIC X.K cw) f)
theorem lsI_ends {x : D} {S : Store} {p : List It1 × EndsI} (h : lsI x S = some p) : endsOk p.2 S = true := by
  unfold lsI at h
  split at h
  · cases h; rfl
  · split at h
    · rename_i hS
      cases h
      unfold endsOk
      simp [hS]
    · cases h
  · cases h
theorem lsI_of {K : Frag} {B : Bd} {H H' : Hp} {ρ' : List Addr} {S S2 : Store} {k : Kd} {x : D} {v : V} {p : List It1 × EndsI} (bt : ∀ a, B a → H a ≠ none) (hk : cw = true → k ≠ .own) (r : RK K k B H H' ρ' S x v) (h : lsI x S2 = some p) :
    ∃ a, v = .ref a ∧ Ls K (CW cw ρ' B) H' ρ' B a p.1 p.2 := by
  unfold lsI at h
  split at h
  · cases h
    obtain ⟨q, vs, rfl, h1, h2, h3⟩ := cw_of bt hk r
    exact ⟨q, rfl, .fz h1 h2 h3⟩
  · split at h
    · cases h
      obtain ⟨q, rfl, hq⟩ := (r.rw bt).ref
      exact ⟨q, rfl, .cell hq⟩
    · cases h
  · cases h
theorem pd_enuC (hg : Gl X "enumerate") (hm : X.mg "enumerate" = none) (hs : notStar a = true) (hk : cw = true → ka ≠ .own) (ha : PDE X ka a fa) : PDIC X cw (.Tuple elts kk tpos) (.Call (.Name "enumerate" p) [a] [] pos) (fun v S => (fa v S).bind fun x S1 => match lsI x S1 with
    | some p => .ok (enuI 0 p.1, p.2) S1
    | none => .bad) := by
  have hA : PA X [a] (tCons (tG X.K (wE X.K ka) fa) tNil) := pa_cons ha pa_nil (star_cons hs)
  refine PI.mono (pi_enumA hg hm hA (star_cons hs)) fun σ H R ⟨env, S, ρ, B, rel, fin⟩ => Fin.bind down_IC rel fin fun d1 S1 v1 H1 ρ1 rel1 e1 p1 fin1 => ?_
  split at fin1
  · rename_i q hq
    obtain ⟨a1, rfl, l⟩ := lsI_of rel.b0 hk p1 hq
    obtain ⟨vs, hvs⟩ := l.sq rel1.rs (lsI_ends hq)
    exact ⟨_, vs, rfl, .inl ⟨hvs, Fin.here rel1 fin1 (.enu l)⟩⟩
  · exact fin1.elim
theorem pd_seqC (hk : cw = true → ka ≠ .own) (ha : PDE X ka a fa) : PDIC X cw tg a (fun v S => (fa v S).bind fun x S1 => match lsI x S1 with
    | some p => .ok p S1
    | none => .bad) := by
  refine PI.mono (pi_list ha) fun σ H R ⟨env, S, ρ, B, rel, fin⟩ => Fin.bind down_IC rel fin fun d1 S1 v1 H1 ρ1 rel1 e1 p1 fin1 => ?_
  split at fin1
  · rename_i q hq
    obtain ⟨a1, rfl, l⟩ := lsI_of rel.b0 hk p1 hq
    obtain ⟨vs, hvs⟩ := l.sq rel1.rs (lsI_ends hq)
    exact ⟨_, rfl, ⟨vs, hvs⟩, Fin.here rel1 fin1 (.lst l)⟩
  · exact fin1.elim
theorem pd_zipC (hg : Gl X "zip") (hm : X.mg "zip" = none) (hs : notStar a = true) (hs2 : notStar b = true) (hk : cw = true → ka ≠ .own) (hk2 : cw = true → kb ≠ .own) (ha : PDE X ka a fa) (hb : PDE X kb b fb) :
    PDIC X cw (.Tuple elts kk tpos) (.Call (.Name "zip" p) [a, b] [] pos) (fun v S => (fa v S).bind fun x S1 => (fb v S1).bind fun y S2 => match lsI x S2, lsI y S2 with
    | some p, some q => .ok (zipI p.1 q.1, p.2 ++ q.2) S2
    | _, _ => .bad) := by
  have hA : PA X [a, b] (tCons (tG X.K (wE X.K ka) fa) (tCons (tG X.K (wE X.K kb) fb) tNil)) := pa_cons ha (pa_cons hb pa_nil (star_cons hs2)) (star_cons hs)
  refine PI.mono (RZ.pi_zipA hg hm hA (star_cons hs) (by rw [star_cons hs2]; rfl)) fun σ H R ⟨env, S, ρ, B, rel, fin⟩ => Fin.bind down_IC rel fin fun d1 S1 v1 H1 ρ1 rel1 e1 p1 fin1 => Fin.bind down_IC rel1 fin1 fun d2 S2 v2 H2 ρ2 rel2 e2 p2 fin2 => ?_
  split at fin2
  · rename_i q q' hq hq'
    obtain ⟨a1, rfl, l1⟩ := lsI_of rel.b0 hk p1 hq
    obtain ⟨a2, rfl, l2⟩ := lsI_of rel1.b0 hk2 p2 hq'
    have l1 := l1.step (C' := CW cw ρ2 B) (fun a o h c => e2.keep a o h c.1) (fun a o h c => CW.mono e2 h c) (fun _ _ r => r.mono e2) e2.pre
    obtain ⟨vs, hvs⟩ := l1.sq rel2.rs (lsI_ends hq)
    obtain ⟨ws, hws⟩ := l2.sq rel2.rs (lsI_ends hq')
    exact ⟨_, _, vs, ws, rfl, .inl ⟨hvs, hws, Fin.here rel2 fin2 (.zip l1 l2)⟩⟩
  · exact fin2.elim
theorem pj_bad {e : Expr} {f : Env → Store → R (List It1 × EndsI)} (h : ∀ v S, f v S = .bad) : PDIC X cw tg e f :=
  ⟨fun pins s σ H R I q => by
    obtain ⟨env, S, ρ, B, rel, fin⟩ := q
    rw [h] at fin
    exact fin.elim⟩
end
end IL
/-! IR: targets of names; comprehensions. -/
namespace IL
open PySem PySem.Spec PyProof.Rows L2

/-! ### slots forgotten -/
theorem wipe_get (σ : L2.St) : ∀ (vs : List Nat) (j : Nat), (wipe σ vs)[j]? = if j ∈ vs then (σ[j]?).map (fun _ => none) else σ[j]?
  | [], j => by simp [wipe]
  | v :: vs, j => by
    unfold wipe
    by_cases h : v = j
    · subst h
      rw [if_pos List.mem_cons_self]
      by_cases hl : v < σ.length
      · rw [List.getElem?_set_self (by rw [wipe_length]; exact hl), List.getElem?_eq_getElem hl]; rfl
      · rw [List.getElem?_eq_none (by rw [List.length_set, wipe_length]; omega), List.getElem?_eq_none (by omega)]; rfl
    · rw [List.getElem?_set_ne h, wipe_get σ vs j]
      by_cases hm : j ∈ vs
      · rw [if_pos hm, if_pos (List.mem_cons_of_mem _ hm)]
      · rw [if_neg hm, if_neg (fun q => (List.mem_cons.mp q).elim (fun q => h q.symm) hm)]
theorem wipe_wipe (σ : L2.St) (vs : List Nat) : wipe (wipe σ vs) vs = wipe σ vs := by
  apply List.ext_getElem?
  intro j
  rw [wipe_get, wipe_get]
  by_cases h : j ∈ vs
  · rw [if_pos h, if_pos h]
    cases σ[j]? <;> rfl
  · rw [if_neg h, if_neg h]
theorem wipe_set {σ : L2.St} {vs : List Nat} {i : Nat} {o : Option V} (h : i ∈ vs) : wipe (σ.set i o) vs = wipe σ vs := by
  apply List.ext_getElem?
  intro j
  rw [wipe_get, wipe_get]
  by_cases hj : j ∈ vs
  · rw [if_pos hj, if_pos hj]
    by_cases hl : j < σ.length
    · rw [List.getElem?_eq_getElem hl, List.getElem?_eq_getElem (by rw [List.length_set]; exact hl)]; rfl
    · rw [List.getElem?_eq_none (by rw [List.length_set]; omega), List.getElem?_eq_none (by omega)]
  · rw [if_neg hj, if_neg hj, List.getElem?_set_ne (fun q => hj (by rw [← q]; exact h))]
section
variable {K : Frag} {env : Env} {S : Store} {ρ : List Addr} {B : Bd} {σ : L2.St} {H : Hp}
theorem Rel.set {i : Nat} {s : Slot} {o : Option V} (r : Rel K env S ρ B σ H) (h : SlotOk K H ρ B s (some o)) : Rel K (env.set i s) S ρ B (σ.set i o) H where
  eo := fun j t ht => by
    by_cases e : i = j
    · subst e
      have hl : i < env.length := by
        have := (List.getElem?_eq_some_iff.mp ht).1
        rwa [List.length_set] at this
      rw [List.getElem?_set_self hl] at ht
      cases ht
      rw [List.getElem?_set_self (by rw [← r.len]; exact hl)]
      exact h
    · rw [List.getElem?_set_ne e] at ht
      rw [List.getElem?_set_ne e]
      exact r.eo j t ht
  rs := r.rs
  nd := r.nd
  bt := r.bt
  len := by rw [List.length_set, List.length_set]; exact r.len
theorem Rel.wipe (r : Rel K env S ρ B σ H) : ∀ vs : List Nat, Rel K (wipeE env vs) S ρ B (L2.wipe σ vs) H
  | [] => r
  | v :: vs => (Rel.wipe r vs).set .no
/-- a new object, that no value may name -/
theorem Rel.alloc {p : Addr} {o : HO} (rel : Rel K env S ρ B σ H) (hq : H p = none) : Rel K env S ρ (fun b => B b ∨ b = p) σ (upd H p o) := by
  have hqr : p ∉ ρ := fun z => rel.trk p z hq
  refine ⟨fun i s hs => ?_, RS.new hq rel.rs, rel.nd, fun b hb => ?_, rel.len⟩
  · have := (rel.eo i s hs)
    generalize σ[i]? = o' at this
    cases this with
    | no => exact .no
    | val r => exact .val ((r.more (B' := fun b => B b ∨ b = p) fun b u h e => h.elim _root_.id fun r => by subst r; rw [hq] at e; cases e).mono (Ext.upd_new hq rel.trk))
    | own g r b => exact .own (by rw [upd_ne (ne_of_none g hq)]; exact g) (r.new hq rel.trk) (.inl b)
  · rcases hb with hb | rfl
    · obtain ⟨b1, b2⟩ := rel.bt b hb
      exact ⟨by rw [upd_ne (fun z => b1 (by rw [z]; exact hq))]; exact b1, b2⟩
    · exact ⟨by rw [upd_same]; exact fun z => (by cases z), hqr⟩
/-- a forbidden place that is no slot's is written -/
theorem Rel.write {p : Addr} {o u : HO} (rel : Rel K env S ρ B σ H) (hp : B p) (ha : H p = some u) (hu : Wr u) (hs : ∀ (i : Nat) (xs : List D), env[i]? = some (.own xs) → σ[i]? ≠ some (some (.ref p))) : Rel K env S ρ B σ (upd H p o) := by
  refine ⟨fun i s h => ?_, RS.updB (rel.bt p hp).2 hp ha hu rel.rs, rel.nd, fun b hb => ⟨?_, (rel.bt b hb).2⟩, rel.len⟩
  · have g := rel.eo i s h
    have g2 := hs i
    generalize σ[i]? = o' at g g2
    cases g with
    | no => exact .no
    | val r => exact .val (r.upd (.inr hp) ha hu)
    | @own xs vs a h1 r b => exact .own (by rw [upd_ne (fun z => g2 xs h (by rw [z]))]; exact h1) (r.upd (.inr hp) ha hu) b
  · by_cases z : b = p
    · rw [z, upd_same]; exact fun q => (by cases q)
    · rw [upd_ne z]; exact (rel.bt b hb).1
end
theorem Ext.over {K : Frag} {ρ ρ' : List Addr} {H H' : Hp} {p : Addr} {o u : HO} (e : Ext K ρ H ρ' H') (h0 : H p = none) (h1 : H' p = some u) (hu : Wr u) : Ext K ρ H ρ' (upd H' p o) :=
  ⟨e.pre, e.sub, fun b v h hn => by rw [upd_ne (ne_of_none h h0)]; exact e.keep b v h hn, fun b vs h => sqT_upd (e.tup b vs h) h1 hu.1 hu.2, e.new⟩

/-! ### targets of names -/
abbrev RlT := Env → Store → List Addr → Bd → L2.St → Hp → Prop
def SetOk (K : Frag) (Rl : RlT) : Prop := ∀ env S ρ B σ H i d x, Rl env S ρ B σ H → RV K H ρ B d x → Rl (env.set i (.val d)) S ρ B (σ.set i (some x)) H
theorem setOk_rel {K : Frag} : SetOk K (Rel K) := fun _ _ _ _ _ _ _ _ _ r h => r.set (.val h)
def gN (K : Frag) (Rl : RlT) (vs : List Nat) (f : D → Env → Store → R Env) : TG := fun x σ H Q => ∃ env S ρ B d v1, Rl env S ρ B σ H ∧ RV K H ρ B d x ∧ f d env S = .ok v1 S ∧
  ∀ σ', Rl v1 S ρ B σ' H → wipe σ' vs = wipe σ vs → Q σ' H
def gNs (K : Frag) (Rl : RlT) (vs : List Nat) (f : List D → Env → Store → R Env) : TGs := fun xs σ H Q => ∃ env S ρ B ds v1, Rl env S ρ B σ H ∧ RVs K H ρ B ds xs ∧ f ds env S = .ok v1 S ∧
  ∀ σ', Rl v1 S ρ B σ' H → wipe σ' vs = wipe σ vs → Q σ' H
theorem bind_ok {α β : Type} {r : R α} {f : α → Store → R β} {b : β} {S : Store} (h : r.bind f = .ok b S) : ∃ a S1, r = .ok a S1 ∧ f a S1 = .ok b S := by
  cases r with
  | ok a S1 => exact ⟨a, S1, rfl, h⟩
  | exc _ _ _ => cases h
  | bad => cases h
theorem asgN_both (t : E) : (∀ {d : D} {v v1 : Env} {S S1 : Store}, asgN t d v S = .ok v1 S1 → S1 = S) ∧ (∀ {d : List D} {v v1 : Env} {S S1 : Store}, asgNs t d v S = .ok v1 S1 → S1 = S) := by
  induction t with
  | var i => exact ⟨fun h => (by unfold asgN at h; cases h; rfl), fun h => (by unfold asgNs at h; cases h)⟩
  | tup es ih =>
    refine ⟨fun {d} _ _ _ _ h => ?_, fun h => (by unfold asgNs at h; cases h)⟩
    unfold asgN at h
    split at h
    · exact ih.2 h
    · cases h
  | nl =>
    refine ⟨fun h => (by unfold asgN at h; cases h), fun {d} _ _ _ _ h => ?_⟩
    unfold asgNs at h
    cases d with
    | nil => cases h; rfl
    | cons d ds => cases h
  | cs a b iha ihb =>
    refine ⟨fun h => (by unfold asgN at h; cases h), fun {d} _ _ _ _ h => ?_⟩
    unfold asgNs at h
    cases d with
    | nil => cases h
    | cons d ds =>
      obtain ⟨v2, S2, h1, h2⟩ := bind_ok h
      rw [ihb.2 h2, iha.1 h1]
  | _ => exact ⟨fun h => (by unfold asgN at h; cases h), fun h => (by unfold asgNs at h; cases h)⟩
theorem asgN_S {t : E} {d : D} {v v1 : Env} {S S1 : Store} (h : asgN t d v S = .ok v1 S1) : S1 = S := (asgN_both t).1 h
theorem asgNs_S {t : E} {d : List D} {v v1 : Env} {S S1 : Store} (h : asgNs t d v S = .ok v1 S1) : S1 = S := (asgN_both t).2 h
theorem asgNs_len (t : E) : ∀ {tgs : List Expr} {N : List Str} {sc : Scope} {fn : Str → Bool} {d : List D} {v v1 : Env} {S S1 : Store}, chkTs N sc fn tgs t = true → asgNs t d v S = .ok v1 S1 → d.length = tgs.length := by
  induction t with
  | nl =>
    intro tgs N sc fn d v v1 S S1 c h
    unfold asgNs at h
    unfold chkTs at c
    cases d with
    | cons d ds => cases h
    | nil =>
      cases tgs with
      | nil => rfl
      | cons e es => cases c
  | cs a b iha ihb =>
    intro tgs N sc fn d v v1 S S1 c h
    unfold asgNs at h
    unfold chkTs at c
    cases d with
    | nil => cases h
    | cons d ds =>
      cases tgs with
      | nil => cases c
      | cons e es =>
        obtain ⟨v2, S2, h1, h2⟩ := bind_ok h
        have c2 : (notStar e && chkT N sc fn e a && chkTs N sc fn es b) = true := c
        rw [Bool.and_eq_true] at c2
        rw [List.length_cons, List.length_cons, ihb c2.2 h2]
  | _ =>
    intro tgs N sc fn d v v1 S S1 c h
    unfold asgNs at h
    cases h
theorem asg_cons {e : Expr} {es : List Expr} {env : PySem.Env} (h : notStar e = true) : assignEach (e :: es) env = (false, assign e env) :: assignEach es env := by
  cases e <;> first | rfl | cases h
theorem asg_all : ∀ {es : List Expr} {env : PySem.Env}, es.all notStar = true → (assignEach es env).length = es.length ∧ (assignEach es env).findIdx? (·.1) = none
  | [], _, _ => ⟨rfl, rfl⟩
  | e :: es, env, h => by
    rw [List.all_cons, Bool.and_eq_true] at h
    obtain ⟨h1, h2⟩ := asg_all (env := env) h.2
    rw [asg_cons h.1]
    refine ⟨by rw [List.length_cons, List.length_cons, h1], ?_⟩
    rw [List.findIdx?_cons, h2]
    rfl
theorem chkTs_all (t : E) : ∀ {tgs : List Expr} {N : List Str} {sc : Scope} {fn : Str → Bool}, chkTs N sc fn tgs t = true → tgs.all notStar = true := by
  induction t with
  | nl =>
    intro tgs N sc fn c
    unfold chkTs at c
    cases tgs with
    | nil => rfl
    | cons e es => cases c
  | cs a b iha ihb =>
    intro tgs N sc fn c
    unfold chkTs at c
    cases tgs with
    | nil => cases c
    | cons e es =>
      have c2 : (notStar e && chkT N sc fn e a && chkTs N sc fn es b) = true := c
      rw [Bool.and_eq_true, Bool.and_eq_true] at c2
      rw [List.all_cons, c2.1.1, ihb c2.2]
      rfl
  | _ =>
    intro tgs N sc fn c
    unfold chkTs at c
    cases c
theorem loc_of {N : List Str} {sc : Scope} {fn : Str → Bool} {i : Nat} {x : Str} (h : locB N sc fn i x = true) : N[i]? = some x ∧ L2.Loc sc x ∧ (fn x = true ∨ sc.names.lookup x = some .local) := by
  unfold locB at h
  rw [Bool.and_eq_true, decide_eq_true_eq] at h
  refine ⟨h.1, ?_⟩
  have h2 := h.2
  unfold L2.Loc
  split at h2
  · exact ⟨.inl ‹_›, .inr ‹_›⟩
  · exact ⟨.inr ‹_›, .inl h2⟩
  · cases h2
/-- a target of names -/
theorem tgt_both {X : Cx} {Rl : RlT} {vs : List Nat} (hN : X.N.Nodup) (hc : X.calm = true) (hR : SetOk X.K Rl) (t : E) : (∀ i ∈ slotsOf t, i ∈ vs) →
    (∀ tg, chkT X.N X.env.scope X.fn tg t = true → PG X tg (gN X.K Rl vs (asgN t))) ∧ (∀ tgs, chkTs X.N X.env.scope X.fn tgs t = true → PGs X tgs (gNs X.K Rl vs (asgNs t))) := by
  induction t with
  | var i =>
    intro hv
    refine ⟨fun tg c => ?_, fun tgs c => (by unfold chkTs at c; cases c)⟩
    unfold chkT at c
    cases tg with
    | Name x p =>
      obtain ⟨h1, h2, h3⟩ := loc_of c
      refine PG.mono (pg_name hN h1 h2 h3) fun v σ H Q ⟨env, S, ρ, B, d, v1, rl, rv, hf, h⟩ => ?_
      unfold asgN at hf
      cases hf
      exact h _ (hR _ _ _ _ _ _ _ _ _ rl rv) (wipe_set (hv i (by simp [slotsOf])))
    | _ => cases c
  | tup es ih =>
    intro hv
    refine ⟨fun tg c => ?_, fun tgs c => (by unfold chkTs at c; cases c)⟩
    unfold chkT at c
    cases tg with
    | Tuple es' k p =>
      have c : chkTs X.N X.env.scope X.fn es' es = true := c
      obtain ⟨h1, h2⟩ := asg_all (env := X.env) (chkTs_all es c)
      refine PG.mono (pg_tup hc ((ih (fun i hi => hv i (by unfold slotsOf; exact hi))).2 es' c) h1 h2) fun v σ H Q ⟨env, S, ρ, B, d, v1, rl, rv, hf, h⟩ => ?_
      unfold asgN at hf
      split at hf
      · rename_i xs
        obtain ⟨a, ws, rfl, g1, g2⟩ := (RV.rw rv).tup
        refine ⟨a, ws, rfl, g1, ?_, env, S, ρ, B, xs, v1, rl, g2, hf, h⟩
        rw [← g2.length]
        exact asgNs_len es c hf
      · cases hf
    | _ => cases c
  | nl =>
    intro hv
    refine ⟨fun tg c => (by unfold chkT at c; cases c), fun tgs c => ?_⟩
    unfold chkTs at c
    cases tgs with
    | nil =>
      refine PGs.mono pgs_nil fun v σ H Q ⟨env, S, ρ, B, d, v1, rl, rv, hf, h⟩ => ?_
      unfold asgNs at hf
      cases d with
      | nil =>
        cases hf
        cases rv
        exact ⟨rfl, h σ rl rfl⟩
      | cons d ds => cases hf
    | cons e es => cases c
  | cs a b iha ihb =>
    intro hv
    refine ⟨fun tg c => (by unfold chkT at c; cases c), fun tgs c => ?_⟩
    unfold chkTs at c
    cases tgs with
    | nil => cases c
    | cons e es =>
      have c2 : (notStar e && chkT X.N X.env.scope X.fn e a && chkTs X.N X.env.scope X.fn es b) = true := c
      rw [Bool.and_eq_true, Bool.and_eq_true] at c2
      have h1 := (iha (fun i hi => hv i (by unfold slotsOf; exact List.mem_append_left _ hi))).1 e c2.1.2
      have h2 := (ihb (fun i hi => hv i (by unfold slotsOf; exact List.mem_append_right _ hi))).2 es c2.2
      refine PGs.mono (pgs_cons h1 h2 (by rw [asg_cons c2.1.1]; rfl)) fun v σ H Q ⟨env, S, ρ, B, d, v1, rl, rv, hf, h⟩ => ?_
      unfold asgNs at hf
      cases rv with
      | nil => cases hf
      | cons r rs =>
        obtain ⟨v2, S2, q1, q2⟩ := bind_ok hf
        have := asgN_S q1
        subst this
        exact ⟨_, _, rfl, env, S2, ρ, B, _, v2, rl, r, q1, fun σ' rl' w' => ⟨v2, S2, ρ, B, _, v1, rl', rs, q2, fun σ2 rl2 w2 => h σ2 rl2 (w2.trans w')⟩⟩
  | _ =>
    intro hv
    exact ⟨fun tg c => (by unfold chkT at c; cases c), fun tgs c => (by unfold chkTs at c; cases c)⟩
end IL
/-! IS: comprehensions. -/
namespace IL
open PySem PySem.Spec PyProof.Rows L2

/-- one turn of a comprehension -/
abbrev stepD (vs : List Nat) (ft : D → Env → Store → R Env) (fc : Env → Store → R Bool) (fe : Env → Store → R D) (v : Env) (d : D) (S2 : Store) : R (Option D) :=
  (ft d (wipeE v vs) S2).bind fun v1 S3 => (fc v1 S3).bind fun b S4 => if b = true then (fe v1 S4).bind fun x S5 => .ok (some x) S5 else .ok none S4
abbrev compD (vs : List Nat) (fi : Env → Store → R (List D)) (ft : D → Env → Store → R Env) (fc : Env → Store → R Bool) (fe : Env → Store → R D) : Env → Store → R D :=
  fun v S => (fi v S).bind fun ds S1 => compF (stepD vs ft fc fe v) ds [] S1
theorem compF_len {g : D → Store → R (Option D)} : ∀ {ds : List D} {acc : List D} {S S' : Store} {d : D}, compF g ds acc S = .ok d S' → acc.length ≤ sizeLine
  | [], acc, S, S', d, h => by
    unfold compF at h
    split at h
    · assumption
    · cases h
  | x :: ds, acc, S, S', d, h => by
    unfold compF at h
    obtain ⟨o, S1, h1, h2⟩ := bind_ok h
    cases o with
    | some y =>
      have := compF_len h2
      rw [List.length_append] at this
      exact Nat.le_trans (Nat.le_add_right _ _) this
    | none => exact compF_len h2
theorem Fin.ok {α β : Type} {K : Frag} {B : Bd} {ρ : List Addr} {H : Hp} {P : Wish α β} {r : R α} {Q : β → Hp → Prop} (h : Fin K B ρ H P r Q) : ∃ a S1, r = .ok a S1 := by
  cases r with
  | ok a S1 => exact ⟨a, S1, rfl⟩
  | exc _ _ _ => exact h.elim
  | bad => exact h.elim
section
variable {K : Frag} {vs : List Nat} {fi : Env → Store → R (List D)} {ft : D → Env → Store → R Env} {fc : Env → Store → R Bool} {fe : Env → Store → R D} {cw : Bool} {k : Kd}
/-- at turn i of a comprehension, its list at D -/
structure LcW (K : Frag) (k : Kd) (vs : List Nat) (ft : D → Env → Store → R Env) (fc : Env → Store → R Bool) (fe : Env → Store → R D) (env : Env) (σ : L2.St) (B : Bd) (ρ1 : List Addr) (H1 : Hp) (J : It) (ds : List D) (Q : VK) (D : Addr)
    (i m : Nat) (H : Hp) (S : Store) (ρ : List Addr) (acc : List IL.D) (avs : List V) : Prop where
  rel : Rel K (wipeE env vs) S ρ (fun b => B b ∨ b = D) (wipe σ vs) H
  ext : Ext K ρ1 H1 ρ H
  hd : H D = some (.lst avs)
  ra : RVs K H ρ (fun b => B b ∨ b = D) acc avs
  wk : Wk K (fun a => a ∉ ρ ∧ a ≠ D) H ρ (fun b => B b ∨ b = D) J ds
  le : i ≤ ds.length
  ms : m = ds.length - i
  own : ∀ (i : Nat) (xs : List IL.D), (wipeE env vs)[i]? = some (.own xs) → (wipe σ vs)[i]? ≠ some (some (.ref D))
  fin : Fin K B ρ1 H1 (wE K k) (compF (stepD vs ft fc fe env) (ds.drop i) acc S) Q
theorem wipeE_get : ∀ {vs : List Nat} {env : Env} {i : Nat} {xs : List D}, (wipeE env vs)[i]? = some (.own xs) → env[i]? = some (.own xs) ∧ i ∉ vs
  | [], _, _, _, h => ⟨h, by simp⟩
  | v :: vs, env, i, xs, h => by
    unfold wipeE at h
    by_cases hi : v = i
    · subst hi
      have hl := (List.getElem?_eq_some_iff.mp h).1
      rw [List.length_set] at hl
      rw [List.getElem?_set_self hl] at h
      cases h
    · rw [List.getElem?_set_ne hi] at h
      obtain ⟨h1, h2⟩ := wipeE_get h
      exact ⟨h1, fun q => (List.mem_cons.mp q).elim (fun q => hi q.symm) h2⟩
theorem LcW.step {env : Env} {σ : L2.St} {B : Bd} {ρ1 : List Addr} {H1 : Hp} {J : It} {ds : List D} {Q : VK} {D : Addr} {i m : Nat} {H : Hp} {S : Store} {ρ : List Addr} {acc : List IL.D} {avs : List V}
    (hft : ∀ d v S v1 S1, ft d v S = .ok v1 S1 → S1 = S) (hD : H1 D = none) (hB : ∀ a, B a → H1 a ≠ none) (h : LcW K k vs ft fc fe env σ B ρ1 H1 J ds Q D i m H S ρ acc avs) :
    (J.stop i H ∧ Q (.ref D) H) ∨ (J.go i H ∧ ∃ Nx : Hp → Prop, (∀ H', Nx H' → ∃ m', m' < m ∧ ∃ S ρ acc avs, LcW K k vs ft fc fe env σ B ρ1 H1 J ds Q D (i + 1) m' H' S ρ acc avs) ∧ ∀ x H', J.yld i H x H' → gN K (Rel K) vs ft x (wipe σ vs) H' fun σ2 H2 => wipe σ2 vs = wipe σ vs ∧ tG K wT fc σ2 H2 fun b H3 =>
      if b = true then tG K (wE K .val) fe σ2 H3 fun y H4 => ∃ acc, H4 D = some (.lst acc) ∧ acc.length < sizeLine ∧ Nx (upd H4 D (.lst (acc ++ [y]))) else Nx H3) := by
  obtain ⟨rel, ext, hd, ra, wk, le, ms, own, fin⟩ := h
  obtain ⟨t1, t2⟩ := wk.turn rel.trk i
  have hDρ : D ∉ ρ := (rel.bt D (.inr rfl)).2
  have hBD : ¬ B D := fun q => hB D q hD
  by_cases hi : i < ds.length
  · have hget : ds[i]? = some ds[i] := List.getElem?_eq_getElem hi
    obtain ⟨g1, g2⟩ := t2 _ hget
    rw [List.drop_eq_getElem_cons hi] at fin
    generalize ds[i] = d at hget g2 fin
    unfold compF at fin
    obtain ⟨o, S', hs, fin⟩ := Fin.okB fin
    obtain ⟨v1, S1, q1, q2⟩ := bind_ok hs
    have := hft _ _ _ _ _ q1
    subst this
    obtain ⟨b, S2, q3, q4⟩ := bind_ok q2
    refine .inr ⟨g1, fun H' => ∃ S ρ acc avs, LcW K k vs ft fc fe env σ B ρ1 H1 J ds Q D (i + 1) (ds.length - (i + 1)) H' S ρ acc avs, fun H' hn => ⟨_, by omega, hn⟩, fun x H' hy => ?_⟩
    obtain ⟨ey, hc, rx⟩ := g2 x H' hy
    have rel' := rel.mono ey (RS.ext ey hc rel.rs) rel.nd
    have hd' : H' D = some (.lst avs) := ey.keep _ _ hd hDρ
    refine ⟨_, _, _, _, d, v1, rel', rx, q1, fun σ2 rel2 hw => ⟨by rw [hw, wipe_wipe], tG_case rel2 q3 fun b' H3 ρ3 e3 rel3 p3 => ?_⟩⟩
    have p3 : b = b' := p3
    subst p3
    -- what stands after the tests, or after the item
    have stand : ∀ {S4 : Store} {ρ4 : List Addr} {H4 : Hp}, Ext K ρ H' ρ4 H4 → RS K H4 ρ4 (fun b => B b ∨ b = D) S4 → ρ4.Nodup →
        Rel K (wipeE env vs) S4 ρ4 (fun b => B b ∨ b = D) (wipe σ vs) H4 ∧ H4 D = some (.lst avs) ∧ RVs K H4 ρ4 (fun b => B b ∨ b = D) acc avs ∧ Wk K (fun a => a ∉ ρ4 ∧ a ≠ D) H4 ρ4 (fun b => B b ∨ b = D) J ds := fun e4 rs4 nd4 =>
      ⟨rel'.mono e4 rs4 nd4, e4.keep _ _ hd' hDρ, (ra.mono ey).mono e4, (wk.step (C' := fun a => a ∉ ρ ∧ a ≠ D) (fun a o h c => ey.keep _ _ h c.1) (fun a o h c => c) ey.tup (fun _ _ r => r.mono ey)).step (fun a o h c => e4.keep _ _ h c.1) (fun a o h c => ⟨fun z => (by have := e4.new _ z c.1; rw [h] at this; cases this), c.2⟩) e4.tup (fun _ _ r => r.mono e4)⟩
    cases b with
    | false =>
      cases q4
      obtain ⟨w1, w2, w3, w4⟩ := stand e3 rel3.rs rel3.nd
      exact ⟨_, _, acc, avs, w1, ext.trans (ey.trans e3), w2, w3, w4, hi, rfl, own, fin⟩
    | true =>
      obtain ⟨y', S5, q5, q6⟩ := bind_ok q4
      cases q6
      refine tG_case rel3 q5 fun y H4 ρ4 e4 rel4 p4 => ?_
      obtain ⟨w1, w2, w3, w4⟩ := stand (e3.trans e4) rel4.rs rel4.nd
      have hDρ4 : D ∉ ρ4 := (rel4.bt D (.inr rfl)).2
      have hlen : avs.length < sizeLine := by
        obtain ⟨a, S6, q7⟩ := Fin.ok fin
        have := compF_len q7
        rw [List.length_append, ra.length] at this
        exact this
      have p4 : RV K H4 ρ4 (fun b => B b ∨ b = D) y' y := p4
      refine ⟨avs, w2, hlen, _, _, acc ++ [y'], avs ++ [y], w1.write (.inr rfl) w2 wr_lst own, ?_, upd_same, (w3.append (.cons p4 .nil)).upd (.inr (.inr rfl)) w2 wr_lst, ?_, hi, rfl, own, fin⟩
      · exact Ext.over (ext.trans (ey.trans (e3.trans e4))) hD w2 wr_lst
      · exact w4.step (fun a o h c => by rw [upd_ne c.2]; exact h) (fun a o h c => c) (fun a ws h => sqT_upd h w2 wr_lst.1 wr_lst.2) (fun _ _ r => r.upd (.inr (.inr rfl)) w2 wr_lst)
  · refine .inl ⟨t1 (Nat.le_of_not_lt hi), ?_⟩
    rw [List.drop_eq_nil_of_le (Nat.le_of_not_lt hi)] at fin
    unfold compF at fin
    obtain ⟨_, fin⟩ := ok_if fin
    refine fin _ _ ρ ext rel.nd (rel.rs.less fun b q => .inl q) ?_
    cases k with
    | fr => exact ⟨D, avs, rfl, hD, hd, hDρ, ra, rel.rs⟩
    | val => exact .lst hd hDρ hBD (ra.less fun b q => .inl q)
    | own => exact ⟨D, avs, rfl, hd, hDρ, ra.less fun b q => .inl q⟩
theorem lc_sem {σ : L2.St} {H : Hp} {Q : VK} (hft : ∀ d v S v1 S1, ft d v S = .ok v1 S1 → S1 = S) (h : tG K (wE K k) (compD vs fi ft fc fe) σ H Q) :
    tLc (tG K (wI K cw) fi) (gN K (Rel K) vs ft) (tG K wT fc) (tG K (wE K .val) fe) vs σ H Q := by
  obtain ⟨env, S, ρ, B, rel, fin⟩ := h
  refine Fin.bind down_E rel fin fun ds S1 J H1 ρ1 rel1 e1 w fin1 => fun D hD => ?_
  have hB := rel1.b0
  refine ⟨fun i m H => ∃ S ρ acc avs, LcW K k vs ft fc fe env σ B ρ1 H1 J ds Q D i m H S ρ acc avs, ⟨ds.length, S1, ρ1, [], [], ?_⟩, fun i m H ⟨S, ρ, acc, avs, h⟩ => h.step hft hD hB⟩
  have hDρ : D ∉ ρ1 := fun z => rel1.trk D z hD
  have ex : Ext K ρ1 H1 ρ1 (upd H1 D (.lst [])) := Ext.upd_new hD rel1.trk
  refine ⟨(rel1.wipe vs).alloc hD, ex, upd_same, .nil, ?_, Nat.zero_le _, rfl, fun i xs hx hs => ?_, by rw [List.drop_zero]; exact fin1⟩
  · exact w.step (fun a o h c => by rw [upd_ne (ne_of_none h hD)]; exact h) (fun a o h c => ⟨c.1, ne_of_none h hD⟩) ex.tup (fun _ _ r => RVs.new hD rel1.trk r)
  · obtain ⟨h1, h2⟩ := wipeE_get hx
    have g := rel1.eo i _ h1
    rw [wipe_get, if_neg h2] at hs
    rw [hs] at g
    cases g with
    | own h _ _ => rw [hD] at h; cases h
end
section
variable {K : Frag} {vs : List Nat} {fj : Env → Store → R (List It1 × EndsI)} {ft : D → Env → Store → R Env} {fc : Env → Store → R Bool} {fe : Env → Store → R D} {cw : Bool} {k : Kd}
abbrev compDC (vs : List Nat) (fj : Env → Store → R (List It1 × EndsI)) (ft : D → Env → Store → R Env) (fc : Env → Store → R Bool) (fe : Env → Store → R D) : Env → Store → R D :=
  fun v S => (fj v S).bind fun p S1 => compC (stepD vs ft fc fe v) p.2 p.1 [] S1
theorem compC_len {g : D → Store → R (Option D)} {ends : EndsI} : ∀ {its : List It1} {acc : List D} {S S' : Store} {d : D}, compC g ends its acc S = .ok d S' → acc.length ≤ sizeLine
  | [], acc, S, S', d, h => by
    unfold compC at h
    split at h
    · rename_i q; exact q.2
    · cases h
  | x :: ds, acc, S, S', d, h => by
    unfold compC at h
    split at h
    · obtain ⟨o, S1, h1, h2⟩ := bind_ok h
      cases o with
      | some y =>
        have := compC_len h2
        rw [List.length_append] at this
        exact Nat.le_trans (Nat.le_add_right _ _) this
      | none => exact compC_len h2
    · cases h
/-- at turn i of a comprehension, its list at D -/
structure LcC (K : Frag) (k : Kd) (vs : List Nat) (ft : D → Env → Store → R Env) (fc : Env → Store → R Bool) (fe : Env → Store → R D) (env : Env) (σ : L2.St) (B : Bd) (ρ1 : List Addr) (H1 : Hp) (J : It) (its : List It1) (ends : EndsI) (Q : VK) (D : Addr)
    (i m : Nat) (H : Hp) (S : Store) (ρ : List Addr) (acc : List IL.D) (avs : List V) : Prop where
  rel : Rel K (wipeE env vs) S ρ (fun b => B b ∨ b = D) (wipe σ vs) H
  ext : Ext K ρ1 H1 ρ H
  hd : H D = some (.lst avs)
  ra : RVs K H ρ (fun b => B b ∨ b = D) acc avs
  wk : Wk2 K (fun a => a ∉ ρ ∧ a ≠ D) H ρ (fun b => B b ∨ b = D) J its ends
  le : i ≤ its.length
  ms : m = its.length - i
  own : ∀ (i : Nat) (xs : List IL.D), (wipeE env vs)[i]? = some (.own xs) → (wipe σ vs)[i]? ≠ some (some (.ref D))
  fin : Fin K B ρ1 H1 (wE K k) (compC (stepD vs ft fc fe env) ends (its.drop i) acc S) Q
theorem LcC.step {env : Env} {σ : L2.St} {B : Bd} {ρ1 : List Addr} {H1 : Hp} {J : It} {its : List It1} {ends : EndsI} {Q : VK} {D : Addr} {i m : Nat} {H : Hp} {S : Store} {ρ : List Addr} {acc : List IL.D} {avs : List V}
    (hft : ∀ d v S v1 S1, ft d v S = .ok v1 S1 → S1 = S) (hD : H1 D = none) (hB : ∀ a, B a → H1 a ≠ none) (h : LcC K k vs ft fc fe env σ B ρ1 H1 J its ends Q D i m H S ρ acc avs) :
    (J.stop i H ∧ Q (.ref D) H) ∨ (J.go i H ∧ ∃ Nx : Hp → Prop, (∀ H', Nx H' → ∃ m', m' < m ∧ ∃ S ρ acc avs, LcC K k vs ft fc fe env σ B ρ1 H1 J its ends Q D (i + 1) m' H' S ρ acc avs) ∧ ∀ x H', J.yld i H x H' → gN K (Rel K) vs ft x (wipe σ vs) H' fun σ2 H2 => wipe σ2 vs = wipe σ vs ∧ tG K wT fc σ2 H2 fun b H3 =>
      if b = true then tG K (wE K .val) fe σ2 H3 fun y H4 => ∃ acc, H4 D = some (.lst acc) ∧ acc.length < sizeLine ∧ Nx (upd H4 D (.lst (acc ++ [y]))) else Nx H3) := by
  obtain ⟨rel, ext, hd, ra, wk, le, ms, own, fin⟩ := h
  obtain ⟨t1, t2⟩ := wk.turn rel.trk rel.rs i
  have hDρ : D ∉ ρ := (rel.bt D (.inr rfl)).2
  have hBD : ¬ B D := fun q => hB D q hD
  by_cases hi : i < its.length
  · have hget : its[i]? = some its[i] := List.getElem?_eq_getElem hi
    rw [List.drop_eq_getElem_cons hi] at fin
    generalize its[i] = it at hget fin
    unfold compC at fin
    cases hrd : rdI it S with
    | none => rw [hrd] at fin; exact fin.elim
    | some d =>
    rw [hrd] at fin
    obtain ⟨g1, g2⟩ := t2 _ d hget hrd
    have fin : Fin K B ρ1 H1 (wE K k) ((stepD vs ft fc fe env d S).bind fun o S1 => match o with
      | some x => compC (stepD vs ft fc fe env) ends (its.drop (i + 1)) (acc ++ [x]) S1
      | none => compC (stepD vs ft fc fe env) ends (its.drop (i + 1)) acc S1) Q := fin
    obtain ⟨o, S', hs, fin⟩ := Fin.okB fin
    obtain ⟨v1, S1, q1, q2⟩ := bind_ok hs
    have := hft _ _ _ _ _ q1
    subst this
    obtain ⟨b, S2, q3, q4⟩ := bind_ok q2
    refine .inr ⟨g1, fun H' => ∃ S ρ acc avs, LcC K k vs ft fc fe env σ B ρ1 H1 J its ends Q D (i + 1) (its.length - (i + 1)) H' S ρ acc avs, fun H' hn => ⟨_, by omega, hn⟩, fun x H' hy => ?_⟩
    obtain ⟨ey, hc, rx⟩ := g2 x H' hy
    have rel' := rel.mono ey (RS.ext ey hc rel.rs) rel.nd
    have hd' : H' D = some (.lst avs) := ey.keep _ _ hd hDρ
    refine ⟨_, _, _, _, d, v1, rel', rx, q1, fun σ2 rel2 hw => ⟨by rw [hw, wipe_wipe], tG_case rel2 q3 fun b' H3 ρ3 e3 rel3 p3 => ?_⟩⟩
    have p3 : b = b' := p3
    subst p3
    -- what stands after the tests, or after the item
    have stand : ∀ {S4 : Store} {ρ4 : List Addr} {H4 : Hp}, Ext K ρ H' ρ4 H4 → RS K H4 ρ4 (fun b => B b ∨ b = D) S4 → ρ4.Nodup →
        Rel K (wipeE env vs) S4 ρ4 (fun b => B b ∨ b = D) (wipe σ vs) H4 ∧ H4 D = some (.lst avs) ∧ RVs K H4 ρ4 (fun b => B b ∨ b = D) acc avs ∧ Wk2 K (fun a => a ∉ ρ4 ∧ a ≠ D) H4 ρ4 (fun b => B b ∨ b = D) J its ends := fun e4 rs4 nd4 =>
      ⟨rel'.mono e4 rs4 nd4, e4.keep _ _ hd' hDρ, (ra.mono ey).mono e4, (wk.step (C' := fun a => a ∉ ρ ∧ a ≠ D) (fun a o h c => ey.keep _ _ h c.1) (fun a o h c => c) (fun _ _ r => r.mono ey) (fun _ _ h => h)).step (fun a o h c => e4.keep _ _ h c.1) (fun a o h c => ⟨fun z => (by have := e4.new _ z c.1; rw [h] at this; cases this), c.2⟩) (fun _ _ r => r.mono e4) e4.pre⟩
    cases b with
    | false =>
      cases q4
      obtain ⟨w1, w2, w3, w4⟩ := stand e3 rel3.rs rel3.nd
      exact ⟨_, _, acc, avs, w1, ext.trans (ey.trans e3), w2, w3, w4, hi, rfl, own, fin⟩
    | true =>
      obtain ⟨y', S5, q5, q6⟩ := bind_ok q4
      cases q6
      refine tG_case rel3 q5 fun y H4 ρ4 e4 rel4 p4 => ?_
      obtain ⟨w1, w2, w3, w4⟩ := stand (e3.trans e4) rel4.rs rel4.nd
      have hDρ4 : D ∉ ρ4 := (rel4.bt D (.inr rfl)).2
      have hlen : avs.length < sizeLine := by
        obtain ⟨a, S6, q7⟩ := Fin.ok fin
        have := compC_len q7
        rw [List.length_append, ra.length] at this
        exact this
      have p4 : RV K H4 ρ4 (fun b => B b ∨ b = D) y' y := p4
      refine ⟨avs, w2, hlen, _, _, acc ++ [y'], avs ++ [y], w1.write (.inr rfl) w2 wr_lst own, ?_, upd_same, (w3.append (.cons p4 .nil)).upd (.inr (.inr rfl)) w2 wr_lst, ?_, hi, rfl, own, fin⟩
      · exact Ext.over (ext.trans (ey.trans (e3.trans e4))) hD w2 wr_lst
      · exact w4.step (fun a o h c => by rw [upd_ne c.2]; exact h) (fun a o h c => c) (fun _ _ r => r.upd (.inr (.inr rfl)) w2 wr_lst) (fun _ _ h => h)
  · rw [List.drop_eq_nil_of_le (Nat.le_of_not_lt hi)] at fin
    unfold compC at fin
    obtain ⟨⟨hE, _⟩, fin⟩ := ok_if fin
    refine .inl ⟨t1 (Nat.le_of_not_lt hi) hE, ?_⟩
    refine fin _ _ ρ ext rel.nd (rel.rs.less fun b q => .inl q) ?_
    cases k with
    | fr => exact ⟨D, avs, rfl, hD, hd, hDρ, ra, rel.rs⟩
    | val => exact .lst hd hDρ hBD (ra.less fun b q => .inl q)
    | own => exact ⟨D, avs, rfl, hd, hDρ, ra.less fun b q => .inl q⟩
theorem lc_semC {σ : L2.St} {H : Hp} {Q : VK} (hft : ∀ d v S v1 S1, ft d v S = .ok v1 S1 → S1 = S) (h : tG K (wE K k) (compDC vs fj ft fc fe) σ H Q) :
    tLc (tG K (wIC K cw) fj) (gN K (Rel K) vs ft) (tG K wT fc) (tG K (wE K .val) fe) vs σ H Q := by
  obtain ⟨env, S, ρ, B, rel, fin⟩ := h
  refine Fin.bind down_E rel fin fun ⟨its, ends⟩ S1 J H1 ρ1 rel1 e1 w fin1 => fun D hD => ?_
  have hB := rel1.b0
  refine ⟨fun i m H => ∃ S ρ acc avs, LcC K k vs ft fc fe env σ B ρ1 H1 J its ends Q D i m H S ρ acc avs, ⟨its.length, S1, ρ1, [], [], ?_⟩, fun i m H ⟨S, ρ, acc, avs, h⟩ => h.step hft hD hB⟩
  have hDρ : D ∉ ρ1 := fun z => rel1.trk D z hD
  have ex : Ext K ρ1 H1 ρ1 (upd H1 D (.lst [])) := Ext.upd_new hD rel1.trk
  refine ⟨(rel1.wipe vs).alloc hD, ex, upd_same, .nil, ?_, Nat.zero_le _, rfl, fun i xs hx hs => ?_, by rw [List.drop_zero]; exact fin1⟩
  · exact w.step (fun a o h c => by rw [upd_ne (ne_of_none h hD)]; exact h) (fun a o h c => ⟨c.1, ne_of_none h hD⟩) (fun _ _ r => RVs.new hD rel1.trk r) (fun _ _ h => h)
  · obtain ⟨h1, h2⟩ := wipeE_get hx
    have g := rel1.eo i _ h1
    rw [wipe_get, if_neg h2] at hs
    rw [hs] at g
    cases g with
    | own h _ _ => rw [hD] at h; cases h
end
section
variable {X : Cx} {vs : List Nat} {fi : Env → Store → R (List D)} {ft : D → Env → Store → R Env} {fc : Env → Store → R Bool} {fe : Env → Store → R D} {cw : Bool} {k : Kd}
theorem pd_lc {elt tg iter : Expr} {ifs : List Expr} {scope : Scope} {own : List (Str × Nat)} {pos : Pos} (hc : X.calm = true) (hN : X.N.Nodup) (hi : PDI X cw tg iter fi) (ok : BlkOk X.N X.env.scope scope own) (hv : own.map (·.2) = vs)
    (hft : ∀ d v S v1 S1, ft d v S = .ok v1 S1 → S1 = S)
    (hg : ∀ (s : Shared) (H : Hp) (C : Addr) (cl : List (Str × Addr)) (fp : List Addr), PG (X.blk s H scope (compEnvC scope cl C X.env) fp) tg (gN X.K (Rel X.K) vs ft))
    (ht : ∀ (s : Shared) (H : Hp) (C : Addr) (cl : List (Str × Addr)) (fp : List Addr), PDC (X.blk s H scope (compEnvC scope cl C X.env) fp) ifs fc)
    (he : ∀ (s : Shared) (H : Hp) (C : Addr) (cl : List (Str × Addr)) (fp : List Addr), PDE (X.blk s H scope (compEnvC scope cl C X.env) fp) .val elt fe) (hs : ∀ x, foldedSetIterable iter X.env x = pure x) :
    PDE X k (.ListComp elt [⟨tg, iter, ifs, 0⟩] scope pos) (compD vs fi ft fc fe) := by
  subst hv
  exact PE.mono (pe_lc hc hN hi ok hg ht he hs) fun σ H Q h => lc_sem hft h
variable {fj : Env → Store → R (List It1 × EndsI)}
theorem pd_lcC {elt tg iter : Expr} {ifs : List Expr} {scope : Scope} {own : List (Str × Nat)} {pos : Pos} (hc : X.calm = true) (hN : X.N.Nodup) (hi : PDIC X cw tg iter fj) (ok : BlkOk X.N X.env.scope scope own) (hv : own.map (·.2) = vs)
    (hft : ∀ d v S v1 S1, ft d v S = .ok v1 S1 → S1 = S)
    (hg : ∀ (s : Shared) (H : Hp) (C : Addr) (cl : List (Str × Addr)) (fp : List Addr), PG (X.blk s H scope (compEnvC scope cl C X.env) fp) tg (gN X.K (Rel X.K) vs ft))
    (ht : ∀ (s : Shared) (H : Hp) (C : Addr) (cl : List (Str × Addr)) (fp : List Addr), PDC (X.blk s H scope (compEnvC scope cl C X.env) fp) ifs fc)
    (he : ∀ (s : Shared) (H : Hp) (C : Addr) (cl : List (Str × Addr)) (fp : List Addr), PDE (X.blk s H scope (compEnvC scope cl C X.env) fp) .val elt fe) (hs : ∀ x, foldedSetIterable iter X.env x = pure x) :
    PDE X k (.ListComp elt [⟨tg, iter, ifs, 0⟩] scope pos) (compDC vs fj ft fc fe) := by
  subst hv
  exact PE.mono (pe_lc hc hN hi ok hg ht he hs) fun σ H Q h => lc_semC hft h
end
end IL
/-! IT: max, min of two; get with a default. -/
namespace IL
open PySem PySem.Spec PyProof.Rows L2
section
variable {X : Cx} {a b c : Expr} {k ka kb : Kd} {fa fb fc : Env → Store → R D} {p pos apos cpos : Pos} {x : Str}
def b2N : B2 → Str
  | .max => "max"
  | .min => "min"
  | _ => ""
theorem pd_b2 (f : B2) (hf : f = .max ∨ f = .min) (hx : bltB X.env.scope x (b2N f) = true) (hb : ∀ y ∈ bnames, X.mg y = none) (hs : notStar a = true) (hs2 : notStar b = true) (hc : X.calm = true) (ha : PDE X ka a fa) (hbb : PDE X kb b fb) :
    PDE X k (.Call (.Name x p) [a, b] [] pos) (fun v S => (fa v S).bind fun x S1 => (fb v S1).bind fun y S2 => b2D f x y S2) := by
  obtain ⟨rfl, h1, h2, h3, h4⟩ := blt_of hx
  have hA : PA X [a, b] (tCons (tG X.K (wE X.K ka) fa) (tCons (tG X.K (wE X.K kb) fb) tNil)) := pa_cons ha (pa_cons hbb pa_nil (star_cons hs2)) (star_cons hs)
  have hst := star_cons (env := X.env) (es := [b]) hs
  have hn : (backTo pos (starEach [b] X.env)).any (·.1) = false := star_none (es := [b]) (by rw [List.all_cons, hs2]; rfl)
  rcases hf with rfl | rfl
  · refine PE.mono (pe_callB (call_max2 (X := X) hc) h1 (hb _ h3) (by decide +kernel) hA h4 h2 hst hn) fun σ H Q ⟨env, S, ρ, B, rel, fin⟩ => Fin.bind down_E rel fin fun d1 S1 v1 H1 ρ1 rel1 e1 p1 fin1 => Fin.bind down_E rel1 fin1 fun d2 S2 v2 H2 ρ2 rel2 e2 p2 fin2 => ?_
    unfold b2D at fin2
    split at fin2
    · cases (p1.rw rel.b0).int
      cases (p2.rw rel1.b0).int
      exact ⟨_, _, rfl, flat_int rel2 fin2⟩
    all_goals first | exact fin2.elim | contradiction
  · refine PE.mono (pe_callB (call_min2 (X := X) hc) h1 (hb _ h3) (by decide +kernel) hA h4 h2 hst hn) fun σ H Q ⟨env, S, ρ, B, rel, fin⟩ => Fin.bind down_E rel fin fun d1 S1 v1 H1 ρ1 rel1 e1 p1 fin1 => Fin.bind down_E rel1 fin1 fun d2 S2 v2 H2 ρ2 rel2 e2 p2 fin2 => ?_
    unfold b2D at fin2
    split at fin2
    · contradiction
    · cases (p1.rw rel.b0).int
      cases (p2.rw rel1.b0).int
      exact ⟨_, _, rfl, flat_int rel2 fin2⟩
    all_goals first | exact fin2.elim | contradiction
theorem isDct_at {K : Frag} {env : Env} {S : Store} {ρ : List Addr} {B : Bd} {σ : L2.St} {H : Hp} {d : D} {v : V} (rel : Rel K env S ρ B σ H) (r : RW K H ρ B d v) (h : isDct d S = true) : ∃ n q kvs vs, d = .ref n ∧ v = .ref q ∧ ρ[n]? = some q ∧ S[n]? = some (.dic kvs) ∧ H q = some (.dK ((kvs.map (·.1)).zip vs)) := by
  unfold isDct at h
  split at h
  · rename_i n
    split at h
    · rename_i kvs hS
      obtain ⟨q, rfl, hq⟩ := r.ref
      obtain ⟨vs, h1, h2⟩ := cell_dic rel.rs hq hS
      exact ⟨n, q, kvs, vs, rfl, rfl, hq, hS, h1⟩
    · cases h
  · cases h
theorem pd_get2 (hu : X.A.units + 1 < cLine) (hn : notCall a = true) (hs : notStar b = true) (hs2 : notStar c = true) (hline : (apos.endLine == cpos.line) = true) (ha : PDE X ka a fa) (hb : PDE X kb b fb) (hc : PDE X .val c fc) :
    PDE X .val (.Call (.Attribute a "get" apos) [b, c] [] cpos) (fun v S => (fa v S).bind fun x S1 => if isDct x S1 = true then (fb v S1).bind fun y S2 => (fc v S2).bind fun z S3 => get2D x y z S3 else .bad) := by
  have m : M2 X a "get" apos b c cpos := ⟨base_ok hn, few2 hs hs2, hline, by rw [star2 hs hs2]; rfl⟩
  refine PE.mono (pe_dget2 hu ha hb hc m) fun σ H Q ⟨env, S, ρ, B, rel, fin⟩ => Fin.bind down_E rel fin fun d1 S1 v1 H1 ρ1 rel1 e1 p1 fin1 => ?_
  obtain ⟨hL, fin1⟩ := ok_if fin1
  obtain ⟨n, q, kvs0, vs0, rfl, rfl, hq, _, q1⟩ := isDct_at rel1 (p1.rw rel.b0) hL
  refine ⟨q, rfl, .inl ⟨_, .inl q1⟩, Fin.bind down_E rel1 fin1 fun d2 S2 v2 H2 ρ2 rel2 e2 p2 fin2 => Fin.bind down_E rel2 fin2 fun d3 S3 v3 H3 ρ3 rel3 e3 p3 fin3 => ?_⟩
  unfold get2D at fin3
  dsimp only at fin3
  split at fin3
  · rename_i kvs hS
    split at fin3
    · rename_i key hk
      obtain ⟨vs, h1, h2⟩ := cell_dic rel3.rs (e3.pre _ _ (e2.pre _ _ hq)) hS
      have rb := (p2.rw rel1.b0).mono e3
      cases keyD_rv rb hk
      have p3 : RV X.K H3 ρ3 B d3 v3 := p3
      rcases dget_val key h2 with ⟨q1, q2⟩ | ⟨d, v, q1, q2, q3⟩
      · rw [q1] at fin3
        exact ⟨_, .inl ⟨_, key, .inl h1, rfl, rfl⟩, by rw [q2]; exact Fin.here rel3 fin3 p3⟩
      · rw [q1] at fin3
        exact ⟨_, .inl ⟨_, key, .inl h1, rfl, rfl⟩, by rw [q2]; exact Fin.here rel3 fin3 q3⟩
    · exact fin3.elim
  · exact fin3.elim
/-! ### {} -/
theorem pd_dn : PE X (.Dict [] [] pos) (tG X.K (wE X.K k) (fun _ S => .ok (.dic [] []) S)) := PE.mono pe_dnewK fun σ H Q ⟨env, S, ρ, B, rel, fin⟩ => fun p hp => by
  have hr : p ∉ ρ := fun z => rel.trk p z hp
  have e : Ext X.K ρ H ρ (upd H p (.dK [])) := Ext.upd_new hp rel.trk
  have rs := RS.new (o := .dK []) hp rel.rs
  exact fin _ _ ρ e rel.nd (rs.less fun b q => .inl q) (RK.of_rv rfl (.dic (ks := []) (vs := []) upd_same rfl hr (fun q => rel.b0 p q hp) .nil))
theorem pd_dc : PDE X .val (.Dict [] [] pos) (fun _ S => .ok (.ref S.length) (S ++ [.dic []])) := PE.mono pe_dnewK fun σ H Q ⟨env, S, ρ, B, rel, fin⟩ => fun p hp => by
  have hr : p ∉ ρ := fun z => rel.trk p z hp
  have e : Ext X.K ρ H ρ (upd H p (.dK [])) := Ext.upd_new hp rel.trk
  have rs := RS.new (o := .dK []) hp rel.rs
  refine fin (.ref p) _ (ρ ++ [p]) (Ext.grow e hp) (nodup_snoc rel.nd hr) (RS.snoc rs upd_same (.dic (kvs := []) (vs := []) .nil)) (.ref ?_)
  have hl : ρ.length = S.length := rel.rs.1
  rw [List.getElem?_append_right (by rw [hl]; exact Nat.le_refl _), hl, Nat.sub_self]
  rfl
end
end IL
/-! IU: a written expression held against one of the small syntax. -/
namespace IL
open PySem PySem.Spec PyProof.Rows L2

def isBool : Expr → Bool
  | .BoolOp .. => true
  | _ => false
/-- a dict's keys: texts -/
def chkKeys : List (Option Expr) → List Str → Bool
  | [], [] => true
  | some (.Constant (.str k) _ _) :: es, j :: ks => k == j && chkKeys es ks
  | _, _ => false
def pathB (apos cpos : Pos) : Bool := apos.endLine == cpos.line
section
variable (W : KwT) (N : List Str) (G : Str → Option D)
mutual
def chkE : Scope → Expr → E → Bool
  | sc, e, .non => match e with | .Constant .none _ _ => true | _ => false
  | sc, e, .bl b => match e with | .Constant (.bool c) _ _ => b == c | _ => false
  | sc, e, .int i => match e with | .Constant (.int j) _ _ => i == j | _ => false
  | sc, e, .str x => match e with | .Constant (.str y) _ _ => x == y | _ => false
  | sc, e, .glo x => match e with | .Name y _ => decide (y = x) && gloB sc y | _ => false
  | sc, e, .var i => match e with | .Name x _ => visB N sc i x | _ => false
  | sc, e, .own i => match e with | .Name x _ => visB N sc i x | _ => false
  | sc, e, .bin o a b => match e with | .BinOp a' o' b' _ => decide (o = o') && chkE sc a' a && chkE sc b' b | _ => false
  | sc, e, .neg a => match e with | .UnaryOp .USub a' _ => chkE sc a' a | _ => false
  | sc, e, .cmp o a b => match e with | .Compare a' [o'] [b'] _ => decide (o = o') && notSet b' && chkE sc a' a && chkE sc b' b | _ => false
  | sc, e, .ch o p a b c => match e with | .Compare a' [o', p'] [b', c'] _ => decide (o = o') && decide (p = p') && notSet c' && chkE sc a' a && chkE sc b' b && chkE sc c' c | _ => false
  | sc, e, .ch3 o p q a b c d => match e with | .Compare a' [o', p', q'] [b', c', d'] _ => decide (o = o') && decide (p = p') && decide (q = q') && notSet d' && chkE sc a' a && chkE sc b' b && chkE sc c' c && chkE sc d' d | _ => false
  | sc, e, .not a => match e with | .UnaryOp .Not a' _ => chkE sc a' a | _ => false
  | sc, e, .and a b => match e with
    | .BoolOp .And [a', b'] _ => chkE sc a' a && chkE sc b' b && decide (kd a ≠ .own) && decide (kd b ≠ .own)
    | .BoolOp .And (a' :: b' :: c' :: r) p => chkE sc a' a && chkE sc (.BoolOp .And (b' :: c' :: r) p) b && decide (kd a ≠ .own) && decide (kd b ≠ .own)
    | _ => false
  | sc, e, .or a b => match e with
    | .BoolOp .Or [a', b'] _ => chkE sc a' a && chkE sc b' b && decide (kd a ≠ .own) && decide (kd b ≠ .own)
    | .BoolOp .Or (a' :: b' :: c' :: r) p => chkE sc a' a && chkE sc (.BoolOp .Or (b' :: c' :: r) p) b && decide (kd a ≠ .own) && decide (kd b ≠ .own)
    | _ => false
  | sc, e, .ife c a b => match e with | .IfExp c' a' b' _ => chkC1 sc c' c && chkE sc a' a && chkE sc b' b && decide (kd a ≠ .own) && decide (kd b ≠ .own) | _ => false
  | sc, e, .tup es => match e with | .Tuple es' _ _ => chkA sc es' es | _ => false
  | sc, e, .lst es => match e with | .List es' _ => chkA sc es' es | _ => false
  | sc, e, .tups es => match e with | .Tuple es' _ _ => chkDs sc es' es | _ => false
  | sc, e, .lsts es => match e with | .List es' _ => chkDs sc es' es | _ => false
  | sc, e, .tr1 a => match e with | .Call (.Name x _) [.Call (.Name y _) [a'] [] _] [] _ => bltB sc x "tuple" && bltB sc y "range" && notStar a' && chkE sc a' a | _ => false
  | sc, e, .revl a => match e with | .Subscript a' (.Slice none none (some (.UnaryOp .USub (.Constant (.int 1) _ _) _)) _) _ => chkE sc a' a | _ => false
  | sc, e, .lr1 a => match e with | .Call (.Name x _) [.Call (.Name y _) [a'] [] _] [] _ => bltB sc x "list" && bltB sc y "range" && notStar a' && chkE sc a' a | _ => false
  | sc, e, .lr2 a b => match e with | .Call (.Name x _) [.Call (.Name y _) [a', b'] [] _] [] _ => bltB sc x "list" && bltB sc y "range" && notStar a' && notStar b' && chkE sc a' a && chkE sc b' b | _ => false
  | sc, e, .cell a => chkE sc e a && decide (kd a = .fr)
  | sc, e, .dic ks es => match e with | .Dict keys values _ => chkKeys keys ks && chkA sc values es && decide (keys.length = values.length) && decide (keys ≠ []) && decide (keys.length ≤ 15) | _ => false
  | sc, e, .dn => match e with | .Dict [] [] _ => true | _ => false
  | sc, e, .dc => match e with | .Dict [] [] _ => true | _ => false
  | sc, e, .call f es => match e with | .Call (.Name x _) (e1 :: es') [] _ => decide (x = f) && gloB sc x && chkA sc (e1 :: es') es | _ => false
  | sc, e, .cak f m es ks kes perm => match e with
    | .Call (.Name x _) es' kws _ => decide (x = f) && gloB sc x && chkA sc es' es && (!es'.isEmpty || m == 0) && decide (kws.map (·.arg) = ks.map some) && decide ((f, m, ks, perm) ∈ W) && chkA sc (kws.map (·.value)) kes
    | _ => false
  | sc, e, .b1 f a => match e with | .Call (.Name x _) [a'] [] _ => bltB sc x (b1N f) && notStar a' && chkE sc a' a | _ => false
  | sc, e, .b2 f a b => match e with | .Call (.Name x _) [a', b'] [] _ => ((decide (f = .max ∨ f = .min) && bltB sc x (b2N f)) || (decide (f = .gcd) && decide (x = "gcd") && gloB sc x && decide (gcdW ∈ W))) && notStar a' && notStar b' && chkE sc a' a && chkE sc b' b | _ => false
  | sc, e, .isa t a => match e with | .Call (.Name x _) [a', .Name y _] [] _ => bltB sc x "isinstance" && bltB sc y (tyN t) && notStar a' && chkE sc a' a | _ => false
  | sc, e, .ix a i => match e with | .Subscript a' i' _ => notSlice i' && chkE sc a' a && chkE sc i' i | _ => false
  | sc, e, .sl a lo hi => match e with | .Subscript a' (.Slice lo' hi' none _) _ => chkE sc a' a && chkO sc lo' lo && chkO sc hi' hi | _ => false
  | sc, e, .get2 a k d => match e with | .Call (.Attribute a' m apos) [k', d'] [] cpos => decide (m = "get") && notCall a' && notStar k' && notStar d' && pathB apos cpos && chkE sc a' a && chkE sc k' k && chkE sc d' d && decide (kd d ≠ .own) | _ => false
  | sc, e, .pop a => match e with | .Call (.Attribute a' m apos) [] [] cpos => decide (m = "pop") && notCall a' && pathB apos cpos && chkE sc a' a | _ => false
  | sc, e, .popi a i => match e with | .Call (.Attribute a' m apos) [i'] [] cpos => decide (m = "pop") && notCall a' && notStar i' && pathB apos cpos && chkE sc a' a && chkE sc i' i | _ => false
  | sc, e, .ins a i x => match e with | .Call (.Attribute a' m apos) [i', x'] [] cpos => decide (m = "insert") && notCall a' && notStar i' && notStar x' && pathB apos cpos && chkE sc a' a && chkE sc i' i && chkE sc x' x && decide (kd x ≠ .own) | _ => false
  | sc, e, .app a x => match e with | .Call (.Attribute a' m apos) [x'] [] cpos => decide (m = "append") && notCall a' && notStar x' && pathB apos cpos && chkE sc a' a && chkE sc x' x && decide (kd x ≠ .own) | _ => false
  | sc, e, .extd a x => match e with | .Call (.Attribute a' m apos) [x'] [] cpos => decide (m = "extend") && notCall a' && notStar x' && pathB apos cpos && chkE sc a' a && chkE sc x' x | _ => false
  | sc, e, .comp el t src c => match e with
    | .ListComp el' [⟨t', it', ifs', 0⟩] scope _ =>
      notSet it' && chkI false sc (isTup t') it' src && blkC N sc scope (ownOf t' t) && decide ((ownOf t' t).map (·.2) = slotsOf t) &&
        chkT N (relS scope sc) (fun x => scope.names.lookup x == some .cell) t' t && chkE (relS scope sc) el' el && chkC (relS scope sc) ifs' c && decide (kd el ≠ .own)
    | _ => false
  | sc, e, .compc el t src c => match e with
    | .ListComp el' [⟨t', it', ifs', 0⟩] scope _ =>
      notSet it' && chkI false sc (isTup t') it' src && blkC N sc scope (ownOf t' t) && decide ((ownOf t' t).map (·.2) = slotsOf t) &&
        chkT N (relS scope sc) (fun x => scope.names.lookup x == some .cell) t' t && chkE (relS scope sc) el' el && chkC (relS scope sc) ifs' c && decide (kd el ≠ .own)
    | _ => false
  | _, _, _ => false
/-- a test -/
def chkC1 : Scope → Expr → E → Bool
  | sc, e, .not a => match e with | .UnaryOp .Not a' _ => chkC1 sc a' a | _ => false
  | sc, e, .and a b => match e with
    | .BoolOp .And [a', b'] _ => chkC1 sc a' a && chkC1 sc b' b
    | .BoolOp .And (a' :: b' :: c' :: r) p => chkC1 sc a' a && chkC1 sc (.BoolOp .And (b' :: c' :: r) p) b
    | _ => false
  | sc, e, .or a b => match e with
    | .BoolOp .Or [a', b'] _ => chkC1 sc a' a && chkC1 sc b' b
    | .BoolOp .Or (a' :: b' :: c' :: r) p => chkC1 sc a' a && chkC1 sc (.BoolOp .Or (b' :: c' :: r) p) b
    | _ => false
  | sc, e, .cmp o a b => match e with | .Compare a' [o'] [b'] _ => decide (o = o') && notSet b' && chkE sc a' a && chkE sc b' b | _ => false
  | sc, e, .ch o p a b c => match e with | .Compare a' [o', p'] [b', c'] _ => decide (o = o') && decide (p = p') && notSet c' && chkE sc a' a && chkE sc b' b && chkE sc c' c | _ => false
  | sc, e, .ch3 o p q a b c d => match e with | .Compare a' [o', p', q'] [b', c', d'] _ => decide (o = o') && decide (p = p') && decide (q = q') && notSet d' && chkE sc a' a && chkE sc b' b && chkE sc c' c && chkE sc d' d | _ => false
  | sc, e, .call f es => match e with | .Call (.Name x _) (e1 :: es') [] _ => decide (x = f) && gloB sc x && chkA sc (e1 :: es') es | _ => false
  | sc, e, .b1 f a => match e with | .Call (.Name x _) [a'] [] _ => bltB sc x (b1N f) && notStar a' && chkE sc a' a | _ => false
  | sc, e, .isa t a => match e with | .Call (.Name x _) [a', .Name y _] [] _ => bltB sc x "isinstance" && bltB sc y (tyN t) && notStar a' && chkE sc a' a | _ => false
  | sc, e, .ix a i => match e with | .Subscript a' i' _ => notSlice i' && chkE sc a' a && chkE sc i' i | _ => false
  | sc, e, .var i => match e with | .Name x _ => visB N sc i x | _ => false
  | sc, e, .own i => match e with | .Name x _ => visB N sc i x | _ => false
  | _, _, _ => false
def chkC : Scope → List Expr → E → Bool
  | sc, e, .nl => match e with | [] => true | _ => false
  | sc, e, .cs a b => match e with | [e] => chkC1 sc e a | _ => false
  | _, _, _ => false
def chkA : Scope → List Expr → E → Bool
  | sc, e, .nl => match e with | [] => true | _ => false
  | sc, e, .cs a b => match e with | e :: es => notStar e && chkE sc e a && decide (kd a ≠ .own) && chkA sc es b | [] => false
  | _, _, _ => false
def chkDs : Scope → List Expr → E → Bool
  | sc, e, .nl => match e with | [] => true | _ => false
  | sc, e, .cs a b => match e with | e :: es => notStar e && chkE sc e a && decide (kd a ≠ .own) && chkDs sc es b | [] => false
  | sc, e, .st a b => match e with | .Starred e _ :: es => chkE sc e a && chkDs sc es b | _ => false
  | _, _, _ => false
def chkO : Scope → Option Expr → E → Bool
  | sc, e, .nl => match e with | none => true | _ => false
  | sc, e, .cs a b => match e with | some e => chkE sc e a | none => false
  | _, _, _ => false
/-- what is walked; tp: by a target of several names; cw: no list of the frame's own -/
def chkI (cw : Bool) : Scope → Bool → Expr → E → Bool
  | sc, tp, e, .rng1 a => match e with | .Call (.Name x _) [a'] [] _ => bltB sc x "range" && notStar a' && chkE sc a' a | _ => false
  | sc, tp, e, .rng2 a b => match e with | .Call (.Name x _) [a', b'] [] _ => bltB sc x "range" && notStar a' && notStar b' && chkE sc a' a && chkE sc b' b | _ => false
  | sc, tp, e, .rng3 a b c => match e with | .Call (.Name x _) [a', b', c'] [] _ => bltB sc x "range" && notStar a' && notStar b' && notStar c' && chkE sc a' a && chkE sc b' b && chkE sc c' c | _ => false
  | sc, tp, e, .enu a => match e with | .Call (.Name x _) [a'] [] _ => tp && bltB sc x "enumerate" && notStar a' && chkE sc a' a && (!cw || decide (kd a ≠ .own)) | _ => false
  | sc, tp, e, .zip a b => match e with | .Call (.Name x _) [a', b'] [] _ => tp && bltB sc x "zip" && notStar a' && notStar b' && chkE sc a' a && chkE sc b' b && (!cw || (decide (kd a ≠ .own) && decide (kd b ≠ .own))) | _ => false
  | sc, tp, e, .cs a _ => chkE sc e a && (!cw || decide (kd a ≠ .own))
  | _, _, _, _ => false
end
end
end IL
/-! IV: what is held against the small syntax does what it computes: expressions. -/
namespace IL
open PySem PySem.Spec PyProof.Rows L2

theorem Ctx.blk {X : Cx} {G : Str → Option D} {W : KwT} {T : Str → Option Fn} {cal : Cal} {n : Nat} (c : Ctx X G W T cal n) {scope : Scope} {own : List (Str × Nat)} (ok : BlkOk X.N X.env.scope scope own)
    {s : Shared} {H : Hp} {C : Addr} {cl : List (Str × Addr)} {fp : List Addr} : Ctx (X.blk s H scope (compEnvC scope cl C X.env) fp) G W T cal n :=
  ⟨c.nd, ok.kind, c.calm, c.gd, c.room, c.bl, c.sm, c.gcd, c.glo, c.none, c.len, c.fn⟩
structure SE (G : Str → Option D) (W : KwT) (T : Str → Option Fn) (cal : Cal) (n : Nat) (e : E) : Prop where
  fE : ∀ (X : Cx), Ctx X G W T cal n → ∀ e', chkE W X.N X.env.scope e' e = true → PDE X (kd e) e' (den G cal e)
  fT : ∀ (X : Cx), Ctx X G W T cal n → ∀ e', chkC1 W X.N X.env.scope e' e = true → PDT X e' (tst G cal e) ∧ (isBool e' = true → PW X e' (tG X.K wT (tst G cal e)))
  fC : ∀ (X : Cx), Ctx X G W T cal n → ∀ es, chkC W X.N X.env.scope es e = true → PDC X es (cnd G cal e)
  fA : ∀ (X : Cx), Ctx X G W T cal n → ∀ es, chkA W X.N X.env.scope es e = true → PDA X es (dens G cal e)
  fS : ∀ (X : Cx), Ctx X G W T cal n → ∀ es, chkDs W X.N X.env.scope es e = true → PDA X es (dens G cal e)
  fK : ∀ (X : Cx), Ctx X G W T cal n → ∀ kws : List Keyword, chkA W X.N X.env.scope (kws.map (·.value)) e = true → PDK X kws (dens G cal e)
  fP : ∀ (X : Cx), Ctx X G W T cal n → ∀ pos keys values ks, chkKeys keys ks = true → chkA W X.N X.env.scope values e = true → keys.length = values.length → PDP X pos keys values ks (dens G cal e)
  fO : ∀ (X : Cx), Ctx X G W T cal n → ∀ o, chkO W X.N X.env.scope o e = true → PDO X o (par G cal e)
  fI : ∀ (X : Cx), Ctx X G W T cal n → ∀ cw tg it, chkI W X.N cw X.env.scope (isTup tg) it e = true → PDI X cw tg it (itr G cal e)
  fJ : ∀ (X : Cx), Ctx X G W T cal n → ∀ cw tg it, chkI W X.N cw X.env.scope (isTup tg) it e = true → PDIC X cw tg it (itrC G cal e)
variable {G : Str → Option D} {W : KwT} {T : Str → Option Fn} {cal : Cal} {n : Nat}
theorem Ctx.u64 {X : Cx} (c : Ctx X G W T cal n) : X.A.units + 64 < cLine := by have := c.un; omega
theorem Ctx.u70 {X : Cx} (c : Ctx X G W T cal n) : X.A.units + 70 < cLine := by have := c.un; omega
theorem Ctx.u1 {X : Cx} (c : Ctx X G W T cal n) : X.A.units + 1 < cLine := by have := c.un; omega
theorem all_star (W : KwT) (N : List Str) (sc : Scope) (t : E) : ∀ {es : List Expr}, chkA W N sc es t = true → es.all notStar = true := by
  induction t with
  | nl =>
    intro es c
    unfold chkA at c
    cases es with
    | nil => rfl
    | cons e es => cases c
  | cs a b iha ihb =>
    intro es c
    unfold chkA at c
    cases es with
    | nil => cases c
    | cons e es =>
      have c2 : (notStar e && chkE W N sc e a && decide (kd a ≠ .own) && chkA W N sc es b) = true := c
      simp only [Bool.and_eq_true] at c2
      rw [List.all_cons, c2.1.1.1, ihb c2.2]
      rfl
  | _ =>
    intro es c
    unfold chkA at c
    cases c
theorem gl_of {sc : Scope} {env : PySem.Env} {x : Str} (he : env.scope = sc) (h : sc.names.lookup x = some .globalImplicit) : env.kindOf x = some .globalImplicit := by
  subst he; exact h
theorem fold_none {e : Expr} {env : PySem.Env} (h : notSet e = true) : ∀ x, foldedSetIterable e env x = pure x := by
  intro x
  cases e <;> first | rfl | cases h
theorem keys_some : ∀ {keys : List (Option Expr)} {ks : List Str}, chkKeys keys ks = true → keys.all (·.isSome) = true
  | [], [], _ => rfl
  | [], _ :: _, h => by cases h
  | none :: _, _, h => by unfold chkKeys at h; cases h
  | some e :: es, ks, h => by
    unfold chkKeys at h
    split at h
    · contradiction
    · rename_i h1
      rw [Bool.and_eq_true] at h
      injection h1 with h1 h2
      subst h2
      rw [List.all_cons, keys_some h.2]
      rfl
    · cases h
theorem se_all (e : E) : SE G W T cal n e := by
  induction e with
  | nl =>
    constructor
    case fC =>
      intro X c es h
      unfold chkC at h
      split at h
      · exact PTs.mono pts_nil fun σ H Q ⟨env, S, ρ, B, rel, fin⟩ => Fin.here rel fin rfl
      · cases h
    case fS =>
      intro X c es h
      unfold chkDs at h
      split at h
      · exact pd_nil
      · cases h
    case fA =>
      intro X c es h
      unfold chkA at h
      split at h
      · exact pd_nil
      · cases h
    case fK =>
      intro X c kws h
      unfold chkA at h
      cases kws with
      | nil => exact kw_nil
      | cons k ks => cases h
    case fP =>
      intro X c pos keys values ks h0 h hl
      unfold chkA at h
      cases values with
      | cons v vs => cases h
      | nil =>
        cases keys with
        | cons k ks => cases hl
        | nil =>
          cases ks with
          | nil => exact pdp_nil
          | cons k ks => cases h0
    case fO =>
      intro X c o h
      unfold chkO at h
      split at h
      · exact pd_nopart
      · cases h
    all_goals first
    | (intro X c e' h; unfold chkE at h; cases h)
    | (intro X c e' h; unfold chkC1 at h; cases h)
    | (intro X c e' h; unfold chkC at h; cases h)
    | (intro X c e' h; unfold chkA at h; cases h)
    | (intro X c pos keys values ks h0 h; unfold chkA at h; cases h)
    | (intro X c e' h; unfold chkDs at h; cases h)
    | (intro X c e' h; unfold chkO at h; cases h)
    | (intro X c cw tg it h; unfold chkI at h; cases h)
  | st a b iha ihb =>
    constructor
    case fS =>
      intro X c es h
      unfold chkDs at h
      split at h
      · simp only [Bool.and_eq_true, decide_eq_true_eq] at h
        exact pd_star (iha.fE X c _ h.1) (ihb.fS X c _ h.2)
      · cases h
    all_goals first
    | (intro X c e' h; unfold chkE at h; cases h)
    | (intro X c e' h; unfold chkC1 at h; cases h)
    | (intro X c e' h; unfold chkC at h; cases h)
    | (intro X c e' h; unfold chkA at h; cases h)
    | (intro X c pos keys values ks h0 h; unfold chkA at h; cases h)
    | (intro X c e' h; unfold chkDs at h; cases h)
    | (intro X c e' h; unfold chkO at h; cases h)
    | (intro X c cw tg it h; unfold chkI at h; cases h)
  | tups a iha =>
    constructor
    case fE =>
      intro X c e' h
      unfold chkE at h
      split at h
      · exact pd_tup (iha.fS X c _ h)
      · cases h
    all_goals first
    | (intro X c e' h; unfold chkE at h; cases h)
    | (intro X c e' h; unfold chkC1 at h; cases h)
    | (intro X c e' h; unfold chkC at h; cases h)
    | (intro X c e' h; unfold chkA at h; cases h)
    | (intro X c pos keys values ks h0 h; unfold chkA at h; cases h)
    | (intro X c e' h; unfold chkDs at h; cases h)
    | (intro X c e' h; unfold chkO at h; cases h)
    | (intro X c cw tg it h; unfold chkI at h; cases h)
  | lsts a iha =>
    constructor
    case fE =>
      intro X c e' h
      unfold chkE at h
      split at h
      · exact pd_lst (iha.fS X c _ h)
      · cases h
    all_goals first
    | (intro X c e' h; unfold chkE at h; cases h)
    | (intro X c e' h; unfold chkC1 at h; cases h)
    | (intro X c e' h; unfold chkC at h; cases h)
    | (intro X c e' h; unfold chkA at h; cases h)
    | (intro X c pos keys values ks h0 h; unfold chkA at h; cases h)
    | (intro X c e' h; unfold chkDs at h; cases h)
    | (intro X c e' h; unfold chkO at h; cases h)
    | (intro X c cw tg it h; unfold chkI at h; cases h)
  | tr1 a iha =>
    constructor
    case fE =>
      intro X c e' h
      unfold chkE at h
      split at h
      · simp only [Bool.and_eq_true, decide_eq_true_eq] at h
        exact pd_tr1 c.calm h.1.1.1 h.1.1.2 c.bl h.1.2 (iha.fE X c _ h.2)
      · cases h
    all_goals first
    | (intro X c e' h; unfold chkE at h; cases h)
    | (intro X c e' h; unfold chkC1 at h; cases h)
    | (intro X c e' h; unfold chkC at h; cases h)
    | (intro X c e' h; unfold chkA at h; cases h)
    | (intro X c pos keys values ks h0 h; unfold chkA at h; cases h)
    | (intro X c e' h; unfold chkDs at h; cases h)
    | (intro X c e' h; unfold chkO at h; cases h)
    | (intro X c cw tg it h; unfold chkI at h; cases h)
  | revl a iha =>
    constructor
    case fE =>
      intro X c e' h
      unfold chkE at h
      split at h
      · exact pd_revl (iha.fE X c _ h)
      · cases h
    all_goals first
    | (intro X c e' h; unfold chkE at h; cases h)
    | (intro X c e' h; unfold chkC1 at h; cases h)
    | (intro X c e' h; unfold chkC at h; cases h)
    | (intro X c e' h; unfold chkA at h; cases h)
    | (intro X c pos keys values ks h0 h; unfold chkA at h; cases h)
    | (intro X c e' h; unfold chkDs at h; cases h)
    | (intro X c e' h; unfold chkO at h; cases h)
    | (intro X c cw tg it h; unfold chkI at h; cases h)
  | lr1 a iha =>
    constructor
    case fE =>
      intro X c e' h
      unfold chkE at h
      split at h
      · simp only [Bool.and_eq_true, decide_eq_true_eq] at h
        exact pd_lr1 c.calm h.1.1.1 h.1.1.2 c.bl h.1.2 (iha.fE X c _ h.2)
      · cases h
    all_goals first
    | (intro X c e' h; unfold chkE at h; cases h)
    | (intro X c e' h; unfold chkC1 at h; cases h)
    | (intro X c e' h; unfold chkC at h; cases h)
    | (intro X c e' h; unfold chkA at h; cases h)
    | (intro X c pos keys values ks h0 h; unfold chkA at h; cases h)
    | (intro X c e' h; unfold chkDs at h; cases h)
    | (intro X c e' h; unfold chkO at h; cases h)
    | (intro X c cw tg it h; unfold chkI at h; cases h)
  | lr2 a b iha ihb =>
    constructor
    case fE =>
      intro X c e' h
      unfold chkE at h
      split at h
      · simp only [Bool.and_eq_true, decide_eq_true_eq] at h
        obtain ⟨⟨⟨⟨⟨h0, h1⟩, h2⟩, h3⟩, h4⟩, h5⟩ := h
        exact pd_lr2 c.calm h0 h1 c.bl h2 h3 (iha.fE X c _ h4) (ihb.fE X c _ h5)
      · cases h
    all_goals first
    | (intro X c e' h; unfold chkE at h; cases h)
    | (intro X c e' h; unfold chkC1 at h; cases h)
    | (intro X c e' h; unfold chkC at h; cases h)
    | (intro X c e' h; unfold chkA at h; cases h)
    | (intro X c pos keys values ks h0 h; unfold chkA at h; cases h)
    | (intro X c e' h; unfold chkDs at h; cases h)
    | (intro X c e' h; unfold chkO at h; cases h)
    | (intro X c cw tg it h; unfold chkI at h; cases h)
  | cs a b iha ihb =>
    constructor
    case fS =>
      intro X c es h
      unfold chkDs at h
      split at h
      · simp only [Bool.and_eq_true, decide_eq_true_eq] at h
        exact pd_cons h.1.1.1 ((iha.fE X c _ h.1.1.2).val h.1.2) (ihb.fS X c _ h.2)
      · cases h
    case fC =>
      intro X c es h
      unfold chkC at h
      split at h
      · exact pts_one (iha.fT X c _ h).1
      · cases h
    case fA =>
      intro X c es h
      unfold chkA at h
      split at h
      · simp only [Bool.and_eq_true, decide_eq_true_eq] at h
        exact pd_cons h.1.1.1 ((iha.fE X c _ h.1.1.2).val h.1.2) (ihb.fA X c _ h.2)
      · cases h
    case fK =>
      intro X c kws h
      unfold chkA at h
      cases kws with
      | nil => cases h
      | cons k ks =>
        obtain ⟨nm, k, kp⟩ := k
        have h : (notStar k && chkE W X.N X.env.scope k a && decide (kd a ≠ .own) && chkA W X.N X.env.scope (ks.map (·.value)) b) = true := h
        simp only [Bool.and_eq_true, decide_eq_true_eq] at h
        exact kw_cons ((iha.fE X c _ h.1.1.2).val h.1.2) (ihb.fK X c _ h.2)
    case fP =>
      intro X c pos keys values ks h0 h hl
      unfold chkA at h
      cases values with
      | nil => cases h
      | cons v vs =>
        have h : (notStar v && chkE W X.N X.env.scope v a && decide (kd a ≠ .own) && chkA W X.N X.env.scope vs b) = true := h
        simp only [Bool.and_eq_true, decide_eq_true_eq] at h
        unfold chkKeys at h0
        split at h0
        · cases hl
        · rw [Bool.and_eq_true] at h0
          have := eq_of_beq h0.1
          subst this
          exact pdp_cons ((iha.fE X c _ h.1.1.2).val h.1.2) (ihb.fP X c pos _ vs _ h0.2 h.2 (by simpa using hl))
        · cases h0
    case fO =>
      intro X c o h
      unfold chkO at h
      split at h
      · exact pd_part (iha.fE X c _ h)
      · cases h
    case fI =>
      intro X c cw tg it h
      unfold chkI at h
      simp only [Bool.and_eq_true, Bool.or_eq_true, Bool.not_eq_true', decide_eq_true_eq] at h
      exact pd_seq (fun q => h.2.resolve_left (by rw [q]; exact fun z => by cases z)) (iha.fE X c _ h.1)
    case fJ =>
      intro X c cw tg it h
      unfold chkI at h
      simp only [Bool.and_eq_true, Bool.or_eq_true, Bool.not_eq_true', decide_eq_true_eq] at h
      exact pd_seqC (fun q => h.2.resolve_left (by rw [q]; exact fun z => by cases z)) (iha.fE X c _ h.1)
    all_goals first
    | (intro X c e' h; unfold chkE at h; cases h)
    | (intro X c e' h; unfold chkC1 at h; cases h)
    | (intro X c e' h; unfold chkC at h; cases h)
    | (intro X c e' h; unfold chkA at h; cases h)
    | (intro X c pos keys values ks h0 h; unfold chkA at h; cases h)
    | (intro X c e' h; unfold chkDs at h; cases h)
    | (intro X c e' h; unfold chkO at h; cases h)
    | (intro X c cw tg it h; unfold chkI at h; cases h)
  | non =>
    constructor
    case fE =>
      intro X c e' h
      unfold chkE at h
      split at h
      · exact pd_tC pe_non rfl fun _ _ _ => .non
      · cases h
    all_goals first
    | (intro X c e' h; unfold chkE at h; cases h)
    | (intro X c e' h; unfold chkC1 at h; cases h)
    | (intro X c e' h; unfold chkC at h; cases h)
    | (intro X c e' h; unfold chkA at h; cases h)
    | (intro X c pos keys values ks h0 h; unfold chkA at h; cases h)
    | (intro X c e' h; unfold chkDs at h; cases h)
    | (intro X c e' h; unfold chkO at h; cases h)
    | (intro X c cw tg it h; unfold chkI at h; cases h)
  | bl b =>
    constructor
    case fE =>
      intro X c e' h
      unfold chkE at h
      split at h
      · have := eq_of_beq h
        subst this
        exact pd_tC pe_bl rfl fun _ _ _ => .bl _
      · cases h
    all_goals first
    | (intro X c e' h; unfold chkE at h; cases h)
    | (intro X c e' h; unfold chkC1 at h; cases h)
    | (intro X c e' h; unfold chkC at h; cases h)
    | (intro X c e' h; unfold chkA at h; cases h)
    | (intro X c pos keys values ks h0 h; unfold chkA at h; cases h)
    | (intro X c e' h; unfold chkDs at h; cases h)
    | (intro X c e' h; unfold chkO at h; cases h)
    | (intro X c cw tg it h; unfold chkI at h; cases h)
  | int i =>
    constructor
    case fE =>
      intro X c e' h
      unfold chkE at h
      split at h
      · have := eq_of_beq h
        subst this
        exact pd_tC pe_int rfl fun _ _ _ => .int _
      · cases h
    all_goals first
    | (intro X c e' h; unfold chkE at h; cases h)
    | (intro X c e' h; unfold chkC1 at h; cases h)
    | (intro X c e' h; unfold chkC at h; cases h)
    | (intro X c e' h; unfold chkA at h; cases h)
    | (intro X c pos keys values ks h0 h; unfold chkA at h; cases h)
    | (intro X c e' h; unfold chkDs at h; cases h)
    | (intro X c e' h; unfold chkO at h; cases h)
    | (intro X c cw tg it h; unfold chkI at h; cases h)
  | str x =>
    constructor
    case fE =>
      intro X c e' h
      unfold chkE at h
      split at h
      · have := eq_of_beq h
        subst this
        exact pd_tC pe_str rfl fun _ _ _ => .str _
      · cases h
    all_goals first
    | (intro X c e' h; unfold chkE at h; cases h)
    | (intro X c e' h; unfold chkC1 at h; cases h)
    | (intro X c e' h; unfold chkC at h; cases h)
    | (intro X c e' h; unfold chkA at h; cases h)
    | (intro X c pos keys values ks h0 h; unfold chkA at h; cases h)
    | (intro X c e' h; unfold chkDs at h; cases h)
    | (intro X c e' h; unfold chkO at h; cases h)
    | (intro X c cw tg it h; unfold chkI at h; cases h)
  | glo x =>
    constructor
    case fE =>
      intro X c e' h
      unfold chkE at h
      split at h
      · rw [Bool.and_eq_true, decide_eq_true_eq] at h
        obtain ⟨rfl, h⟩ := h
        obtain ⟨g1, g2⟩ := glo_of h
        cases hG : G (by assumption) with
        | none =>
          refine ⟨fun pins s σ H Q J q => ?_⟩
          obtain ⟨env, S, ρ, B, rel, fin⟩ := q
          unfold den at fin
          rw [hG] at fin
          exact fin.elim
        | some d =>
          obtain ⟨u, v, hm, hr, hl, hv⟩ := c.glo _ _ hG
          refine PE.mono (pd_tC (k := .val) (pe_glob g1 hm hr g2) hl hv) fun σ H Q q => ?_
          obtain ⟨env, S, ρ, B, rel, fin⟩ := q
          unfold den at fin
          rw [hG] at fin
          exact ⟨env, S, ρ, B, rel, fin⟩
      · cases h
    all_goals first
    | (intro X c e' h; unfold chkE at h; cases h)
    | (intro X c e' h; unfold chkC1 at h; cases h)
    | (intro X c e' h; unfold chkC at h; cases h)
    | (intro X c e' h; unfold chkA at h; cases h)
    | (intro X c pos keys values ks h0 h; unfold chkA at h; cases h)
    | (intro X c e' h; unfold chkDs at h; cases h)
    | (intro X c e' h; unfold chkO at h; cases h)
    | (intro X c cw tg it h; unfold chkI at h; cases h)
  | var i =>
    constructor
    case fE =>
      intro X c e' h
      unfold chkE at h
      split at h
      · exact pd_var h
      · cases h
    case fT =>
      intro X c e' h
      unfold chkC1 at h
      split at h
      · exact ⟨pt_any (pd_var h) (fun _ => rfl), fun q => by cases q⟩
      · cases h
    all_goals first
    | (intro X c e' h; unfold chkE at h; cases h)
    | (intro X c e' h; unfold chkC1 at h; cases h)
    | (intro X c e' h; unfold chkC at h; cases h)
    | (intro X c e' h; unfold chkA at h; cases h)
    | (intro X c pos keys values ks h0 h; unfold chkA at h; cases h)
    | (intro X c e' h; unfold chkDs at h; cases h)
    | (intro X c e' h; unfold chkO at h; cases h)
    | (intro X c cw tg it h; unfold chkI at h; cases h)
  | own i =>
    constructor
    case fE =>
      intro X c e' h
      unfold chkE at h
      split at h
      · exact pd_own h
      · cases h
    case fT =>
      intro X c e' h
      unfold chkC1 at h
      split at h
      · exact ⟨pt_any (pd_own h) (fun _ => rfl), fun q => by cases q⟩
      · cases h
    all_goals first
    | (intro X c e' h; unfold chkE at h; cases h)
    | (intro X c e' h; unfold chkC1 at h; cases h)
    | (intro X c e' h; unfold chkC at h; cases h)
    | (intro X c e' h; unfold chkA at h; cases h)
    | (intro X c pos keys values ks h0 h; unfold chkA at h; cases h)
    | (intro X c e' h; unfold chkDs at h; cases h)
    | (intro X c e' h; unfold chkO at h; cases h)
    | (intro X c cw tg it h; unfold chkI at h; cases h)
  | bin o a b iha ihb =>
    constructor
    case fE =>
      intro X c e' h
      unfold chkE at h
      split at h
      · simp only [Bool.and_eq_true, decide_eq_true_eq] at h
        obtain ⟨⟨rfl, h1⟩, h2⟩ := h
        exact pd_bin _ (iha.fE X c _ h1) (ihb.fE X c _ h2)
      · cases h
    all_goals first
    | (intro X c e' h; unfold chkE at h; cases h)
    | (intro X c e' h; unfold chkC1 at h; cases h)
    | (intro X c e' h; unfold chkC at h; cases h)
    | (intro X c e' h; unfold chkA at h; cases h)
    | (intro X c pos keys values ks h0 h; unfold chkA at h; cases h)
    | (intro X c e' h; unfold chkDs at h; cases h)
    | (intro X c e' h; unfold chkO at h; cases h)
    | (intro X c cw tg it h; unfold chkI at h; cases h)
  | neg a iha =>
    constructor
    case fE =>
      intro X c e' h
      unfold chkE at h
      split at h
      · exact pd_neg (iha.fE X c _ h)
      · cases h
    all_goals first
    | (intro X c e' h; unfold chkE at h; cases h)
    | (intro X c e' h; unfold chkC1 at h; cases h)
    | (intro X c e' h; unfold chkC at h; cases h)
    | (intro X c e' h; unfold chkA at h; cases h)
    | (intro X c pos keys values ks h0 h; unfold chkA at h; cases h)
    | (intro X c e' h; unfold chkDs at h; cases h)
    | (intro X c e' h; unfold chkO at h; cases h)
    | (intro X c cw tg it h; unfold chkI at h; cases h)
  | cmp o a b iha ihb =>
    constructor
    case fE =>
      intro X c e' h
      unfold chkE at h
      split at h
      · simp only [Bool.and_eq_true, decide_eq_true_eq] at h
        obtain ⟨⟨⟨rfl, h0⟩, h1⟩, h2⟩ := h
        exact pd_cmp _ c.u64 h0 (iha.fE X c _ h1) (ihb.fE X c _ h2)
      · cases h
    case fT =>
      intro X c e' h
      unfold chkC1 at h
      split at h
      · simp only [Bool.and_eq_true, decide_eq_true_eq] at h
        obtain ⟨⟨⟨rfl, h0⟩, h1⟩, h2⟩ := h
        exact ⟨pt_cmpD _ c.u64 h0 (iha.fE X c _ h1) (ihb.fE X c _ h2), fun q => by cases q⟩
      · cases h
    all_goals first
    | (intro X c e' h; unfold chkE at h; cases h)
    | (intro X c e' h; unfold chkC1 at h; cases h)
    | (intro X c e' h; unfold chkC at h; cases h)
    | (intro X c e' h; unfold chkA at h; cases h)
    | (intro X c pos keys values ks h0 h; unfold chkA at h; cases h)
    | (intro X c e' h; unfold chkDs at h; cases h)
    | (intro X c e' h; unfold chkO at h; cases h)
    | (intro X c cw tg it h; unfold chkI at h; cases h)
  | ch o p a b d iha ihb ihd =>
    constructor
    case fE =>
      intro X c e' h
      unfold chkE at h
      split at h
      · simp only [Bool.and_eq_true, decide_eq_true_eq] at h
        obtain ⟨⟨⟨⟨⟨rfl, rfl⟩, h0⟩, h1⟩, h2⟩, h3⟩ := h
        exact pd_ch _ _ c.u64 h0 (iha.fE X c _ h1) (ihb.fE X c _ h2) (ihd.fE X c _ h3)
      · cases h
    case fT =>
      intro X c e' h
      unfold chkC1 at h
      split at h
      · simp only [Bool.and_eq_true, decide_eq_true_eq] at h
        obtain ⟨⟨⟨⟨⟨rfl, rfl⟩, h0⟩, h1⟩, h2⟩, h3⟩ := h
        exact ⟨pt_ch _ _ c.u64 h0 (iha.fE X c _ h1) (ihb.fE X c _ h2) (ihd.fE X c _ h3), fun q => by cases q⟩
      · cases h
    all_goals first
    | (intro X c e' h; unfold chkE at h; cases h)
    | (intro X c e' h; unfold chkC1 at h; cases h)
    | (intro X c e' h; unfold chkC at h; cases h)
    | (intro X c e' h; unfold chkA at h; cases h)
    | (intro X c pos keys values ks h0 h; unfold chkA at h; cases h)
    | (intro X c e' h; unfold chkDs at h; cases h)
    | (intro X c e' h; unfold chkO at h; cases h)
    | (intro X c cw tg it h; unfold chkI at h; cases h)
  | not a iha =>
    constructor
    case fE =>
      intro X c e' h
      unfold chkE at h
      split at h
      · exact pd_not (iha.fE X c _ h)
      · cases h
    case fT =>
      intro X c e' h
      unfold chkC1 at h
      split at h
      · exact ⟨pt_notD (iha.fT X c _ h).1, fun q => by cases q⟩
      · cases h
    all_goals first
    | (intro X c e' h; unfold chkE at h; cases h)
    | (intro X c e' h; unfold chkC1 at h; cases h)
    | (intro X c e' h; unfold chkC at h; cases h)
    | (intro X c e' h; unfold chkA at h; cases h)
    | (intro X c pos keys values ks h0 h; unfold chkA at h; cases h)
    | (intro X c e' h; unfold chkDs at h; cases h)
    | (intro X c e' h; unfold chkO at h; cases h)
    | (intro X c cw tg it h; unfold chkI at h; cases h)
  | and a b iha ihb =>
    constructor
    case fE =>
      intro X c e' h
      unfold chkE at h
      split at h
      · simp only [Bool.and_eq_true, decide_eq_true_eq] at h
        exact pd_and ((iha.fE X c _ h.1.1.1).val h.1.2) (pe_one ((ihb.fE X c _ h.1.1.2).val h.2))
      · simp only [Bool.and_eq_true, decide_eq_true_eq] at h
        exact pd_and ((iha.fE X c _ h.1.1.1).val h.1.2) ((ihb.fE X c _ h.1.1.2).val h.2)
      · cases h
    case fT =>
      intro X c e' h
      unfold chkC1 at h
      split at h
      · rename_i a1 b1 p1
        rw [Bool.and_eq_true] at h
        have := pt_andD (pos := p1) (iha.fT X c _ h.1).1 (pw_and1 (ihb.fT X c _ h.2).1)
        exact ⟨this.pt, fun _ => this⟩
      · rw [Bool.and_eq_true] at h
        have := pt_andD (iha.fT X c _ h.1).1 ((ihb.fT X c _ h.2).2 rfl)
        exact ⟨this.pt, fun _ => this⟩
      · cases h
    all_goals first
    | (intro X c e' h; unfold chkE at h; cases h)
    | (intro X c e' h; unfold chkC1 at h; cases h)
    | (intro X c e' h; unfold chkC at h; cases h)
    | (intro X c e' h; unfold chkA at h; cases h)
    | (intro X c pos keys values ks h0 h; unfold chkA at h; cases h)
    | (intro X c e' h; unfold chkDs at h; cases h)
    | (intro X c e' h; unfold chkO at h; cases h)
    | (intro X c cw tg it h; unfold chkI at h; cases h)
  | or a b iha ihb =>
    constructor
    case fE =>
      intro X c e' h
      unfold chkE at h
      split at h
      · simp only [Bool.and_eq_true, decide_eq_true_eq] at h
        exact pd_or ((iha.fE X c _ h.1.1.1).val h.1.2) (pe_one ((ihb.fE X c _ h.1.1.2).val h.2))
      · simp only [Bool.and_eq_true, decide_eq_true_eq] at h
        exact pd_or ((iha.fE X c _ h.1.1.1).val h.1.2) ((ihb.fE X c _ h.1.1.2).val h.2)
      · cases h
    case fT =>
      intro X c e' h
      unfold chkC1 at h
      split at h
      · rename_i a1 b1 p1
        rw [Bool.and_eq_true] at h
        have := pt_orD (pos := p1) (iha.fT X c _ h.1).1 (pw_or1 (ihb.fT X c _ h.2).1)
        exact ⟨this.pt, fun _ => this⟩
      · rw [Bool.and_eq_true] at h
        have := pt_orD (iha.fT X c _ h.1).1 ((ihb.fT X c _ h.2).2 rfl)
        exact ⟨this.pt, fun _ => this⟩
      · cases h
    all_goals first
    | (intro X c e' h; unfold chkE at h; cases h)
    | (intro X c e' h; unfold chkC1 at h; cases h)
    | (intro X c e' h; unfold chkC at h; cases h)
    | (intro X c e' h; unfold chkA at h; cases h)
    | (intro X c pos keys values ks h0 h; unfold chkA at h; cases h)
    | (intro X c e' h; unfold chkDs at h; cases h)
    | (intro X c e' h; unfold chkO at h; cases h)
    | (intro X c cw tg it h; unfold chkI at h; cases h)
  | ife d a b ihd iha ihb =>
    constructor
    case fE =>
      intro X c e' h
      unfold chkE at h
      split at h
      · simp only [Bool.and_eq_true, decide_eq_true_eq] at h
        obtain ⟨⟨⟨⟨h0, h1⟩, h2⟩, h3⟩, h4⟩ := h
        exact pd_ife (ihd.fT X c _ h0).1 ((iha.fE X c _ h1).val h3) ((ihb.fE X c _ h2).val h4)
      · cases h
    all_goals first
    | (intro X c e' h; unfold chkE at h; cases h)
    | (intro X c e' h; unfold chkC1 at h; cases h)
    | (intro X c e' h; unfold chkC at h; cases h)
    | (intro X c e' h; unfold chkA at h; cases h)
    | (intro X c pos keys values ks h0 h; unfold chkA at h; cases h)
    | (intro X c e' h; unfold chkDs at h; cases h)
    | (intro X c e' h; unfold chkO at h; cases h)
    | (intro X c cw tg it h; unfold chkI at h; cases h)
  | tup es ih =>
    constructor
    case fE =>
      intro X c e' h
      unfold chkE at h
      split at h
      · exact pd_tup (ih.fA X c _ h)
      · cases h
    all_goals first
    | (intro X c e' h; unfold chkE at h; cases h)
    | (intro X c e' h; unfold chkC1 at h; cases h)
    | (intro X c e' h; unfold chkC at h; cases h)
    | (intro X c e' h; unfold chkA at h; cases h)
    | (intro X c pos keys values ks h0 h; unfold chkA at h; cases h)
    | (intro X c e' h; unfold chkDs at h; cases h)
    | (intro X c e' h; unfold chkO at h; cases h)
    | (intro X c cw tg it h; unfold chkI at h; cases h)
  | lst es ih =>
    constructor
    case fE =>
      intro X c e' h
      unfold chkE at h
      split at h
      · exact pd_lst (ih.fA X c _ h)
      · cases h
    all_goals first
    | (intro X c e' h; unfold chkE at h; cases h)
    | (intro X c e' h; unfold chkC1 at h; cases h)
    | (intro X c e' h; unfold chkC at h; cases h)
    | (intro X c e' h; unfold chkA at h; cases h)
    | (intro X c pos keys values ks h0 h; unfold chkA at h; cases h)
    | (intro X c e' h; unfold chkDs at h; cases h)
    | (intro X c e' h; unfold chkO at h; cases h)
    | (intro X c cw tg it h; unfold chkI at h; cases h)
  | cell a iha =>
    constructor
    case fE =>
      intro X c e' h
      unfold chkE at h
      rw [Bool.and_eq_true, decide_eq_true_eq] at h
      have := iha.fE X c _ h.1
      rw [h.2] at this
      exact pd_cell this
    all_goals first
    | (intro X c e' h; unfold chkE at h; cases h)
    | (intro X c e' h; unfold chkC1 at h; cases h)
    | (intro X c e' h; unfold chkC at h; cases h)
    | (intro X c e' h; unfold chkA at h; cases h)
    | (intro X c pos keys values ks h0 h; unfold chkA at h; cases h)
    | (intro X c e' h; unfold chkDs at h; cases h)
    | (intro X c e' h; unfold chkO at h; cases h)
    | (intro X c cw tg it h; unfold chkI at h; cases h)
  | dic ks es ih =>
    constructor
    case fE =>
      intro X c e' h
      unfold chkE at h
      split at h
      · simp only [Bool.and_eq_true, decide_eq_true_eq] at h
        obtain ⟨⟨⟨⟨h0, h1⟩, h2⟩, h3⟩, h4⟩ := h
        exact pd_dic (ih.fP X c _ _ _ _ h0 h1 h2) (keys_some h0) h2 h3 h4
      · cases h
    all_goals first
    | (intro X c e' h; unfold chkE at h; cases h)
    | (intro X c e' h; unfold chkC1 at h; cases h)
    | (intro X c e' h; unfold chkC at h; cases h)
    | (intro X c e' h; unfold chkA at h; cases h)
    | (intro X c pos keys values ks h0 h; unfold chkA at h; cases h)
    | (intro X c e' h; unfold chkDs at h; cases h)
    | (intro X c e' h; unfold chkO at h; cases h)
    | (intro X c cw tg it h; unfold chkI at h; cases h)
  | dn =>
    constructor
    case fE =>
      intro X c e' h
      unfold chkE at h
      split at h
      · exact pd_dn
      · cases h
    all_goals first
    | (intro X c e' h; unfold chkE at h; cases h)
    | (intro X c e' h; unfold chkC1 at h; cases h)
    | (intro X c e' h; unfold chkC at h; cases h)
    | (intro X c e' h; unfold chkA at h; cases h)
    | (intro X c pos keys values ks h0 h; unfold chkA at h; cases h)
    | (intro X c e' h; unfold chkDs at h; cases h)
    | (intro X c e' h; unfold chkO at h; cases h)
    | (intro X c cw tg it h; unfold chkI at h; cases h)
  | dc =>
    constructor
    case fE =>
      intro X c e' h
      unfold chkE at h
      split at h
      · exact pd_dc
      · cases h
    all_goals first
    | (intro X c e' h; unfold chkE at h; cases h)
    | (intro X c e' h; unfold chkC1 at h; cases h)
    | (intro X c e' h; unfold chkC at h; cases h)
    | (intro X c e' h; unfold chkA at h; cases h)
    | (intro X c pos keys values ks h0 h; unfold chkA at h; cases h)
    | (intro X c e' h; unfold chkDs at h; cases h)
    | (intro X c e' h; unfold chkO at h; cases h)
    | (intro X c cw tg it h; unfold chkI at h; cases h)
  | call f es ih =>
    constructor
    case fE =>
      intro X c e' h
      unfold chkE at h
      split at h
      · simp only [Bool.and_eq_true, decide_eq_true_eq] at h
        obtain ⟨⟨h0, h1⟩, h2⟩ := h
        have h3 := all_star _ _ _ _ h2
        rw [List.all_cons, Bool.and_eq_true] at h3
        exact pd_call c h0 h1 h3.1 h3.2 (ih.fA X c _ h2)
      · cases h
    case fT =>
      intro X c e' h
      unfold chkC1 at h
      split at h
      · simp only [Bool.and_eq_true, decide_eq_true_eq] at h
        obtain ⟨⟨h0, h1⟩, h2⟩ := h
        have h3 := all_star _ _ _ _ h2
        rw [List.all_cons, Bool.and_eq_true] at h3
        exact ⟨pt_any (pd_call c h0 h1 h3.1 h3.2 (ih.fA X c _ h2)) (fun _ => rfl), fun q => by cases q⟩
      · cases h
    all_goals first
    | (intro X c e' h; unfold chkE at h; cases h)
    | (intro X c e' h; unfold chkC1 at h; cases h)
    | (intro X c e' h; unfold chkC at h; cases h)
    | (intro X c e' h; unfold chkA at h; cases h)
    | (intro X c pos keys values ks h0 h; unfold chkA at h; cases h)
    | (intro X c e' h; unfold chkDs at h; cases h)
    | (intro X c e' h; unfold chkO at h; cases h)
    | (intro X c cw tg it h; unfold chkI at h; cases h)
  | cak f m es ks kes perm ih ihk =>
    constructor
    case fE =>
      intro X c e' h
      unfold chkE at h
      split at h
      · rename_i x p es' kws pos
        simp only [Bool.and_eq_true, Bool.or_eq_true, Bool.not_eq_true', decide_eq_true_eq] at h
        obtain ⟨⟨⟨⟨⟨⟨h0, h1⟩, h2⟩, h3⟩, h4⟩, h5⟩, h6⟩ := h
        have hk := ihk.fK X c _ h6
        cases es' with
        | nil =>
          have hm : m = 0 := eq_of_beq (h3.resolve_left (fun z => by cases z))
          subst hm
          have he := ih.fA X c _ h2
          refine PE.mono (pd_cak0 c h0 h1 h4 h5 hk) fun σ H Q q => ?_
          unfold chkA at h2
          cases es with
          | nl => exact q
          | _ => cases h2
        | cons e1 es1 =>
          have h7 := all_star _ _ _ _ h2
          rw [List.all_cons, Bool.and_eq_true] at h7
          exact pd_cak c h0 h1 h7.1 h7.2 h4 h5 (ih.fA X c _ h2) hk
      · cases h
    all_goals first
    | (intro X c e' h; unfold chkE at h; cases h)
    | (intro X c e' h; unfold chkC1 at h; cases h)
    | (intro X c e' h; unfold chkC at h; cases h)
    | (intro X c e' h; unfold chkA at h; cases h)
    | (intro X c pos keys values ks h0 h; unfold chkA at h; cases h)
    | (intro X c e' h; unfold chkDs at h; cases h)
    | (intro X c e' h; unfold chkO at h; cases h)
    | (intro X c cw tg it h; unfold chkI at h; cases h)
  | b1 f a iha =>
    constructor
    case fE =>
      intro X c e' h
      unfold chkE at h
      split at h
      · simp only [Bool.and_eq_true, decide_eq_true_eq] at h
        exact pd_b1 f (iha.fE X c _ h.2) h.1.1 c.bl h.1.2 c.sm c.calm c.gd c.u70
      · cases h
    case fT =>
      intro X c e' h
      unfold chkC1 at h
      split at h
      · simp only [Bool.and_eq_true, decide_eq_true_eq] at h
        exact ⟨pt_any (pd_b1 (k := .val) f (iha.fE X c _ h.2) h.1.1 c.bl h.1.2 c.sm c.calm c.gd c.u70) (fun _ => rfl), fun q => by cases q⟩
      · cases h
    all_goals first
    | (intro X c e' h; unfold chkE at h; cases h)
    | (intro X c e' h; unfold chkC1 at h; cases h)
    | (intro X c e' h; unfold chkC at h; cases h)
    | (intro X c e' h; unfold chkA at h; cases h)
    | (intro X c pos keys values ks h0 h; unfold chkA at h; cases h)
    | (intro X c e' h; unfold chkDs at h; cases h)
    | (intro X c e' h; unfold chkO at h; cases h)
    | (intro X c cw tg it h; unfold chkI at h; cases h)
  | b2 f a b iha ihb =>
    constructor
    case fE =>
      intro X c e' h
      unfold chkE at h
      split at h
      · simp only [Bool.and_eq_true, decide_eq_true_eq] at h
        obtain ⟨⟨⟨⟨h0, h2⟩, h3⟩, h4⟩, h5⟩ := h
        rw [Bool.or_eq_true] at h0
        rcases h0 with h0 | h0
        · simp only [Bool.and_eq_true, decide_eq_true_eq] at h0
          exact pd_b2 f h0.1 h0.2 c.bl h2 h3 c.calm (iha.fE X c _ h4) (ihb.fE X c _ h5)
        · simp only [Bool.and_eq_true, decide_eq_true_eq] at h0
          obtain ⟨⟨⟨rfl, g1⟩, g2⟩, g3⟩ := h0
          exact pd_gcd g1 g2 (c.gcd g3) h2 h3 (iha.fE X c _ h4) (ihb.fE X c _ h5)
      · cases h
    all_goals first
    | (intro X c e' h; unfold chkE at h; cases h)
    | (intro X c e' h; unfold chkC1 at h; cases h)
    | (intro X c e' h; unfold chkC at h; cases h)
    | (intro X c e' h; unfold chkA at h; cases h)
    | (intro X c pos keys values ks h0 h; unfold chkA at h; cases h)
    | (intro X c e' h; unfold chkDs at h; cases h)
    | (intro X c e' h; unfold chkO at h; cases h)
    | (intro X c cw tg it h; unfold chkI at h; cases h)
  | isa t a iha =>
    constructor
    case fE =>
      intro X c e' h
      unfold chkE at h
      split at h
      · simp only [Bool.and_eq_true, decide_eq_true_eq] at h
        obtain ⟨⟨⟨h0, h1⟩, h2⟩, h3⟩ := h
        exact pd_isa t (iha.fE X c _ h3) h0 h1 c.bl h2
      · cases h
    case fT =>
      intro X c e' h
      unfold chkC1 at h
      split at h
      · simp only [Bool.and_eq_true, decide_eq_true_eq] at h
        obtain ⟨⟨⟨h0, h1⟩, h2⟩, h3⟩ := h
        exact ⟨pt_any (pd_isa (k := .val) t (iha.fE X c _ h3) h0 h1 c.bl h2) (fun _ => rfl), fun q => by cases q⟩
      · cases h
    all_goals first
    | (intro X c e' h; unfold chkE at h; cases h)
    | (intro X c e' h; unfold chkC1 at h; cases h)
    | (intro X c e' h; unfold chkC at h; cases h)
    | (intro X c e' h; unfold chkA at h; cases h)
    | (intro X c pos keys values ks h0 h; unfold chkA at h; cases h)
    | (intro X c e' h; unfold chkDs at h; cases h)
    | (intro X c e' h; unfold chkO at h; cases h)
    | (intro X c cw tg it h; unfold chkI at h; cases h)
  | ix a i iha ihi =>
    constructor
    case fE =>
      intro X c e' h
      unfold chkE at h
      split at h
      · simp only [Bool.and_eq_true, decide_eq_true_eq] at h
        exact pd_ix c.u1 h.1.1 (iha.fE X c _ h.1.2) (ihi.fE X c _ h.2)
      · cases h
    case fT =>
      intro X c e' h
      unfold chkC1 at h
      split at h
      · simp only [Bool.and_eq_true, decide_eq_true_eq] at h
        exact ⟨pt_any (pd_ix c.u1 h.1.1 (iha.fE X c _ h.1.2) (ihi.fE X c _ h.2)) (fun _ => rfl), fun q => by cases q⟩
      · cases h
    all_goals first
    | (intro X c e' h; unfold chkE at h; cases h)
    | (intro X c e' h; unfold chkC1 at h; cases h)
    | (intro X c e' h; unfold chkC at h; cases h)
    | (intro X c e' h; unfold chkA at h; cases h)
    | (intro X c pos keys values ks h0 h; unfold chkA at h; cases h)
    | (intro X c e' h; unfold chkDs at h; cases h)
    | (intro X c e' h; unfold chkO at h; cases h)
    | (intro X c cw tg it h; unfold chkI at h; cases h)
  | sl a lo hi iha ihl ihh =>
    constructor
    case fE =>
      intro X c e' h
      unfold chkE at h
      split at h
      · simp only [Bool.and_eq_true, decide_eq_true_eq] at h
        exact pd_sl (iha.fE X c _ h.1.1) (ihl.fO X c _ h.1.2) (ihh.fO X c _ h.2)
      · cases h
    all_goals first
    | (intro X c e' h; unfold chkE at h; cases h)
    | (intro X c e' h; unfold chkC1 at h; cases h)
    | (intro X c e' h; unfold chkC at h; cases h)
    | (intro X c e' h; unfold chkA at h; cases h)
    | (intro X c pos keys values ks h0 h; unfold chkA at h; cases h)
    | (intro X c e' h; unfold chkDs at h; cases h)
    | (intro X c e' h; unfold chkO at h; cases h)
    | (intro X c cw tg it h; unfold chkI at h; cases h)
  | get2 a k d iha ihk ihd =>
    constructor
    case fE =>
      intro X c e' h
      unfold chkE at h
      split at h
      · simp only [Bool.and_eq_true, decide_eq_true_eq] at h
        obtain ⟨⟨⟨⟨⟨⟨⟨⟨rfl, h0⟩, h1⟩, h2⟩, h3⟩, h4⟩, h5⟩, h6⟩, h7⟩ := h
        exact pd_get2 c.u1 h0 h1 h2 h3 (iha.fE X c _ h4) (ihk.fE X c _ h5) ((ihd.fE X c _ h6).val h7)
      · cases h
    all_goals first
    | (intro X c e' h; unfold chkE at h; cases h)
    | (intro X c e' h; unfold chkC1 at h; cases h)
    | (intro X c e' h; unfold chkC at h; cases h)
    | (intro X c e' h; unfold chkA at h; cases h)
    | (intro X c pos keys values ks h0 h; unfold chkA at h; cases h)
    | (intro X c e' h; unfold chkDs at h; cases h)
    | (intro X c e' h; unfold chkO at h; cases h)
    | (intro X c cw tg it h; unfold chkI at h; cases h)
  | pop a iha =>
    constructor
    case fE =>
      intro X c e' h
      unfold chkE at h
      split at h
      · simp only [Bool.and_eq_true, decide_eq_true_eq] at h
        obtain ⟨⟨⟨rfl, h0⟩, h1⟩, h2⟩ := h
        exact pd_pop h0 h1 (iha.fE X c _ h2)
      · cases h
    all_goals first
    | (intro X c e' h; unfold chkE at h; cases h)
    | (intro X c e' h; unfold chkC1 at h; cases h)
    | (intro X c e' h; unfold chkC at h; cases h)
    | (intro X c e' h; unfold chkA at h; cases h)
    | (intro X c pos keys values ks h0 h; unfold chkA at h; cases h)
    | (intro X c e' h; unfold chkDs at h; cases h)
    | (intro X c e' h; unfold chkO at h; cases h)
    | (intro X c cw tg it h; unfold chkI at h; cases h)
  | popi a i iha ihi =>
    constructor
    case fE =>
      intro X c e' h
      unfold chkE at h
      split at h
      · simp only [Bool.and_eq_true, decide_eq_true_eq] at h
        obtain ⟨⟨⟨⟨⟨rfl, h0⟩, h1⟩, h2⟩, h3⟩, h4⟩ := h
        exact pd_popi h0 h1 h2 (iha.fE X c _ h3) (ihi.fE X c _ h4)
      · cases h
    all_goals first
    | (intro X c e' h; unfold chkE at h; cases h)
    | (intro X c e' h; unfold chkC1 at h; cases h)
    | (intro X c e' h; unfold chkC at h; cases h)
    | (intro X c e' h; unfold chkA at h; cases h)
    | (intro X c pos keys values ks h0 h; unfold chkA at h; cases h)
    | (intro X c e' h; unfold chkDs at h; cases h)
    | (intro X c e' h; unfold chkO at h; cases h)
    | (intro X c cw tg it h; unfold chkI at h; cases h)
  | ins a i x iha ihi ihx =>
    constructor
    case fE =>
      intro X c e' h
      unfold chkE at h
      split at h
      · simp only [Bool.and_eq_true, decide_eq_true_eq] at h
        obtain ⟨⟨⟨⟨⟨⟨⟨⟨rfl, h0⟩, h1⟩, h2⟩, h3⟩, h4⟩, h5⟩, h6⟩, h7⟩ := h
        exact pd_ins h0 h1 h2 h3 (iha.fE X c _ h4) (ihi.fE X c _ h5) ((ihx.fE X c _ h6).val h7)
      · cases h
    all_goals first
    | (intro X c e' h; unfold chkE at h; cases h)
    | (intro X c e' h; unfold chkC1 at h; cases h)
    | (intro X c e' h; unfold chkC at h; cases h)
    | (intro X c e' h; unfold chkA at h; cases h)
    | (intro X c pos keys values ks h0 h; unfold chkA at h; cases h)
    | (intro X c e' h; unfold chkDs at h; cases h)
    | (intro X c e' h; unfold chkO at h; cases h)
    | (intro X c cw tg it h; unfold chkI at h; cases h)
  | app a x iha ihx =>
    constructor
    case fE =>
      intro X c e' h
      unfold chkE at h
      split at h
      · simp only [Bool.and_eq_true, decide_eq_true_eq] at h
        obtain ⟨⟨⟨⟨⟨⟨rfl, h0⟩, h1⟩, h2⟩, h3⟩, h4⟩, h5⟩ := h
        exact pd_app h0 h1 h2 (iha.fE X c _ h3) ((ihx.fE X c _ h4).val h5)
      · cases h
    all_goals first
    | (intro X c e' h; unfold chkE at h; cases h)
    | (intro X c e' h; unfold chkC1 at h; cases h)
    | (intro X c e' h; unfold chkC at h; cases h)
    | (intro X c e' h; unfold chkA at h; cases h)
    | (intro X c pos keys values ks h0 h; unfold chkA at h; cases h)
    | (intro X c e' h; unfold chkDs at h; cases h)
    | (intro X c e' h; unfold chkO at h; cases h)
    | (intro X c cw tg it h; unfold chkI at h; cases h)
  | extd a x iha ihx =>
    constructor
    case fE =>
      intro X c e' h
      unfold chkE at h
      split at h
      · simp only [Bool.and_eq_true, decide_eq_true_eq] at h
        obtain ⟨⟨⟨⟨⟨rfl, h0⟩, h1⟩, h2⟩, h3⟩, h4⟩ := h
        exact pd_extd h0 h1 h2 (iha.fE X c _ h3) (ihx.fE X c _ h4)
      · cases h
    all_goals first
    | (intro X c e' h; unfold chkE at h; cases h)
    | (intro X c e' h; unfold chkC1 at h; cases h)
    | (intro X c e' h; unfold chkC at h; cases h)
    | (intro X c e' h; unfold chkA at h; cases h)
    | (intro X c pos keys values ks h0 h; unfold chkA at h; cases h)
    | (intro X c e' h; unfold chkDs at h; cases h)
    | (intro X c e' h; unfold chkO at h; cases h)
    | (intro X c cw tg it h; unfold chkI at h; cases h)
  | comp el t src d ihe iht ihs ihd =>
    constructor
    case fE =>
      intro X c e' h
      unfold chkE at h
      split at h
      · simp only [Bool.and_eq_true, decide_eq_true_eq] at h
        obtain ⟨⟨⟨⟨⟨⟨⟨h0, h1⟩, h2⟩, h3⟩, h4⟩, h5⟩, h6⟩, h7⟩ := h
        have ok := blkOk_by h2
        refine pd_lc c.calm c.nd (ihs.fI X c false _ _ h1) ok h3 (fun _ _ _ _ _ q => asgN_S q) (fun s H C cl fp => ?_) (fun s H C cl fp => ihd.fC _ (c.blk ok) _ h6) (fun s H C cl fp => (ihe.fE _ (c.blk ok) _ h5).val h7) (fold_none h0)
        exact (tgt_both (X := X.blk s H _ (compEnvC _ cl C X.env) fp) c.nd c.calm setOk_rel t (fun i hi => hi)).1 _ h4
      · cases h
    all_goals first
    | (intro X c e' h; unfold chkE at h; cases h)
    | (intro X c e' h; unfold chkC1 at h; cases h)
    | (intro X c e' h; unfold chkC at h; cases h)
    | (intro X c e' h; unfold chkA at h; cases h)
    | (intro X c pos keys values ks h0 h; unfold chkA at h; cases h)
    | (intro X c e' h; unfold chkDs at h; cases h)
    | (intro X c e' h; unfold chkO at h; cases h)
    | (intro X c cw tg it h; unfold chkI at h; cases h)
  | compc el t src d ihe iht ihs ihd =>
    constructor
    case fE =>
      intro X c e' h
      unfold chkE at h
      split at h
      · simp only [Bool.and_eq_true, decide_eq_true_eq] at h
        obtain ⟨⟨⟨⟨⟨⟨⟨h0, h1⟩, h2⟩, h3⟩, h4⟩, h5⟩, h6⟩, h7⟩ := h
        have ok := blkOk_by h2
        refine pd_lcC c.calm c.nd (ihs.fJ X c false _ _ h1) ok h3 (fun _ _ _ _ _ q => asgN_S q) (fun s H C cl fp => ?_) (fun s H C cl fp => ihd.fC _ (c.blk ok) _ h6) (fun s H C cl fp => (ihe.fE _ (c.blk ok) _ h5).val h7) (fold_none h0)
        exact (tgt_both (X := X.blk s H _ (compEnvC _ cl C X.env) fp) c.nd c.calm setOk_rel t (fun i hi => hi)).1 _ h4
      · cases h
    all_goals first
    | (intro X c e' h; unfold chkE at h; cases h)
    | (intro X c e' h; unfold chkC1 at h; cases h)
    | (intro X c e' h; unfold chkC at h; cases h)
    | (intro X c e' h; unfold chkA at h; cases h)
    | (intro X c pos keys values ks h0 h; unfold chkA at h; cases h)
    | (intro X c e' h; unfold chkDs at h; cases h)
    | (intro X c e' h; unfold chkO at h; cases h)
    | (intro X c cw tg it h; unfold chkI at h; cases h)
  | rng1 a iha =>
    constructor
    case fJ =>
      intro X c cw tg it h
      exact pj_bad fun v S => rfl
    case fI =>
      intro X c cw tg it h
      unfold chkI at h
      split at h
      · simp only [Bool.and_eq_true, decide_eq_true_eq] at h
        obtain ⟨rfl, g1, g2, g3, g4⟩ := blt_of h.1.1
        exact pd_rng1 g1 (c.bl _ g3) h.1.2 (iha.fE X c _ h.2)
      · cases h
    all_goals first
    | (intro X c e' h; unfold chkE at h; cases h)
    | (intro X c e' h; unfold chkC1 at h; cases h)
    | (intro X c e' h; unfold chkC at h; cases h)
    | (intro X c e' h; unfold chkA at h; cases h)
    | (intro X c pos keys values ks h0 h; unfold chkA at h; cases h)
    | (intro X c e' h; unfold chkDs at h; cases h)
    | (intro X c e' h; unfold chkO at h; cases h)
    | (intro X c cw tg it h; unfold chkI at h; cases h)
  | rng2 a b iha ihb =>
    constructor
    case fJ =>
      intro X c cw tg it h
      exact pj_bad fun v S => rfl
    case fI =>
      intro X c cw tg it h
      unfold chkI at h
      split at h
      · simp only [Bool.and_eq_true, decide_eq_true_eq] at h
        obtain ⟨⟨⟨⟨h0, h1⟩, h2⟩, h3⟩, h4⟩ := h
        obtain ⟨rfl, g1, g2, g3, g4⟩ := blt_of h0
        exact pd_rng2 g1 (c.bl _ g3) h1 h2 (iha.fE X c _ h3) (ihb.fE X c _ h4)
      · cases h
    all_goals first
    | (intro X c e' h; unfold chkE at h; cases h)
    | (intro X c e' h; unfold chkC1 at h; cases h)
    | (intro X c e' h; unfold chkC at h; cases h)
    | (intro X c e' h; unfold chkA at h; cases h)
    | (intro X c pos keys values ks h0 h; unfold chkA at h; cases h)
    | (intro X c e' h; unfold chkDs at h; cases h)
    | (intro X c e' h; unfold chkO at h; cases h)
    | (intro X c cw tg it h; unfold chkI at h; cases h)
  | rng3 a b c' iha ihb ihc =>
    constructor
    case fJ =>
      intro X c cw tg it h
      exact pj_bad fun v S => rfl
    case fI =>
      intro X c cw tg it h
      unfold chkI at h
      split at h
      · simp only [Bool.and_eq_true, decide_eq_true_eq] at h
        obtain ⟨⟨⟨⟨⟨⟨h0, h1⟩, h2⟩, h2'⟩, h3⟩, h4⟩, h5⟩ := h
        obtain ⟨rfl, g1, g2, g3, g4⟩ := blt_of h0
        exact pd_rng3 g1 (c.bl _ g3) h1 h2 h2' (iha.fE X c _ h3) (ihb.fE X c _ h4) (ihc.fE X c _ h5)
      · cases h
    all_goals first
    | (intro X c e' h; unfold chkE at h; cases h)
    | (intro X c e' h; unfold chkC1 at h; cases h)
    | (intro X c e' h; unfold chkC at h; cases h)
    | (intro X c e' h; unfold chkA at h; cases h)
    | (intro X c pos keys values ks h0 h; unfold chkA at h; cases h)
    | (intro X c e' h; unfold chkDs at h; cases h)
    | (intro X c e' h; unfold chkO at h; cases h)
    | (intro X c cw tg it h; unfold chkI at h; cases h)
  | enu a iha =>
    constructor
    case fI =>
      intro X c cw tg it h
      unfold chkI at h
      split at h
      · simp only [Bool.and_eq_true, Bool.or_eq_true, Bool.not_eq_true', decide_eq_true_eq] at h
        obtain ⟨⟨⟨⟨hT, h0⟩, h1⟩, h2⟩, h3⟩ := h
        obtain ⟨rfl, g1, g2, g3, g4⟩ := blt_of h0
        cases tg with
        | Tuple elts kk tpos => exact pd_enu g1 (c.bl _ g3) h1 (fun q => h3.resolve_left (by rw [q]; exact fun z => by cases z)) (iha.fE X c _ h2)
        | _ => cases hT
      · cases h
    case fJ =>
      intro X c cw tg it h
      unfold chkI at h
      split at h
      · simp only [Bool.and_eq_true, Bool.or_eq_true, Bool.not_eq_true', decide_eq_true_eq] at h
        obtain ⟨⟨⟨⟨hT, h0⟩, h1⟩, h2⟩, h3⟩ := h
        obtain ⟨rfl, g1, g2, g3, g4⟩ := blt_of h0
        cases tg with
        | Tuple elts kk tpos => exact pd_enuC g1 (c.bl _ g3) h1 (fun q => h3.resolve_left (by rw [q]; exact fun z => by cases z)) (iha.fE X c _ h2)
        | _ => cases hT
      · cases h
    all_goals first
    | (intro X c e' h; unfold chkE at h; cases h)
    | (intro X c e' h; unfold chkC1 at h; cases h)
    | (intro X c e' h; unfold chkC at h; cases h)
    | (intro X c e' h; unfold chkA at h; cases h)
    | (intro X c pos keys values ks h0 h; unfold chkA at h; cases h)
    | (intro X c e' h; unfold chkDs at h; cases h)
    | (intro X c e' h; unfold chkO at h; cases h)
    | (intro X c cw tg it h; unfold chkI at h; cases h)
  | zip a b iha ihb =>
    constructor
    case fI =>
      intro X c cw tg it h
      unfold chkI at h
      split at h
      · simp only [Bool.and_eq_true, Bool.or_eq_true, Bool.not_eq_true', decide_eq_true_eq] at h
        obtain ⟨⟨⟨⟨⟨⟨hT, h0⟩, h1⟩, h2⟩, h3⟩, h4⟩, h5⟩ := h
        obtain ⟨rfl, g1, g2, g3, g4⟩ := blt_of h0
        cases tg with
        | Tuple elts kk tpos => exact pd_zip g1 (c.bl _ g3) h1 h2 (fun q => (h5.resolve_left (by rw [q]; exact fun z => by cases z)).1) (fun q => (h5.resolve_left (by rw [q]; exact fun z => by cases z)).2) (iha.fE X c _ h3) (ihb.fE X c _ h4)
        | _ => cases hT
      · cases h
    case fJ =>
      intro X c cw tg it h
      unfold chkI at h
      split at h
      · simp only [Bool.and_eq_true, Bool.or_eq_true, Bool.not_eq_true', decide_eq_true_eq] at h
        obtain ⟨⟨⟨⟨⟨⟨hT, h0⟩, h1⟩, h2⟩, h3⟩, h4⟩, h5⟩ := h
        obtain ⟨rfl, g1, g2, g3, g4⟩ := blt_of h0
        cases tg with
        | Tuple elts kk tpos => exact pd_zipC g1 (c.bl _ g3) h1 h2 (fun q => (h5.resolve_left (by rw [q]; exact fun z => by cases z)).1) (fun q => (h5.resolve_left (by rw [q]; exact fun z => by cases z)).2) (iha.fE X c _ h3) (ihb.fE X c _ h4)
        | _ => cases hT
      · cases h
    all_goals first
    | (intro X c e' h; unfold chkE at h; cases h)
    | (intro X c e' h; unfold chkC1 at h; cases h)
    | (intro X c e' h; unfold chkC at h; cases h)
    | (intro X c e' h; unfold chkA at h; cases h)
    | (intro X c pos keys values ks h0 h; unfold chkA at h; cases h)
    | (intro X c e' h; unfold chkDs at h; cases h)
    | (intro X c e' h; unfold chkO at h; cases h)
    | (intro X c cw tg it h; unfold chkI at h; cases h)
  | ch3 o p q a b d e iha ihb ihd ihe =>
    constructor
    case fE =>
      intro X c e' h
      unfold chkE at h
      split at h
      · simp only [Bool.and_eq_true, decide_eq_true_eq] at h
        obtain ⟨⟨⟨⟨⟨⟨⟨rfl, rfl⟩, rfl⟩, h0⟩, h1⟩, h2⟩, h3⟩, h4⟩ := h
        exact pd_ch3 _ _ _ c.u64 h0 (iha.fE X c _ h1) (ihb.fE X c _ h2) (ihd.fE X c _ h3) (ihe.fE X c _ h4)
      · cases h
    case fT =>
      intro X c e' h
      unfold chkC1 at h
      split at h
      · simp only [Bool.and_eq_true, decide_eq_true_eq] at h
        obtain ⟨⟨⟨⟨⟨⟨⟨rfl, rfl⟩, rfl⟩, h0⟩, h1⟩, h2⟩, h3⟩, h4⟩ := h
        exact ⟨pt_ch3 _ _ _ c.u64 h0 (iha.fE X c _ h1) (ihb.fE X c _ h2) (ihd.fE X c _ h3) (ihe.fE X c _ h4), fun q => by cases q⟩
      · cases h
    all_goals first
    | (intro X c e' h; unfold chkE at h; cases h)
    | (intro X c e' h; unfold chkC1 at h; cases h)
    | (intro X c e' h; unfold chkC at h; cases h)
    | (intro X c e' h; unfold chkA at h; cases h)
    | (intro X c pos keys values ks h0 h; unfold chkA at h; cases h)
    | (intro X c e' h; unfold chkDs at h; cases h)
    | (intro X c e' h; unfold chkO at h; cases h)
    | (intro X c cw tg it h; unfold chkI at h; cases h)
end IL
/-! IW0: which stores of an assignment are swapped. -/
namespace IL
open PySem PySem.Spec PyProof.Rows L2

def notName : Expr → Bool
  | .Name .. => false
  | _ => true
def notTup : Expr → Bool
  | .Tuple .. => false
  | _ => true
def notLTup : Expr → Bool
  | .Tuple .. => false
  | .List .. => false
  | _ => true
def notComp : Expr → Bool
  | .ListComp .. => false
  | .SetComp .. => false
  | .DictComp .. => false
  | _ => true
theorem sw_plain {e : Expr} {t : Option Expr} {l : Nat} {env : PySem.Env} (h : notComp e = true) : swapsWith e t l env = pure false := by
  cases e <;> first | rfl | cases h
theorem sw_sole {tg e : Expr} {l : Nat} {env : PySem.Env} (h : notComp e = true) : swapsWithSole [tg] e l env = pure false := sw_plain h
theorem sw_noname {tg e : Expr} {l : Nat} {env : PySem.Env} (h : notName tg = true) : swapsWithSole [tg] e l env = pure false := by
  show swapsWith e (some tg) l env = pure false
  cases tg with
  | Name => cases h
  | _ => cases e <;> rfl
theorem sw_cell {e : Expr} {y : Str} {py : Pos} {l : Nat} {env : PySem.Env} (h : env.scope.names.lookup y = some .cell) : swapsWithSole [.Name y py] e l env = pure false := by
  show swapsWith e (some (.Name y py)) l env = pure false
  have ky : env.kindOf y = some .cell := h
  have h1 : ((some NameKind.cell : Option NameKind) == some .local) = false := rfl
  cases e with
  | ListComp => unfold swapsWith; simp only [ky, h1, Bool.and_false, Bool.false_and]
  | SetComp => unfold swapsWith; simp only [ky, h1, Bool.and_false, Bool.false_and]
  | DictComp => unfold swapsWith; simp only [ky, h1, Bool.and_false, Bool.false_and]
  | _ => rfl
/-- no name of the frame's own alone -/
def farN (sc : Scope) : Expr → Bool
  | .Name x _ => !(sc.names.lookup x == some .local)
  | _ => true
/-- no swapped stores -/
def swN (sc : Scope) (tg e : Expr) : Bool :=
  match tg, e with
  | .Tuple ts _ _, .Tuple vs _ _ => ts.any (farN sc) || !(ts.length == 2 || ts.length == 3) || vs.all (foldedForSure 8)
  | .List _ _, _ => false
  | _, _ => true
theorem filt_len {α β : Type} {f : α → Option β} : ∀ {xs : List α}, (xs.filterMap f).length ≤ xs.length
  | [] => Nat.le_refl _
  | x :: xs => by
    rw [List.filterMap_cons]
    cases f x with
    | none => exact Nat.le_succ_of_le filt_len
    | some y => rw [List.length_cons, List.length_cons]; exact Nat.succ_le_succ filt_len
theorem filt_lt {α β : Type} {f : α → Option β} : ∀ {xs : List α}, (∃ x ∈ xs, f x = none) → (xs.filterMap f).length < xs.length
  | [], h => by obtain ⟨x, h, _⟩ := h; cases h
  | y :: xs, h => by
    obtain ⟨x, hx, e⟩ := h
    rw [List.filterMap_cons]
    rcases List.mem_cons.mp hx with rfl | hx
    · rw [e]; exact Nat.lt_succ_of_le filt_len
    · cases f y with
      | none => exact Nat.lt_succ_of_lt (filt_lt ⟨x, hx, e⟩)
      | some z => rw [List.length_cons, List.length_cons]; exact Nat.succ_lt_succ (filt_lt ⟨x, hx, e⟩)
theorem sw_none {tg e : Expr} {env : PySem.Env} (h : swN env.scope tg e = true) : swappedStores [tg] e env = pure none := by
  unfold swN at h
  split at h
  · rename_i ts k p vs k2 p2
    unfold swappedStores
    simp only [Bool.or_eq_true, Bool.not_eq_true'] at h
    simp only [pure_bind]
    split
    · rfl
    · rename_i h1
      split
      · rfl
      · split
        · rfl
        · rename_i h3
          split
          · rfl
          · rename_i h4
            exfalso
            rcases h with (h | h) | h
            · apply h3
              rw [Bool.or_eq_true]
              refine .inl ?_
              rw [bne_iff_ne]
              refine Nat.ne_of_lt (filt_lt ?_)
              rw [List.any_eq_true] at h
              obtain ⟨x, hx, hn⟩ := h
              refine ⟨x, hx, ?_⟩
              cases x with
              | Name id pos =>
                have hn : (!(env.scope.names.lookup id == some .local)) = true := hn
                show (if (env.scope.names.lookup id == some .local && _) = true then some id else none) = none
                rw [Bool.not_eq_true'] at hn
                rw [hn, Bool.false_and]
                rfl
              | _ => rfl
            · apply h1
              rw [h]
              rfl
            · exact h4 h
  · cases h
  · rename_i h1 h2
    unfold swappedStores
    cases tg with
    | Tuple ts k p =>
      cases e with
      | Tuple vs k2 p2 => exact (h2 _ _ _ _ _ _ rfl rfl).elim
      | _ => rfl
    | List ts p => exact (h1 _ _ rfl).elim
    | _ => rfl
theorem sw_par2 {x y : Str} {a b : Expr} {px py pt pt2 : Pos} {kt k2 : Nat} {env : PySem.Env} (hk : env.scope.kind = .function) (hx : env.scope.names.lookup x = some .local) (hy : env.scope.names.lookup y = some .local)
    (hxy : x ≠ y) (hl : (py.line == px.line) = true) (ha : notStar a = true) (hb : notStar b = true) (hf : [a, b].all (foldedForSure 8) = false) (hc : [a, b].all (constantsAlone 8) = false) :
    swappedStores [.Tuple [.Name x px, .Name y py] kt pt] (.Tuple [a, b] k2 pt2) env = pure (some [x, y]) := by
  have kx : env.kindOf x = some .local := hx
  have ky : env.kindOf y = some .local := hy
  have hbk : env.blockKind = .function := by unfold Env.blockKind; rw [hk]; rfl
  have hd : [x, y].eraseDups = [x, y] := by
    have e : (y == x) = false := by simpa using fun q => hxy q.symm
    simp [List.eraseDups_cons, e]
  unfold swappedStores
  simp only [pure_bind, hbk, hf, hc, List.filterMap_cons, List.filterMap_nil, kx, ky, Expr.pos, List.head?_cons, Option.map_some, Option.getD_some, hl, BEq.refl, Bool.and_true, hd, if_true]
  split
  · rename_i h
    exact absurd (show false = true from h) Bool.false_ne_true
  split
  · rename_i h
    exfalso
    rw [List.any_cons, List.any_cons, List.any_nil, Bool.or_false, Bool.or_eq_true] at h
    rcases h with h | h
    · cases a <;> first | exact absurd (show false = true from h) Bool.false_ne_true | exact absurd (show false = true from ha) Bool.false_ne_true
    · cases b <;> first | exact absurd (show false = true from h) Bool.false_ne_true | exact absurd (show false = true from hb) Bool.false_ne_true
  · rfl
end IL
/-! IW: a frame with lists of its own; how statements carry what is computed; targets. -/
namespace IL
open PySem PySem.Spec PyProof.Rows L2

abbrev Bo (B0 U : Bd) : Bd := fun a => B0 a ∨ U a
structure FRel (K : Frag) (B0 : Bd) (env : Env) (S : Store) (ρ : List Addr) (U : Bd) (σ : L2.St) (H : Hp) : Prop where
  rel : Rel K env S ρ (Bo B0 U) σ H
  own : ∀ (i : Nat) (xs : List D), env[i]? = some (.own xs) → ∃ a, σ[i]? = some (some (.ref a)) ∧ U a
  dis : ∀ (i j : Nat) (xs ys : List D) (a : Addr), i ≠ j → env[i]? = some (.own xs) → env[j]? = some (.own ys) → σ[i]? = some (some (.ref a)) → σ[j]? ≠ some (some (.ref a))
  ob : ∀ a, U a → ¬ B0 a
/-- the heap behind statements: a frame's own lists may have changed -/
structure FExt (K : Frag) (U1 : Bd) (ρ1 : List Addr) (H1 : Hp) (U : Bd) (ρ : List Addr) (H : Hp) : Prop where
  pre : ∀ (n : Nat) (a : Addr), ρ1[n]? = some a → ρ[n]? = some a
  sub : ∀ a, a ∈ ρ1 → a ∈ ρ
  keep : ∀ a o, H1 a = some o → a ∉ ρ1 → ¬ U1 a → H a = some o
  tup : ∀ a vs, SqT K H1 a vs → SqT K H a vs
  new : ∀ a, a ∈ ρ → a ∉ ρ1 → H1 a = none
  bn : ∀ a, U a → U1 a ∨ H1 a = none
  dom : ∀ a, H1 a ≠ none → H a ≠ none
theorem FExt.refl {K : Frag} {U : Bd} {ρ : List Addr} {H : Hp} : FExt K U ρ H U ρ H := ⟨fun _ _ h => h, fun _ h => h, fun _ _ h _ _ => h, fun _ _ h => h, fun _ h h' => absurd h h', fun _ h => .inl h, fun _ h => h⟩
theorem FExt.trans {K : Frag} {U U1 U2 : Bd} {ρ ρ1 ρ2 : List Addr} {H H1 H2 : Hp} (a : FExt K U ρ H U1 ρ1 H1) (b : FExt K U1 ρ1 H1 U2 ρ2 H2) : FExt K U ρ H U2 ρ2 H2 where
  pre := fun n x h => b.pre n x (a.pre n x h)
  sub := fun x h => b.sub x (a.sub x h)
  keep := fun x o h hn hu => b.keep x o (a.keep x o h hn hu) (fun h1 => by have := a.new x h1 hn; rw [h] at this; cases this) (fun h1 => (a.bn x h1).elim hu fun q => by rw [h] at q; cases q)
  tup := fun x vs h => b.tup x vs (a.tup x vs h)
  new := fun x h hn => by
    by_cases h1 : x ∈ ρ1
    · exact a.new x h1 hn
    · have := b.new x h h1
      exact Classical.byContradiction fun q => a.dom x q this
  bn := fun x h => by
    rcases b.bn x h with h | h
    · exact a.bn x h
    · exact .inr (Classical.byContradiction fun q => a.dom x q h)
  dom := fun x h => b.dom x (a.dom x h)
theorem FExt.of {K : Frag} {U : Bd} {ρ ρ1 : List Addr} {H H1 : Hp} (e : Ext K ρ H ρ1 H1) (trk : ∀ a, a ∈ ρ1 → H1 a ≠ none) : FExt K U ρ H U ρ1 H1 where
  pre := e.pre
  sub := e.sub
  keep := fun a o h hn _ => e.keep a o h hn
  tup := e.tup
  new := e.new
  bn := fun _ h => .inl h
  dom := fun a h => by
    by_cases hm : a ∈ ρ
    · exact trk a (e.sub a hm)
    · cases q : H a with
      | none => exact absurd q h
      | some o => rw [e.keep a o q hm]; exact fun z => by cases z
theorem FExt.ext {K : Frag} {U : Bd} {ρ ρ1 : List Addr} {H H1 : Hp} (e : FExt K (fun _ => False) ρ H U ρ1 H1) : Ext K ρ H ρ1 H1 :=
  ⟨e.pre, e.sub, fun a o h hn => e.keep a o h hn _root_.id, e.tup, e.new⟩
mutual
theorem RV.fmono {K : Frag} {B0 U U1 : Bd} {ρ ρ1 : List Addr} {H H1 : Hp} (e : FExt K U1 ρ1 H1 U ρ H) : ∀ {d : D} {v : V}, RV K H1 ρ1 (Bo B0 U1) d v → RV K H ρ (Bo B0 U) d v
  | _, _, .non => .non
  | _, _, .bl b => .bl b
  | _, _, .int i => .int i
  | _, _, .str x => .str x
  | _, _, .tup h r => .tup (e.tup _ _ h) (RVs.fmono e r)
  | _, _, .lst h n b r => .lst (e.keep _ _ h n fun q => b (.inr q)) (fun h' => by rw [e.new _ h' n] at h; cases h) (fun q => q.elim (fun q => b (.inl q)) fun q => (e.bn _ q).elim (fun q => b (.inr q)) fun q => by rw [q] at h; cases h) (RVs.fmono e r)
  | _, _, .dic h l n b r => .dic (e.keep _ _ h n fun q => b (.inr q)) l (fun h' => by rw [e.new _ h' n] at h; cases h) (fun q => q.elim (fun q => b (.inl q)) fun q => (e.bn _ q).elim (fun q => b (.inr q)) fun q => by rw [q] at h; cases h) (RVs.fmono e r)
  | _, _, .ref h => .ref (e.pre _ _ h)
theorem RVs.fmono {K : Frag} {B0 U U1 : Bd} {ρ ρ1 : List Addr} {H H1 : Hp} (e : FExt K U1 ρ1 H1 U ρ H) : ∀ {d : List D} {v : List V}, RVs K H1 ρ1 (Bo B0 U1) d v → RVs K H ρ (Bo B0 U) d v
  | _, _, .nil => .nil
  | _, _, .cons h r => .cons (RV.fmono e h) (RVs.fmono e r)
end
section
variable {K : Frag} {B0 U : Bd} {env : Env} {S S1 : Store} {ρ ρ1 : List Addr} {σ : L2.St} {H H1 : Hp}
theorem FRel.mono (f : FRel K B0 env S ρ U σ H) (rel : Rel K env S1 ρ1 (Bo B0 U) σ H1) : FRel K B0 env S1 ρ1 U σ H1 := ⟨rel, f.own, f.dis, f.ob⟩
theorem own_set {i j : Nat} {s : Slot} {xs : List D} (h : (env.set i s)[j]? = some (.own xs)) : (i = j ∧ s = .own xs) ∨ (i ≠ j ∧ env[j]? = some (.own xs)) := by
  by_cases e : i = j
  · subst e
    have hl := (List.getElem?_eq_some_iff.mp h).1
    rw [List.length_set] at hl
    rw [List.getElem?_set_self hl] at h
    exact .inl ⟨rfl, by injection h⟩
  · rw [List.getElem?_set_ne e] at h
    exact .inr ⟨e, h⟩
theorem set_at {i : Nat} {s : Slot} {o : Option V} {xs : List D} (hl : env.length = σ.length) (h : (env.set i s)[i]? = some (.own xs)) : (σ.set i o)[i]? = some o := by
  have h1 := (List.getElem?_eq_some_iff.mp h).1
  rw [List.length_set] at h1
  rw [List.getElem?_set_self (by rw [← hl]; exact h1)]
/-- a slot gets a value -/
theorem FRel.setVal {i : Nat} {d : D} {x : V} (f : FRel K B0 env S ρ U σ H) (r : RV K H ρ (Bo B0 U) d x) : FRel K B0 (env.set i (.val d)) S ρ U (σ.set i (some x)) H := by
  refine ⟨f.rel.set (.val r), fun j xs h => ?_, fun j k xs ys a hjk h1 h2 => ?_, f.ob⟩
  · rcases own_set h with ⟨_, q⟩ | ⟨q, h⟩
    · cases q
    · rw [List.getElem?_set_ne q]
      exact f.own j xs h
  · rcases own_set h1 with ⟨_, q⟩ | ⟨q, h1⟩
    · cases q
    · rcases own_set h2 with ⟨_, q'⟩ | ⟨q', h2⟩
      · cases q'
      · rw [List.getElem?_set_ne q, List.getElem?_set_ne q']
        exact f.dis j k xs ys a hjk h1 h2
/-- a slot gets a list of its own, at a place that no slot holds -/
theorem FRel.setOwn {i : Nat} {xs : List D} {vs : List V} {a : Addr} (f : FRel K B0 env S ρ U σ H) (ha : H a = some (.lst vs)) (hU : U a) (r : RVs K H ρ (Bo B0 U) xs vs)
    (hn : ∀ (j : Nat) (ys : List D), j ≠ i → env[j]? = some (.own ys) → σ[j]? ≠ some (some (.ref a))) : FRel K B0 (env.set i (.own xs)) S ρ U (σ.set i (some (.ref a))) H := by
  refine ⟨f.rel.set (.own ha r (.inr hU)), fun j ys h => ?_, fun j k ys zs b hjk h1 h2 => ?_, f.ob⟩
  · have h0 := h
    rcases own_set h with ⟨rfl, q⟩ | ⟨q, h⟩
    · exact ⟨a, set_at f.rel.len h0, hU⟩
    · rw [List.getElem?_set_ne q]
      exact f.own j ys h
  · have g1 := h1
    have g2 := h2
    rcases own_set h1 with ⟨rfl, q⟩ | ⟨q, h1⟩
    · rcases own_set h2 with ⟨q', _⟩ | ⟨q', h2⟩
      · exact absurd q' hjk
      · rw [set_at f.rel.len g1, List.getElem?_set_ne q']
        intro e
        cases e
        exact hn k zs (fun z => q' z.symm) h2
    · rcases own_set h2 with ⟨rfl, q'⟩ | ⟨q', h2⟩
      · rw [set_at f.rel.len g2, List.getElem?_set_ne q]
        intro e e2
        cases e2
        exact hn j ys hjk h1 e
      · rw [List.getElem?_set_ne q, List.getElem?_set_ne q']
        exact f.dis j k ys zs b hjk h1 h2
/-- the content of a list of a slot's own is written -/
theorem FRel.wrOwn {i : Nat} {xs ys : List D} {vs : List V} {a : Addr} (f : FRel K B0 env S ρ U σ H) (he : env[i]? = some (.own xs)) (hs : σ[i]? = some (some (.ref a))) (hy : RVs K H ρ (Bo B0 U) ys vs) :
    FRel K B0 (env.set i (.own ys)) S ρ U σ (upd H a (.lst vs)) ∧ FExt K U ρ H U ρ (upd H a (.lst vs)) := by
  obtain ⟨b, hb, hU⟩ := f.own i xs he
  rw [hs] at hb
  cases hb
  have hB : Bo B0 U a := .inr hU
  have haρ : a ∉ ρ := (f.rel.bt a hB).2
  obtain ⟨ws, ha⟩ : ∃ ws, H a = some (.lst ws) := by
    have g := f.rel.eo i _ he
    rw [hs] at g
    cases g with
    | own h _ _ => exact ⟨_, h⟩
  have up : ∀ {d : D} {v : V}, RV K H ρ (Bo B0 U) d v → RV K (upd H a (.lst vs)) ρ (Bo B0 U) d v := fun r => r.upd (.inr hB) ha wr_lst
  have hl : i < env.length := (List.getElem?_eq_some_iff.mp he).1
  have rel : Rel K (env.set i (.own ys)) S ρ (Bo B0 U) σ (upd H a (.lst vs)) := by
    refine ⟨fun j s h => ?_, RS.updB haρ hB ha wr_lst f.rel.rs, f.rel.nd, fun b hb => ⟨?_, (f.rel.bt b hb).2⟩, by rw [List.length_set]; exact f.rel.len⟩
    · by_cases e : i = j
      · subst e
        rw [List.getElem?_set_self hl] at h
        cases h
        rw [hs]
        exact .own upd_same (hy.upd (.inr hB) ha wr_lst) hB
      · rw [List.getElem?_set_ne e] at h
        have g := f.rel.eo j s h
        have g2 := fun zs (q : s = .own zs) => f.dis i j xs zs a e he (by rw [h, q]) hs
        generalize σ[j]? = o at g g2
        cases g with
        | no => exact .no
        | val r => exact .val (up r)
        | own h1 r b => exact .own (by rw [upd_ne (fun z => g2 _ rfl (by rw [z]))]; exact h1) (r.upd (.inr hB) ha wr_lst) b
    · by_cases z : b = a
      · rw [z, upd_same]; exact fun q => by cases q
      · rw [upd_ne z]; exact (f.rel.bt b hb).1
  refine ⟨⟨rel, fun j zs h => ?_, fun j k zs ws' b hjk h1 h2 => ?_, f.ob⟩, ⟨fun _ _ h => h, fun _ h => h, fun b o h hn hu => by rw [upd_ne (fun z => hu (by rw [z]; exact hU))]; exact h, fun b ws h => sqT_upd h ha wr_lst.1 wr_lst.2, fun _ h h' => absurd h h', fun _ h => .inl h, fun b h => ?_⟩⟩
  · rcases own_set h with ⟨rfl, q⟩ | ⟨q, h⟩
    · exact ⟨a, hs, hU⟩
    · exact f.own j zs h
  · rcases own_set h1 with ⟨rfl, q⟩ | ⟨q, h1⟩
    · rcases own_set h2 with ⟨q', _⟩ | ⟨q', h2⟩
      · exact absurd q' hjk
      · exact f.dis i k xs ws' b hjk he h2
    · rcases own_set h2 with ⟨rfl, q'⟩ | ⟨q', h2⟩
      · exact f.dis j i zs xs b hjk h1 he
      · exact f.dis j k zs ws' b hjk h1 h2
  · by_cases z : b = a
    · rw [z, upd_same]; exact fun q => by cases q
    · rw [upd_ne z]; exact h
/-- a new list is a slot's own -/
theorem FRel.newOwn {i : Nat} {xs : List D} {vs : List V} {a : Addr} (f : FRel K B0 env S ρ U σ H) (e : Ext K ρ H ρ1 H1) (nd : ρ1.Nodup) (h0 : H a = none) (h1 : H1 a = some (.lst vs)) (hn : a ∉ ρ1) (r : RVs K H1 ρ1 (fun b => Bo B0 U b ∨ b = a) xs vs)
    (rs : RS K H1 ρ1 (fun b => Bo B0 U b ∨ b = a) S1) : FRel K B0 (env.set i (.own xs)) S1 ρ1 (fun b => U b ∨ b = a) (σ.set i (some (.ref a))) H1 ∧ FExt K U ρ H (fun b => U b ∨ b = a) ρ1 H1 := by
  have hB : ∀ b, (Bo B0 U b ∨ b = a) ↔ Bo B0 (fun b => U b ∨ b = a) b := fun b => ⟨fun h => h.elim (fun h => h.elim .inl fun h => .inr (.inl h)) fun h => .inr (.inr h), fun h => h.elim (fun h => .inl (.inl h)) fun h => h.elim (fun h => .inl (.inr h)) .inr⟩
  have hB0 : ¬ B0 a := fun q => (f.rel.bt a (.inl q)).1 h0
  have more : ∀ {d : D} {v : V}, RV K H ρ (Bo B0 U) d v → RV K H1 ρ1 (Bo B0 (fun b => U b ∨ b = a)) d v := fun q =>
    (q.more (B' := Bo B0 (fun b => U b ∨ b = a)) fun b o hb ho => ((hB b).mpr hb).elim _root_.id fun z => by rw [z, h0] at ho; cases ho).mono e
  have mores : ∀ {d : List D} {v : List V}, RVs K H ρ (Bo B0 U) d v → RVs K H1 ρ1 (Bo B0 (fun b => U b ∨ b = a)) d v := fun q =>
    (q.more (B' := Bo B0 (fun b => U b ∨ b = a)) fun b o hb ho => ((hB b).mpr hb).elim _root_.id fun z => by rw [z, h0] at ho; cases ho).mono e
  have rel : Rel K env S1 ρ1 (Bo B0 (fun b => U b ∨ b = a)) σ H1 := by
    refine ⟨fun j s h => ?_, rs.less fun b hb => (hB b).mpr hb, nd, fun b hb => ?_, f.rel.len⟩
    · have g := f.rel.eo j s h
      generalize σ[j]? = o at g
      cases g with
      | no => exact .no
      | val q => exact .val (more q)
      | own h2 q b => exact .own (e.keep _ _ h2 (f.rel.bt _ b).2) (mores q) (b.elim .inl fun b => .inr (.inl b))
    · rcases (hB b).mpr hb with hb | rfl
      · obtain ⟨g1, g2⟩ := f.rel.bt b hb
        cases q : H b with
        | none => exact absurd q g1
        | some o => exact ⟨by rw [e.keep b o q g2]; exact fun z => (by cases z), fun h3 => by rw [e.new b h3 g2] at q; cases q⟩
      · exact ⟨by rw [h1]; exact fun z => (by cases z), hn⟩
  have f1 : FRel K B0 env S1 ρ1 (fun b => U b ∨ b = a) σ H1 := ⟨rel, fun j ys h => let ⟨b, q, q'⟩ := f.own j ys h; ⟨b, q, .inl q'⟩, f.dis, fun b hb => hb.elim (f.ob b) fun z => by rw [z]; exact hB0⟩
  refine ⟨f1.setOwn h1 (.inr rfl) (r.less fun b hb => (hB b).mpr hb) fun j ys _ h q => ?_, ⟨e.pre, e.sub, fun b o h hn _ => e.keep b o h hn, e.tup, e.new, fun b hb => hb.elim .inl fun z => .inr (by rw [z]; exact h0), fun b h => ?_⟩⟩
  · have g := f.rel.eo j _ h
    rw [q] at g
    cases g with
    | own h2 _ _ => rw [h0] at h2; cases h2
  · by_cases hm : b ∈ ρ
    · exact rel.trk b (e.sub b hm)
    · cases q : H b with
      | none => exact absurd q h
      | some o => rw [e.keep b o q hm]; exact fun z => by cases z
/-- a slot's own list is a value from here on -/
theorem FRel.frz {i : Nat} {xs : List D} (f : FRel K B0 env S ρ U σ H) (he : env[i]? = some (.own xs)) : ∃ U', FRel K B0 (env.set i (.val (.lst xs))) S ρ U' σ H ∧ FExt K U ρ H U' ρ H := by
  obtain ⟨a, hs, hU⟩ := f.own i xs he
  refine ⟨fun b => U b ∧ b ≠ a, ?_, ⟨fun _ _ h => h, fun _ h => h, fun _ _ h _ _ => h, fun _ _ h => h, fun _ h h' => absurd h h', fun _ h => .inl h.1, fun _ h => h⟩⟩
  have hB : ∀ b, Bo B0 (fun b => U b ∧ b ≠ a) b → Bo B0 U b := fun b h => h.elim .inl fun h => .inr h.1
  have hl : i < env.length := (List.getElem?_eq_some_iff.mp he).1
  obtain ⟨vs, ha, rv⟩ : ∃ vs, H a = some (.lst vs) ∧ RVs K H ρ (Bo B0 U) xs vs := by
    have g := f.rel.eo i _ he
    rw [hs] at g
    cases g with
    | own h r _ => exact ⟨_, h, r⟩
  have na : ∀ j ys, i ≠ j → env[j]? = some (.own ys) → ∃ b, σ[j]? = some (some (.ref b)) ∧ U b ∧ b ≠ a := fun j ys hij h => by
    obtain ⟨b, q, q'⟩ := f.own j ys h
    exact ⟨b, q, q', fun z => f.dis i j xs ys a hij he h hs (by rw [q, z])⟩
  refine ⟨⟨fun j s h => ?_, f.rel.rs.less hB, f.rel.nd, fun b hb => f.rel.bt b (hB b hb), by rw [List.length_set]; exact f.rel.len⟩, fun j ys h => ?_, fun j k ys zs b hjk h1 h2 => ?_, fun b hb => f.ob b hb.1⟩
  · by_cases e : i = j
    · subst e
      rw [List.getElem?_set_self hl] at h
      cases h
      rw [hs]
      exact .val (.lst ha (f.rel.bt a (.inr hU)).2 (fun q => q.elim (f.ob a hU) fun q => q.2 rfl) (rv.less hB))
    · rw [List.getElem?_set_ne e] at h
      have g := f.rel.eo j s h
      have g2 := fun ys (q : s = .own ys) => na j ys e (by rw [h, q])
      generalize σ[j]? = o at g g2
      cases g with
      | no => exact .no
      | val r => exact .val (r.less hB)
      | own h1 r b =>
        obtain ⟨b', q1, q2, q3⟩ := g2 _ rfl
        cases q1
        exact .own h1 (r.less hB) (.inr ⟨q2, q3⟩)
  · rcases own_set h with ⟨_, q⟩ | ⟨q, h⟩
    · cases q
    · obtain ⟨b, q1, q2, q3⟩ := na j ys q h
      exact ⟨b, q1, q2, q3⟩
  · rcases own_set h1 with ⟨_, q⟩ | ⟨q, h1⟩
    · cases q
    · rcases own_set h2 with ⟨_, q'⟩ | ⟨q', h2⟩
      · cases q'
      · exact f.dis j k ys zs b hjk h1 h2
end
/-! ### ends -/
def FTo (K : Frag) (B0 U : Bd) (ρ : List Addr) (H : Hp) (v : Env) (S' : Store) (Q : L2.St → Hp → Prop) : Prop := ∀ σ' H' ρ' U', FRel K B0 v S' ρ' U' σ' H' → FExt K U ρ H U' ρ' H' → Q σ' H'
def FinS (K : Frag) (B0 U : Bd) (ρ : List Addr) (H : Hp) (o : O) (Dn : Ends) : Prop :=
  match o with
  | .nx v S' => FTo K B0 U ρ H v S' Dn.nx
  | .brk v S' => FTo K B0 U ρ H v S' Dn.bk
  | .cnt v S' => FTo K B0 U ρ H v S' Dn.ct
  | .ret d S' => ∀ v H' ρ' U', FExt K U ρ H U' ρ' H' → ρ'.Nodup → RS K H' ρ' B0 S' → RV K H' ρ' B0 d v → Dn.rt v H'
  | _ => False
def tS (K : Frag) (B0 : Bd) (f : Env → Store → O) : TS := fun Dn σ H => ∃ env S ρ U, FRel K B0 env S ρ U σ H ∧ FinS K B0 U ρ H (f env S) Dn
section
variable {K : Frag} {B0 U U1 : Bd} {env : Env} {S S1 : Store} {ρ ρ1 : List Addr} {σ : L2.St} {H H1 : Hp} {o : O} {Dn : Ends}
theorem FTo.step {v : Env} {Q : L2.St → Hp → Prop} (e : FExt K U ρ H U1 ρ1 H1) (h : FTo K B0 U ρ H v S Q) : FTo K B0 U1 ρ1 H1 v S Q := fun σ' H' ρ' U' f e' => h σ' H' ρ' U' f (e.trans e')
theorem FinS.step (e : FExt K U ρ H U1 ρ1 H1) (h : FinS K B0 U ρ H o Dn) : FinS K B0 U1 ρ1 H1 o Dn := by
  cases o with
  | nx v S' => exact FTo.step e h
  | brk v S' => exact FTo.step e h
  | cnt v S' => exact FTo.step e h
  | ret d S' => exact fun v H' ρ' U' e' nd rs rv => h v H' ρ' U' (e.trans e') nd rs rv
  | exc _ _ _ => exact h
  | bad => exact h
theorem FinS.opn {α : Type} {r : R α} {g : α → Store → O} (h : FinS K B0 U ρ H (r.o g) Dn) : ∃ a S1, r = .ok a S1 ∧ FinS K B0 U ρ H (g a S1) Dn := by
  cases r with
  | ok a S1 => exact ⟨a, S1, rfl, h⟩
  | exc _ _ _ => exact h.elim
  | bad => exact h.elim
end
/-! ### targets -/
def gS (K : Frag) (B0 : Bd) (f : D → Env → Store → R Env) : TG := fun x σ H Q => ∃ env S ρ U d v1 S1, FRel K B0 env S ρ U σ H ∧ RV K H ρ (Bo B0 U) d x ∧ f d env S = .ok v1 S1 ∧ FTo K B0 U ρ H v1 S1 Q
def gSs (K : Frag) (B0 : Bd) (f : List D → Env → Store → R Env) : TGs := fun xs σ H Q => ∃ env S ρ U ds v1 S1, FRel K B0 env S ρ U σ H ∧ RVs K H ρ (Bo B0 U) ds xs ∧ f ds env S = .ok v1 S1 ∧ FTo K B0 U ρ H v1 S1 Q
theorem dput_put {K : Frag} {H : Hp} {ρ : List Addr} {B : Bd} {d : D} {v : V} (key : Key) (rv : RV K H ρ B d v) (kvs : List (Key × D)) (vs : List V) (r : RVs K H ρ B (kvs.map (·.2)) vs) :
    ∃ ws, putK ((kvs.map (·.1)).zip vs) key v = ((dput kvs key d).map (·.1)).zip ws ∧ RVs K H ρ B ((dput kvs key d).map (·.2)) ws := by
  have hany : ∀ (kvs : List (Key × D)) (vs : List V), (kvs.map (·.2)).length = vs.length → (((kvs.map (·.1)).zip vs).any fun kv => decide (kv.1 = key)) = (kvs.any fun kv => decide (kv.1 = key)) := by
    intro kvs
    induction kvs with
    | nil => intro vs _; rfl
    | cons kv kvs ih =>
      intro vs hl
      cases vs with
      | nil => cases hl
      | cons w ws => rw [List.map_cons, List.zip_cons_cons, List.any_cons, List.any_cons, ih ws (by simpa using hl)]
  unfold putK dput
  rw [hany kvs vs r.length]
  by_cases h : (kvs.any fun kv => decide (kv.1 = key)) = true
  · rw [if_pos h, if_pos h]
    clear h hany
    induction kvs generalizing vs with
    | nil => exact ⟨[], by cases r; rfl, .nil⟩
    | cons kv kvs ih =>
      cases r with
      | cons r0 rs =>
        rename_i w ws
        obtain ⟨zs, e1, e2⟩ := ih ws rs
        by_cases hk : kv.1 = key
        · refine ⟨v :: zs, ?_, ?_⟩
          · rw [List.map_cons, List.zip_cons_cons, List.map_cons, List.map_cons, if_pos hk, if_pos hk, List.map_cons, List.zip_cons_cons, e1]
          · rw [List.map_cons, if_pos hk, List.map_cons]
            exact .cons rv e2
        · refine ⟨w :: zs, ?_, ?_⟩
          · rw [List.map_cons, List.zip_cons_cons, List.map_cons, List.map_cons, if_neg hk, if_neg hk, List.map_cons, List.zip_cons_cons, e1]
          · rw [List.map_cons, if_neg hk, List.map_cons]
            exact .cons r0 e2
  · rw [if_neg h, if_neg h]
    refine ⟨vs ++ [v], ?_, ?_⟩
    · rw [List.map_append]
      have : (kvs.map (·.1)).length = vs.length := by rw [List.length_map, ← r.length, List.length_map]
      rw [List.zip_append this]
      rfl
    · rw [List.map_append]
      exact r.append (.cons rv .nil)
def rSetD : V → V → V → Hp → (Hp → Prop) → Prop := fun o i v H Q => ∃ p H', o = .ref p ∧ DPut H p i v H' ∧ Q H'
theorem set_dict {X : Cx} (hu : X.A.units + 1 < cLine) : PSet X rSetD := by
  intro pins s σ H o i v ov iv u Q I ro ri rv h
  obtain ⟨p, H', rfl, g, q⟩ := h
  cases ro
  exact d_setItem hu I g ri rv fun s' I' => ⟨H', I', q⟩
theorem set_any {X : Cx} (hu : X.A.units + 1 < cLine) : PSet X (fun o i v H Q => rSetL o i v H Q ∨ rSetD o i v H Q) :=
  fun pins s σ H o i v ov iv u Q I ro ri rv h => h.elim (set_list pins s σ H o i v ov iv u Q I ro ri rv) (set_dict hu pins s σ H o i v ov iv u Q I ro ri rv)
/-- a cell is written -/
theorem Rel.setCell {K : Frag} {env : Env} {S : Store} {ρ : List Addr} {B : Bd} {σ : L2.St} {H : Hp} {n : Nat} {q : Addr} {u v : HO} {c : Cell} (rel : Rel K env S ρ B σ H) (hn : ρ[n]? = some q) (hq : H q = some u) (hu : Wr u) (hc : CellOk K (upd H q v) ρ B c v) :
    Rel K env (S.set n c) ρ B σ (upd H q v) ∧ Ext K ρ H ρ (upd H q v) := by
  have e : Ext K ρ H ρ (upd H q v) := Ext.upd_cell (List.mem_of_getElem? hn) hq hu
  exact ⟨rel.mono e (RS.set rel.nd hn hq hu hc rel.rs) rel.nd, e⟩
end IL
/-! IX: targets of statements; a, b = x, y. -/
namespace IL
open PySem PySem.Spec PyProof.Rows L2

/-- a name, seen in slot j -/
def nmB (N : List Str) (sc : Scope) (j : Nat) : Expr → Bool
  | .Name x _ => visB N sc j x
  | _ => false
section
variable (W : KwT) (N : List Str)
mutual
def chkG (sc : Scope) (fn : Str → Bool) : Expr → E → Bool
  | e, .var i => match e with | .Name x _ => locB N sc fn i x | _ => false
  | e, .tup es => match e with | .Tuple es' _ _ => chkGs sc fn es' es | _ => false
  | e, .ix a i => match e with
    | .Subscript a' i' _ => notSlice i' && chkE W N sc i' i && (match ownIx a with
      | some j => nmB N sc j a'
      | none => chkE W N sc a' a)
    | _ => false
  | _, _ => false
def chkGs (sc : Scope) (fn : Str → Bool) : List Expr → E → Bool
  | e, .nl => match e with | [] => true | _ => false
  | e, .cs a b => match e with | e :: es => notStar e && chkG sc fn e a && chkGs sc fn es b | [] => false
  | _, _ => false
end
end
theorem chkGs_all {W : KwT} (t : E) : ∀ {tgs : List Expr} {N : List Str} {sc : Scope} {fn : Str → Bool}, chkGs W N sc fn tgs t = true → tgs.all notStar = true := by
  induction t with
  | nl =>
    intro tgs N sc fn c
    unfold chkGs at c
    cases tgs with
    | nil => rfl
    | cons e es => cases c
  | cs a b iha ihb =>
    intro tgs N sc fn c
    unfold chkGs at c
    cases tgs with
    | nil => cases c
    | cons e es =>
      have c2 : (notStar e && chkG W N sc fn e a && chkGs W N sc fn es b) = true := c
      rw [Bool.and_eq_true, Bool.and_eq_true] at c2
      rw [List.all_cons, c2.1.1, ihb c2.2]
      rfl
  | _ =>
    intro tgs N sc fn c
    unfold chkGs at c
    cases c
theorem asgSs_len {W : KwT} {G : Str → Option D} {cal : Cal} (t : E) : ∀ {tgs : List Expr} {N : List Str} {sc : Scope} {fn : Str → Bool} {d : List D} {v v1 : Env} {S S1 : Store}, chkGs W N sc fn tgs t = true → asgSs G cal t d v S = .ok v1 S1 → d.length = tgs.length := by
  induction t with
  | nl =>
    intro tgs N sc fn d v v1 S S1 c h
    unfold asgSs at h
    unfold chkGs at c
    cases d with
    | cons d ds => cases h
    | nil =>
      cases tgs with
      | nil => rfl
      | cons e es => cases c
  | cs a b iha ihb =>
    intro tgs N sc fn d v v1 S S1 c h
    unfold asgSs at h
    unfold chkGs at c
    cases d with
    | nil => cases h
    | cons d ds =>
      cases tgs with
      | nil => cases c
      | cons e es =>
        obtain ⟨v2, S2, h1, h2⟩ := bind_ok h
        have c2 : (notStar e && chkG W N sc fn e a && chkGs W N sc fn es b) = true := c
        rw [Bool.and_eq_true] at c2
        rw [List.length_cons, List.length_cons, ihb c2.2 h2]
  | _ =>
    intro tgs N sc fn d v v1 S S1 c h
    unfold asgSs at h
    cases h
variable {G : Str → Option D} {W : KwT} {T : Str → Option Fn} {cal : Cal} {n : Nat}
/-- a cell's item is written -/
theorem setIx_sem {K : Frag} {B0 U : Bd} {env : Env} {S S1 : Store} {ρ : List Addr} {σ : L2.St} {H : Hp} {x y d : D} {o i v : V} {Q : Hp → Prop} (f : FRel K B0 env S ρ U σ H) (ro : RW K H ρ (Bo B0 U) x o) (ri : RW K H ρ (Bo B0 U) y i) (rv : RV K H ρ (Bo B0 U) d v)
    (h : setIxD x y d S = .ok () S1) (q : ∀ H', FRel K B0 env S1 ρ U σ H' → FExt K U ρ H U ρ H' → Q H') : rSetL o i v H Q ∨ rSetD o i v H Q := by
  unfold setIxD at h
  split at h
  · obtain ⟨p, rfl, hn⟩ := ro.ref
    have hm := List.mem_of_getElem? hn
    split at h
    · rename_i xs hS
      obtain ⟨vs, h1, h2⟩ := cell_lst f.rel.rs hn hS
      split at h
      · cases ri.int
        split at h
        · rename_i j hj
          cases h
          obtain ⟨r1, e1⟩ := f.rel.setCell (v := .lst (vs.set j v)) hn h1 wr_lst (.lst ((h2.set rv j).upd (.inl hm) h1 wr_lst))
          exact .inl ⟨p, vs, _, j, rfl, rfl, h1, by rw [← h2.length]; exact hj, q _ (f.mono r1) (FExt.of e1 r1.trk)⟩
        · cases h
      · cases h
    · rename_i kvs hS
      obtain ⟨vs, h1, h2⟩ := cell_dic f.rel.rs hn hS
      split at h
      · rename_i key hk
        cases keyD_rv ri hk
        split at h
        · rename_i hl
          cases h
          obtain ⟨ws, w1, w2⟩ := dput_put key rv kvs vs h2
          have hlen : ((kvs.map (·.1)).zip vs).length = kvs.length := by
            rw [List.length_zip, List.length_map, ← h2.length, List.length_map, Nat.min_self]
          obtain ⟨r1, e1⟩ := f.rel.setCell (v := .dK (putK ((kvs.map (·.1)).zip vs) key v)) hn h1 wr_dK (by rw [w1]; exact .dic (w2.upd (.inl hm) h1 wr_dK))
          exact .inr ⟨p, _, rfl, DPut.k h1 (by rw [hlen]; exact hl), q _ (f.mono r1) (FExt.of e1 r1.trk)⟩
        · cases h
      · cases h
    · cases h
  · cases h
theorem PG.or {X : Cx} {e : Expr} {t u : TG} (h : PG X e t) (g : PG X e u) : PG X e (fun v σ H Q => t v σ H Q ∨ u v σ H Q) := ⟨fun pins s σ H v w Q I r q => q.elim (h.run pins s σ H v w Q I r) (g.run pins s σ H v w Q I r)⟩
theorem tgtS_both {X : Cx} {B0 : Bd} (c : Ctx X G W T cal n) (t : E) :
    (∀ tg, chkG W X.N X.env.scope X.fn tg t = true → PG X tg (gS X.K B0 (asgS G cal t))) ∧ (∀ tgs, chkGs W X.N X.env.scope X.fn tgs t = true → PGs X tgs (gSs X.K B0 (asgSs G cal t))) := by
  induction t with
  | var i =>
    refine ⟨fun tg h => ?_, fun tgs h => (by unfold chkGs at h; cases h)⟩
    unfold chkG at h
    cases tg with
    | Name x p =>
      obtain ⟨h1, h2, h3⟩ := loc_of h
      refine PG.mono (pg_name c.nd h1 h2 h3) fun v σ H Q ⟨env, S, ρ, U, d, v1, S1, f, rv, hf, h⟩ => ?_
      unfold asgS at hf
      cases hf
      exact h _ _ _ _ (f.setVal rv) .refl
    | _ => cases h
  | tup es ih =>
    refine ⟨fun tg h => ?_, fun tgs h => (by unfold chkGs at h; cases h)⟩
    unfold chkG at h
    cases tg with
    | Tuple es' k p =>
      have h : chkGs W X.N X.env.scope X.fn es' es = true := h
      obtain ⟨h1, h2⟩ := asg_all (env := X.env) (chkGs_all es h)
      refine PG.mono (PG.or (pg_tup c.calm (ih.2 es' h) h1 h2) (pg_unl c.calm (ih.2 es' h) h1 h2)) fun v σ H Q ⟨env, S, ρ, U, d, v1, S1, f, rv, hf, q⟩ => ?_
      unfold asgS at hf
      split at hf
      · rename_i xs
        obtain ⟨a, ws, rfl, g1, g2⟩ := (RV.rw rv).tup
        refine .inl ⟨a, ws, rfl, g1, ?_, env, S, ρ, U, xs, v1, S1, f, g2, hf, q⟩
        rw [← g2.length]
        exact asgSs_len es h hf
      · rename_i xs
        obtain ⟨a, ws, rfl, g1, _, g2⟩ := (RV.rw rv).lst
        refine .inr ⟨a, ws, rfl, SqL.of g1, ?_, env, S, ρ, U, xs, v1, S1, f, g2, hf, q⟩
        rw [← g2.length]
        exact asgSs_len es h hf
      · cases hf
    | _ => cases h
  | nl =>
    refine ⟨fun tg h => (by unfold chkG at h; cases h), fun tgs h => ?_⟩
    unfold chkGs at h
    cases tgs with
    | nil =>
      refine PGs.mono pgs_nil fun v σ H Q ⟨env, S, ρ, U, d, v1, S1, f, rv, hf, h⟩ => ?_
      unfold asgSs at hf
      cases d with
      | nil =>
        cases hf
        cases rv
        exact ⟨rfl, h _ _ _ _ f .refl⟩
      | cons d ds => cases hf
    | cons e es => cases h
  | cs a b iha ihb =>
    refine ⟨fun tg h => (by unfold chkG at h; cases h), fun tgs h => ?_⟩
    unfold chkGs at h
    cases tgs with
    | nil => cases h
    | cons e es =>
      have c2 : (notStar e && chkG W X.N X.env.scope X.fn e a && chkGs W X.N X.env.scope X.fn es b) = true := h
      rw [Bool.and_eq_true, Bool.and_eq_true] at c2
      refine PGs.mono (pgs_cons (iha.1 e c2.1.2) (ihb.2 es c2.2) (by rw [asg_cons c2.1.1]; rfl)) fun v σ H Q ⟨env, S, ρ, U, d, v1, S1, f, rv, hf, q⟩ => ?_
      unfold asgSs at hf
      cases rv with
      | nil => cases hf
      | cons r rs =>
        obtain ⟨v2, S2, q1, q2⟩ := bind_ok hf
        exact ⟨_, _, rfl, env, S, ρ, U, _, v2, S2, f, r, q1, fun σ' H' ρ' U' f' e' => ⟨v2, S2, ρ', U', _, v1, S1, f', rs.fmono e', q2, FTo.step e' q⟩⟩
  | ix a i iha ihi =>
    refine ⟨fun tg h => ?_, fun tgs h => (by unfold chkGs at h; cases h)⟩
    unfold chkG at h
    cases tg with
    | Subscript a' i' p =>
      have h : (notSlice i' && chkE W X.N X.env.scope i' i && (match ownIx a with
        | some j => nmB X.N X.env.scope j a'
        | none => chkE W X.N X.env.scope a' a)) = true := h
      rw [Bool.and_eq_true, Bool.and_eq_true] at h
      obtain ⟨⟨h0, h1⟩, h2⟩ := h
      have hI := (se_all (G := G) (W := W) (T := T) (cal := cal) (n := n) i).fE X c _ h1
      have hass : ∀ v, assign (.Subscript a' i' p) X.env v = (do
          let ov ← holding [v] (eval a' X.env)
          let iv ← holding [v, ov] (eval i' X.env)
          standAt p
          holding [v, ov, iv] (setItem ov iv v)
          release [v, ov, iv] []) := by
        intro v
        cases i' <;> first | rfl | cases h0
      cases hj : ownIx a with
      | some j =>
        rw [hj] at h2
        have h2 : nmB X.N X.env.scope j a' = true := h2
        cases a' with
        | Name x px =>
          obtain ⟨g1, g2, g3, g4⟩ := vis_of h2
          refine PG.mono (pg_sub (pe_var g1 g2 g3 g4) hI set_list hass) fun v σ H Q ⟨env, S, ρ, U, d, v1, S1, f, rv, hf, q⟩ => ?_
          unfold asgS at hf
          rw [hj] at hf
          obtain ⟨y, S2, q1, q2⟩ := bind_ok hf
          unfold setOwnD at q2
          split at q2
          · rename_i xs he
            split at q2
            · split at q2
              · rename_i k m hk
                cases q2
                obtain ⟨b, hs, hU⟩ := f.own j xs he
                refine ⟨_, hs, tG_case f.rel q1 fun iv H2 ρ2 e2 rel2 p2 => ?_⟩
                cases (p2.rw f.rel.b0).int
                have f2 := f.mono rel2
                obtain ⟨vs, hb, rvs⟩ : ∃ vs, H2 b = some (.lst vs) ∧ RVs X.K H2 ρ2 (Bo B0 U) xs vs := by
                  have g := f2.rel.eo j _ he
                  rw [hs] at g
                  cases g with
                  | own h r _ => exact ⟨_, h, r⟩
                obtain ⟨w1, w2⟩ := f2.wrOwn he hs (rvs.set (RV.mono e2 rv) m)
                exact ⟨b, vs, _, m, rfl, rfl, hb, by rw [← rvs.length]; exact hk, q _ _ _ _ w1 ((FExt.of e2 rel2.trk).trans w2)⟩
              · cases q2
            · cases q2
          · cases q2
        | _ => cases h2
      | none =>
        rw [hj] at h2
        have h2 : chkE W X.N X.env.scope a' a = true := h2
        have hA := (se_all (G := G) (W := W) (T := T) (cal := cal) (n := n) a).fE X c _ h2
        refine PG.mono (pg_sub hA hI (set_any c.u1) hass) fun v σ H Q ⟨env, S, ρ, U, d, v1, S1, f, rv, hf, q⟩ => ?_
        unfold asgS at hf
        rw [hj] at hf
        obtain ⟨x, S2, q1, q2⟩ := bind_ok hf
        obtain ⟨y, S3, q3, q4⟩ := bind_ok q2
        obtain ⟨_, S4, q5, q6⟩ := bind_ok q4
        cases q6
        refine tG_case f.rel q1 fun ov H2 ρ2 e2 rel2 p2 => tG_case rel2 q3 fun iv H3 ρ3 e3 rel3 p3 => ?_
        exact setIx_sem (f.mono rel3) ((p2.rw f.rel.b0).mono e3) (p3.rw rel2.b0) (RV.mono (e2.trans e3) rv) q5 fun H' f' e' => q _ _ _ _ f' ((FExt.of (e2.trans e3) rel3.trk).trans e')
    | _ => cases h
  | _ => exact ⟨fun tg h => (by unfold chkG at h; cases h), fun tgs h => (by unfold chkGs at h; cases h)⟩

/-! ### a, b = x, y -/
inductive PRs (K : Frag) (H : Hp) (ρ : List Addr) (B : Bd) : List Bool → List D → List V → List Addr → Prop
  | nil : PRs K H ρ B [] [] [] []
  | val {ks : List Bool} {d : D} {v : V} {ds : List D} {vs : List V} {as : List Addr} : RV K H ρ B d v → PRs K H ρ B ks ds vs as → PRs K H ρ B (false :: ks) (d :: ds) (v :: vs) as
  | own {ks : List Bool} {xs : List D} {ws : List V} {a : Addr} {ds : List D} {vs : List V} {as : List Addr} : H a = some (.lst ws) → RVs K H ρ B xs ws → PRs K H ρ B ks ds vs as → PRs K H ρ B (true :: ks) (.lst xs :: ds) (.ref a :: vs) (a :: as)
theorem PRs.less {K : Frag} {H : Hp} {ρ : List Addr} {B B' : Bd} (e : ∀ a, B' a → B a) : ∀ {ks : List Bool} {ds : List D} {vs : List V} {as : List Addr}, PRs K H ρ B ks ds vs as → PRs K H ρ B' ks ds vs as
  | _, _, _, _, .nil => .nil
  | _, _, _, _, .val r q => .val (r.less e) (PRs.less e q)
  | _, _, _, _, .own h r q => .own h (r.less e) (PRs.less e q)
abbrev Ba (B : Bd) (as : List Addr) : Bd := fun b => B b ∨ b ∈ as
abbrev wP (K : Frag) (ks : List Bool) : Wish (List D) (List V) := fun B H H' ρ' S' ds vs => ∃ as, (∀ a, a ∈ as → H a = none ∧ a ∉ ρ' ∧ H' a ≠ none) ∧ as.Nodup ∧ PRs K H' ρ' (Ba B as) ks ds vs as ∧ RS K H' ρ' (Ba B as) S'
theorem Ext.dom {K : Frag} {ρ ρ1 : List Addr} {H H1 : Hp} (e : Ext K ρ H ρ1 H1) (trk : ∀ a, a ∈ ρ1 → H1 a ≠ none) : ∀ a, H1 a = none → H a = none := fun a h =>
  Classical.byContradiction fun q => (FExt.of (U := fun _ => False) e trk).dom a q h
theorem down_P {K : Frag} {ks : List Bool} : Down K (wP K ks) := by
  intro B ρ H ρ1 H1 ρ' H' S' ds vs e e' ⟨as, h1, h2, h3, h4⟩
  refine ⟨as, fun a ha => ⟨?_, (h1 a ha).2⟩, h2, h3, h4⟩
  have h0 := (h1 a ha).1
  cases q : H a with
  | none => rfl
  | some o =>
    by_cases hm : a ∈ ρ
    · exact absurd (e'.sub a (e.sub a hm)) (h1 a ha).2.1
    · rw [e.keep a o q hm] at h0; cases h0
/-- a new place is forbidden -/
theorem Rel.forbid {K : Frag} {env : Env} {S S1 : Store} {ρ ρ1 : List Addr} {B : Bd} {σ : L2.St} {H H1 : Hp} {a : Addr} (rel : Rel K env S ρ B σ H) (e : Ext K ρ H ρ1 H1) (nd : ρ1.Nodup) (h0 : H a = none) (h1 : H1 a ≠ none) (hn : a ∉ ρ1) (rs : RS K H1 ρ1 (fun b => B b ∨ b = a) S1) :
    Rel K env S1 ρ1 (fun b => B b ∨ b = a) σ H1 := by
  have nm : ∀ b o, (B b ∨ b = a) → H b = some o → B b := fun b o hb ho => hb.elim _root_.id fun z => by rw [z, h0] at ho; cases ho
  refine ⟨fun j s h => ?_, rs, nd, fun b hb => ?_, rel.len⟩
  · have g := rel.eo j s h
    generalize σ[j]? = o at g
    cases g with
    | no => exact .no
    | val q => exact .val ((q.more (B' := fun b => B b ∨ b = a) nm).mono e)
    | own h2 q b => exact .own (e.keep _ _ h2 (rel.bt _ b).2) ((q.more (B' := fun b => B b ∨ b = a) nm).mono e) (.inl b)
  · rcases hb with hb | rfl
    · obtain ⟨g1, g2⟩ := rel.bt b hb
      cases q : H b with
      | none => exact absurd q g1
      | some o => exact ⟨by rw [e.keep b o q g2]; exact fun z => (by cases z), fun h3 => by rw [e.new b h3 g2] at q; cases q⟩
    · exact ⟨h1, hn⟩
section
variable {X : Cx} {e : Expr} {es : List Expr} {f : Env → Store → R D} {fs : Env → Store → R (List D)} {ks : List Bool}
theorem pp_nil : PA X [] (tG X.K (wP X.K []) (fun _ S => .ok [] S)) := PA.mono pa_nil fun σ H Q ⟨env, S, ρ, B, rel, fin⟩ =>
  Fin.here rel fin ⟨[], fun _ h => (by cases h), .nil, .nil, rel.rs.less fun b h => h.elim _root_.id fun h => by cases h⟩
theorem pp_val (hs : notStar e = true) (he : PDE X .val e f) (hr : PA X es (tG X.K (wP X.K ks) fs)) : PA X (e :: es) (tG X.K (wP X.K (false :: ks)) (fun v S => (f v S).bind fun x S1 => (fs v S1).bind fun xs S2 => .ok (x :: xs) S2)) :=
  PA.mono (pa_cons he hr (star_cons hs)) fun σ H Q ⟨env, S, ρ, B, rel, fin⟩ =>
    Fin.bind down_P rel fin fun d1 S1 v1 H1 ρ1 rel1 e1 p1 fin1 => by
      obtain ⟨xs, S2, hxs, fin2⟩ := Fin.okB fin1
      refine tG_case rel1 hxs fun vs H2 ρ2 e2 rel2 p2 => ?_
      obtain ⟨as, h1, h2, h3, h4⟩ := p2
      have p1 : RV X.K H1 ρ1 B d1 v1 := p1
      refine fin2 _ _ _ e2 rel2.nd rel2.rs ⟨as, h1, h2, .val ((p1.more (B' := Ba B as) fun b o hb ho => hb.elim _root_.id fun z => by rw [(h1 b z).1] at ho; cases ho).mono e2) h3, h4⟩
theorem pp_own (hs : notStar e = true) (he : PDE X .fr e f) (hr : PA X es (tG X.K (wP X.K ks) fs)) : PA X (e :: es) (tG X.K (wP X.K (true :: ks)) (fun v S => (f v S).bind fun x S1 => (fs v S1).bind fun xs S2 => match x with | .lst _ => .ok (x :: xs) S2 | _ => .bad)) :=
  PA.mono (pa_cons he hr (star_cons hs)) fun σ H Q ⟨env, S, ρ, B, rel, fin⟩ => by
    obtain ⟨x, S1, hx, fin1⟩ := Fin.okB fin
    obtain ⟨xs, S2, hxs, fin2⟩ := Fin.okB fin1
    refine tG_case rel hx fun v1 H1 ρ1 e1 rel1 p1 => ?_
    split at fin2
    · rename_i ys
      obtain ⟨a, ws, rfl, h0, h1, hn, r, rs⟩ := p1
      have relB := rel.forbid e1 rel1.nd h0 (by rw [h1]; exact fun z => by cases z) hn rs
      refine tG_case relB hxs fun vs H2 ρ2 e2 rel2 p2 => ?_
      obtain ⟨as, g1, g2, g3, g4⟩ := p2
      have hB : ∀ b, Ba B (a :: as) b → Ba (fun b => B b ∨ b = a) as b := fun b h => h.elim (fun h => .inl (.inl h)) fun h => (List.mem_cons.mp h).elim (fun h => .inl (.inr h)) .inr
      have h2 : H2 a = some (.lst ws) := e2.keep _ _ h1 hn
      refine fin2 _ _ _ (e1.trans e2) rel2.nd (rel2.rs.less fun b h => .inl h) ⟨a :: as, fun b hb => ?_, ?_, .own h2 ?_ (g3.less hB), g4.less hB⟩
      · rcases List.mem_cons.mp hb with rfl | hb
        · exact ⟨h0, (rel2.bt b (.inr rfl)).2, by rw [h2]; exact fun z => by cases z⟩
        · exact ⟨Ext.dom e1 rel1.trk b (g1 b hb).1, (g1 b hb).2⟩
      · rw [List.nodup_cons]
        exact ⟨fun h => (by have := (g1 a h).1; rw [h1] at this; cases this), g2⟩
      · exact ((r.more (B' := Ba (fun b => B b ∨ b = a) as) fun b o hb ho => hb.elim _root_.id fun z => by rw [(g1 b z).1] at ho; cases ho).mono e2).less hB
    · exact fin2.elim
end
def setSt (σ : L2.St) : List (Nat × Bool) → List V → L2.St
  | (i, _) :: ts, v :: vs => setSt (σ.set i (some v)) ts vs
  | _, _ => σ
theorem par_set {K : Frag} {B0 U : Bd} {S : Store} {ρ : List Addr} {H : Hp} : ∀ {ts : List (Nat × Bool)} {ds : List D} {vs : List V} {as : List Addr} {env v1 : Env} {σ : L2.St}, PRs K H ρ (Bo B0 U) (ts.map (·.2)) ds vs as → setPar ts ds env = some v1 → FRel K B0 env S ρ U σ H →
    (∀ a, a ∈ as → U a) → as.Nodup → (∀ a, a ∈ as → ∀ (j : Nat) (ys : List D), env[j]? = some (.own ys) → σ[j]? ≠ some (some (.ref a))) → FRel K B0 v1 S ρ U (setSt σ ts vs) H
  | [], _, _, _, env, v1, σ, .nil, h, f, _, _, _ => by
    unfold setPar at h
    cases h
    exact f
  | (i, false) :: ts, _, _, _, env, v1, σ, .val (d := d0) (ds := ds0) r q, h, f, hU, nd, hn => by
    have h : setPar ts ds0 (env.set i (.val d0)) = some v1 := by unfold setPar at h; exact h
    show FRel K B0 v1 S ρ U (setSt (σ.set i (some _)) ts _) H
    refine par_set q h (f.setVal r) hU nd fun a ha j ys hj => ?_
    rcases own_set hj with ⟨_, z⟩ | ⟨z, hj⟩
    · cases z
    · rw [List.getElem?_set_ne z]
      exact hn a ha j ys hj
  | (i, true) :: ts, _, _, _, env, v1, σ, .own (xs := xs0) (a := a) (ds := ds0) h1 r q, h, f, hU, nd, hn => by
    have h : setPar ts ds0 (env.set i (.own xs0)) = some v1 := by unfold setPar at h; exact h
    rw [List.nodup_cons] at nd
    show FRel K B0 v1 S ρ U (setSt (σ.set i (some _)) ts _) H
    refine par_set q h (f.setOwn h1 (hU a List.mem_cons_self) r fun j ys _ hj => hn a List.mem_cons_self j ys hj) (fun b hb => hU b (List.mem_cons_of_mem _ hb)) nd.2 fun b hb j ys hj => ?_
    have g0 := hj
    rcases own_set hj with ⟨rfl, _⟩ | ⟨z, hj⟩
    · rw [set_at f.rel.len g0]
      intro e
      cases e
      exact nd.1 hb
    · rw [List.getElem?_set_ne z]
      exact hn b (List.mem_cons_of_mem _ hb) j ys hj
/-- new lists, that no slot holds yet -/
theorem FRel.many {K : Frag} {B0 U : Bd} {env : Env} {S S1 : Store} {ρ ρ1 : List Addr} {σ : L2.St} {H H1 : Hp} {as : List Addr} (f : FRel K B0 env S ρ U σ H) (e : Ext K ρ H ρ1 H1) (nd : ρ1.Nodup) (h : ∀ a, a ∈ as → H a = none ∧ a ∉ ρ1 ∧ H1 a ≠ none) (rs : RS K H1 ρ1 (Ba (Bo B0 U) as) S1) :
    FRel K B0 env S1 ρ1 (Ba U as) σ H1 ∧ FExt K U ρ H (Ba U as) ρ1 H1 := by
  have hB : ∀ b, Ba (Bo B0 U) as b ↔ Bo B0 (Ba U as) b := fun b => ⟨fun h => h.elim (fun h => h.elim .inl fun h => .inr (.inl h)) fun h => .inr (.inr h), fun h => h.elim (fun h => .inl (.inl h)) fun h => h.elim (fun h => .inl (.inr h)) .inr⟩
  have nm : ∀ b o, Bo B0 (Ba U as) b → H b = some o → Bo B0 U b := fun b o hb ho => ((hB b).mpr hb).elim _root_.id fun z => by rw [(h b z).1] at ho; cases ho
  have trk1 := rs.trk
  have rel : Rel K env S1 ρ1 (Bo B0 (Ba U as)) σ H1 := by
    refine ⟨fun j s h => ?_, rs.less fun b hb => (hB b).mpr hb, nd, fun b hb => ?_, f.rel.len⟩
    · have g := f.rel.eo j s h
      generalize σ[j]? = o at g
      cases g with
      | no => exact .no
      | val q => exact .val ((q.more (B' := Bo B0 (Ba U as)) nm).mono e)
      | own h2 q b => exact .own (e.keep _ _ h2 (f.rel.bt _ b).2) ((q.more (B' := Bo B0 (Ba U as)) nm).mono e) (b.elim .inl fun b => .inr (.inl b))
    · rcases (hB b).mpr hb with hb | hb
      · obtain ⟨g1, g2⟩ := f.rel.bt b hb
        cases q : H b with
        | none => exact absurd q g1
        | some o => exact ⟨by rw [e.keep b o q g2]; exact fun z => (by cases z), fun h3 => by rw [e.new b h3 g2] at q; cases q⟩
      · exact ⟨(h b hb).2.2, (h b hb).2.1⟩
  refine ⟨⟨rel, fun j ys h => let ⟨b, q, q'⟩ := f.own j ys h; ⟨b, q, .inl q'⟩, f.dis, fun b hb => hb.elim (f.ob b) fun z q => (f.rel.bt b (.inl q)).1 (h b z).1⟩, ⟨e.pre, e.sub, fun b o h hn _ => e.keep b o h hn, e.tup, e.new, fun b hb => hb.elim .inl fun z => .inr (h b z).1, fun b h => ?_⟩⟩
  by_cases hm : b ∈ ρ
  · exact rel.trk b (e.sub b hm)
  · cases q : H b with
    | none => exact absurd q h
    | some o => rw [e.keep b o q hm]; exact fun z => by cases z
end IL
/-! IY: statements held against the small syntax. -/
namespace IL
open PySem PySem.Spec PyProof.Rows L2

/-- a comprehension's value: is the target's store one that is swapped? told either way -/
def lineOk (sc : Scope) (y : Str) (py : Pos) (e : Expr) : Bool :=
  notComp e || decide (sc.names.lookup y = some .cell) || (match e with
    | .ListComp _ _ scope pos => decide (sc.names.lookup y = some .local) && (py.line == pos.line) && !(scope.names.any fun (n, k) => n == y && (k == .local || k == .cell))
    | _ => false)
/-- steps that no text has -/
def ghost : S → Bool
  | .frz _ => true
  | _ => false
section
variable (W : KwT) (N : List Str)
def chkP (sc : Scope) : List Expr → E → List (Nat × Bool) → Bool
  | [], .nl, [] => true
  | e :: es, .cs a b, (_, k) :: ts => notStar e && chkE W N sc e a && (if k = true then decide (kd a = .fr) else decide (kd a ≠ .own)) && chkP sc es b ts
  | _, _, _ => false
/-- two names, or three, of one line -/
def chk2 (sc : Scope) (i j : Nat) (x y : Str) (px py : Pos) : Bool :=
  decide (N[i]? = some x) && decide (N[j]? = some y) && decide (i ≠ j) && decide (sc.names.lookup x = some .local) && decide (sc.names.lookup y = some .local) && decide (x ≠ y) && (py.line == px.line)
mutual
def chkS (sc : Scope) (fn : Str → Bool) : Stmt → S → Bool
  | st, .asg t e => match st with
    | .Assign [tg] e' _ => chkE W N sc e' e && decide (kd e ≠ .own) && (match t with
      | .var i => (match tg with | .Name y py => locB N sc fn i y && lineOk sc y py e' | _ => false)
      | t => notName tg && notStar tg && chkG W N sc fn tg t && swN sc tg e')
    | _ => false
  | st, .seto i e => match st with
    | .Assign [.Name y py] e' _ => chkE W N sc e' e && decide (kd e = .fr) && locB N sc fn i y && lineOk sc y py e'
    | _ => false
  | st, .par ts es => match st with
    | .Assign [.Tuple [.Name x px, .Name y py] _ _] (.Tuple [a, b] _ _) _ => (match ts with
      | [(i, _), (j, _)] => chk2 N sc i j x y px py && !([a, b].all (foldedForSure 8)) && !([a, b].all (constantsAlone 8)) && chkP W N sc [a, b] es ts
      | _ => false)
    | .Assign [.Tuple [.Name x px, .Name y py, .Name z pz] _ _] (.Tuple [a, b, c] _ _) _ => (match ts with
      | [(i, _), (j, _), (l, _)] => chk2 N sc i j x y px py && chk2 N sc i l x z px pz && decide (j ≠ l) && decide (y ≠ z) && !([a, b, c].all (foldedForSure 8)) && !([a, b, c].all (constantsAlone 8)) && chkP W N sc [a, b, c] es ts
      | _ => false)
    | _ => false
  | st, .app i e => match st with
    | .Expr (.Call (.Attribute (.Name x _) m apos) [e'] [] cpos) _ => decide (m = "append") && visB N sc i x && notStar e' && pathB apos cpos && chkE W N sc e' e && decide (kd e ≠ .own)
    | _ => false
  | st, .ext i e => match st with
    | .Expr (.Call (.Attribute (.Name x _) m apos) [e'] [] cpos) _ => decide (m = "extend") && visB N sc i x && notStar e' && pathB apos cpos && chkE W N sc e' e
    | _ => false
  | st, .expr e => match st with | .Expr e' _ => notComp e' && chkE W N sc e' e | _ => false
  | st, .ife c a b => match st with | .If c' a' b' _ => chkC1 W N sc c' c && chkB sc fn a' a && chkB sc fn b' b | _ => false
  | st, .whl c b => match st with | .While c' b' [] _ => chkC1 W N sc c' c && chkB sc fn b' b | _ => false
  | st, .for_ t src b => match st with | .For tg it b' [] _ => notSet it && chkI W N true sc (isTup tg) it src && chkT N sc fn tg t && chkB sc fn b' b | _ => false
  | st, .forc t src b => match st with | .For tg it b' [] _ => notSet it && chkI W N true sc (isTup tg) it src && chkT N sc fn tg t && chkB sc fn b' b | _ => false
  | st, .ret e => match st with | .Return (some e') _ => chkE W N sc e' e && decide (kd e ≠ .own) | _ => false
  | st, .reto i => match st with | .Return (some (.Name x _)) _ => visB N sc i x | _ => false
  | st, .retn => match st with | .Return none _ => true | _ => false
  | st, .brk => match st with | .Break _ => true | _ => false
  | st, .cnt => match st with | .Continue _ => true | _ => false
  | st, .pas => match st with
    | .Pass _ => true
    | .Expr (.Constant (.str _) _ _) _ => true
    | _ => false
  | _, _ => false
def chkB (sc : Scope) (fn : Str → Bool) : List Stmt → S → Bool
  | sts, .nop => sts.isEmpty
  | sts, .sq a b => if ghost a = true then chkB sc fn sts b else match sts with
    | st :: rest => chkS sc fn st a && chkB sc fn rest b
    | [] => false
  | _, _ => false
end
end
variable {G : Str → Option D} {W : KwT} {T : Str → Option Fn} {cal : Cal} {n : Nat}
/-! ### name = value -/
/-- a name gets a value: some reading that T tells -/
def PV (X : Cx) (i : Nat) (y : Str) (py : Pos) (e' : Expr) (pos : Pos) (t : TE) : Prop := ∃ te, (∀ σ H Q, t σ H Q → te σ H Q) ∧ PS X (.Assign [.Name y py] e' pos) (tAsg te (gName i))
theorem pv_any {X : Cx} (c : Ctx X G W T cal n) {i : Nat} {y : Str} {py pos : Pos} {e' : Expr} (hl : locB X.N X.env.scope X.fn i y = true) (ho : lineOk X.env.scope y py e' = true) :
    ∀ e : E, chkE W X.N X.env.scope e' e = true → PV X i y py e' pos (tG X.K (wE X.K (kd e)) (den G cal e)) := by
  obtain ⟨h1, h2, h3⟩ := loc_of hl
  have plain : swapsWithSole [.Name y py] e' pos.line X.env = pure false → ∀ e : E, chkE W X.N X.env.scope e' e = true → PV X i y py e' pos (tG X.K (wE X.K (kd e)) (den G cal e)) := fun hs e h =>
    ⟨_, fun _ _ _ q => q, ps_asg ((se_all e).fE X c e' h) (pg_name c.nd h1 h2 h3) hs (sw_none (by unfold swN; rfl))⟩
  unfold lineOk at ho
  rw [Bool.or_eq_true, Bool.or_eq_true, decide_eq_true_eq] at ho
  rcases ho with (ho | ho) | ho
  · exact plain (sw_sole ho)
  · exact plain (sw_cell ho)
  · split at ho
    · rename_i elt gs scope pos'
      simp only [Bool.and_eq_true, decide_eq_true_eq, Bool.not_eq_true'] at ho
      obtain ⟨⟨k1, k2⟩, k3⟩ := ho
      have hsw := sw_true (elt := elt) (gs := gs) (l := pos.line) c.kind k1 k2 k3
      intro e
      induction e with
      | comp el t src d ihe iht ihs ihd =>
        intro h
        unfold chkE at h
        split at h
        · simp only [Bool.and_eq_true, decide_eq_true_eq] at h
          obtain ⟨⟨⟨⟨⟨⟨⟨h0, h1'⟩, h2'⟩, h3'⟩, h4'⟩, h5'⟩, h6'⟩, h7'⟩ := h
          rename_i heq
          injection heq with q1 q2 q3 q4
          subst q1 q2 q3 q4
          have ok := blkOk_by h2'
          have hs : ∀ (t : E), SE G W T cal n t := fun t => se_all t
          refine ⟨_, ?_, ps_setLc (te := tG X.K (wE X.K .val) (den G cal el)) (g := gN X.K (Rel X.K) (slotsOf t) (asgN t)) (tt := tG X.K wT (cnd G cal d)) c.calm c.nd h1 k1 hsw ((hs src).fI X c false _ _ h1') ok (fun s H C cl fp => ?_) (fun s H C cl fp => (hs d).fC _ (c.blk ok) _ h6') (fun s H C cl fp => ((hs el).fE _ (c.blk ok) _ h5').val h7') (fold_none h0)⟩
          · intro σ H Q q
            rw [h3']
            exact lc_sem (fun _ _ _ _ _ q => asgN_S q) q
          · exact (tgt_both (X := X.blk s H _ (compEnvC _ cl C X.env) fp) c.nd c.calm setOk_rel t (fun i hi => hi)).1 _ h4'
        · cases h
      | compc el t src d ihe iht ihs ihd =>
        intro h
        unfold chkE at h
        split at h
        · simp only [Bool.and_eq_true, decide_eq_true_eq] at h
          obtain ⟨⟨⟨⟨⟨⟨⟨h0, h1'⟩, h2'⟩, h3'⟩, h4'⟩, h5'⟩, h6'⟩, h7'⟩ := h
          rename_i heq
          injection heq with q1 q2 q3 q4
          subst q1 q2 q3 q4
          have ok := blkOk_by h2'
          have hs : ∀ (t : E), SE G W T cal n t := fun t => se_all t
          refine ⟨_, ?_, ps_setLc (te := tG X.K (wE X.K .val) (den G cal el)) (g := gN X.K (Rel X.K) (slotsOf t) (asgN t)) (tt := tG X.K wT (cnd G cal d)) c.calm c.nd h1 k1 hsw ((hs src).fJ X c false _ _ h1') ok (fun s H C cl fp => ?_) (fun s H C cl fp => (hs d).fC _ (c.blk ok) _ h6') (fun s H C cl fp => ((hs el).fE _ (c.blk ok) _ h5').val h7') (fold_none h0)⟩
          · intro σ H Q q
            rw [h3']
            exact lc_semC (fun _ _ _ _ _ q => asgN_S q) q
          · exact (tgt_both (X := X.blk s H _ (compEnvC _ cl C X.env) fp) c.nd c.calm setOk_rel t (fun i hi => hi)).1 _ h4'
        · cases h
      | cell a iha =>
        intro h
        unfold chkE at h
        rw [Bool.and_eq_true, decide_eq_true_eq] at h
        obtain ⟨te, q1, q2⟩ := iha h.1
        rw [h.2] at q1
        exact ⟨te, fun σ H Q q => q1 σ H Q (cell_sem q), q2⟩
      | _ =>
        intro h
        unfold chkE at h
        cases h
    · cases ho
section
variable {K : Frag} {B0 : Bd} {fe : Env → Store → R D} {σ : L2.St} {H : Hp} {Dn : Ends} {k : Kd}
theorem st_set {i : Nat} {te : TE} (hk : k ≠ .own) (ht : ∀ σ H Q, tG K (wE K k) fe σ H Q → te σ H Q) (h : tS K B0 (fun v S => (fe v S).o fun d S1 => .nx (v.set i (.val d)) S1) Dn σ H) : tAsg te (gName i) Dn σ H := by
  obtain ⟨env, S, ρ, U, f, fin⟩ := h
  obtain ⟨d, S1, hd, fin⟩ := FinS.opn fin
  refine ht _ _ _ (tG_case f.rel hd fun v H1 ρ1 e1 rel1 p1 => ?_)
  exact fin _ _ _ _ ((f.mono rel1).setVal (p1.rv f.rel.b0 hk)) (FExt.of e1 rel1.trk)
theorem st_seto {i : Nat} {te : TE} (ht : ∀ σ H Q, tG K (wE K .fr) fe σ H Q → te σ H Q) (h : tS K B0 (fun v S => (fe v S).o fun d S1 => match d with | .lst xs => .nx (v.set i (.own xs)) S1 | _ => .bad) Dn σ H) : tAsg te (gName i) Dn σ H := by
  obtain ⟨env, S, ρ, U, f, fin⟩ := h
  obtain ⟨d, S1, hd, fin⟩ := FinS.opn fin
  refine ht _ _ _ (tG_case f.rel hd fun v H1 ρ1 e1 rel1 p1 => ?_)
  split at fin
  · obtain ⟨a, vs, rfl, h0, h1, hn, r, rs⟩ := p1
    obtain ⟨w1, w2⟩ := f.newOwn (i := i) e1 rel1.nd h0 h1 hn r rs
    exact fin _ _ _ _ w1 w2
  · exact fin.elim
theorem st_asg {te : TE} {ft : D → Env → Store → R Env} (hk : k ≠ .own) (ht : ∀ σ H Q, tG K (wE K k) fe σ H Q → te σ H Q) (h : tS K B0 (fun v S => (fe v S).o fun d S1 => (ft d v S1).o fun v1 S2 => .nx v1 S2) Dn σ H) : tAsg te (gS K B0 ft) Dn σ H := by
  obtain ⟨env, S, ρ, U, f, fin⟩ := h
  obtain ⟨d, S1, hd, fin⟩ := FinS.opn fin
  obtain ⟨v1, S2, hv, fin⟩ := FinS.opn fin
  refine ht _ _ _ (tG_case f.rel hd fun v H1 ρ1 e1 rel1 p1 => ?_)
  exact ⟨env, S1, ρ1, U, d, v1, S2, f.mono rel1, p1.rv f.rel.b0 hk, hv, FTo.step (FExt.of e1 rel1.trk) fin⟩
/-! ### a, b = x, y -/
theorem pp_args {X : Cx} (c : Ctx X G W T cal n) (e : E) : ∀ (es : List Expr) (ts : List (Nat × Bool)), chkP W X.N X.env.scope es e ts = true →
    ∃ f, PA X es (tG X.K (wP X.K (ts.map (·.2))) f) ∧ ∀ env env' S ds S1 v1, dens G cal e env S = .ok ds S1 → setPar ts ds env' = some v1 → f env S = .ok ds S1 := by
  induction e with
  | nl =>
    intro es ts h
    cases es with
    | cons e es => cases ts <;> (unfold chkP at h; cases h)
    | nil =>
      cases ts with
      | cons t ts => unfold chkP at h; cases h
      | nil => exact ⟨_, pp_nil, fun env env' S ds S1 v1 h _ => by unfold dens at h; exact h⟩
  | cs a b iha ihb =>
    intro es ts h
    cases es with
    | nil => cases ts <;> (unfold chkP at h; cases h)
    | cons e es =>
      cases ts with
      | nil => unfold chkP at h; cases h
      | cons t ts =>
        obtain ⟨i, k⟩ := t
        unfold chkP at h
        simp only [Bool.and_eq_true] at h
        obtain ⟨⟨⟨h0, h1⟩, h2⟩, h3⟩ := h
        obtain ⟨f, q1, q2⟩ := ihb es ts h3
        have ha := (se_all (G := G) (W := W) (T := T) (cal := cal) (n := n) a).fE X c _ h1
        cases k with
        | false =>
          rw [if_neg (by decide), decide_eq_true_eq] at h2
          refine ⟨_, pp_val h0 (ha.val h2) q1, fun env env' S ds S1 v1 hd hp => ?_⟩
          unfold dens at hd
          obtain ⟨x, S2, r1, r2⟩ := bind_ok hd
          obtain ⟨xs, S3, r3, r4⟩ := bind_ok r2
          cases r4
          have hp : setPar ts xs (env'.set i (.val x)) = some v1 := by unfold setPar at hp; exact hp
          rw [r1]
          show ((f env S2).bind fun xs S2 => R.ok (x :: xs) S2) = _
          rw [q2 _ _ _ _ _ _ r3 hp]
          rfl
        | true =>
          rw [if_pos rfl, decide_eq_true_eq] at h2
          rw [h2] at ha
          refine ⟨_, pp_own h0 ha q1, fun env env' S ds S1 v1 hd hp => ?_⟩
          unfold dens at hd
          obtain ⟨x, S2, r1, r2⟩ := bind_ok hd
          obtain ⟨xs, S3, r3, r4⟩ := bind_ok r2
          cases r4
          cases x with
          | lst ys =>
            have hp : setPar ts xs (env'.set i (.own ys)) = some v1 := by unfold setPar at hp; exact hp
            rw [r1]
            show ((f env S2).bind fun zs S2 => R.ok (D.lst ys :: zs) S2) = _
            rw [q2 _ _ _ _ _ _ r3 hp]
            rfl
          | _ => unfold setPar at hp; cases hp
  | _ =>
    intro es ts h
    cases es <;> cases ts <;> (unfold chkP at h; cases h)
theorem st_par {X : Cx} {B0 : Bd} {e : E} {ts : List (Nat × Bool)} {f : Env → Store → R (List D)} {σ : L2.St} {H : Hp} {Dn : Ends} (hf : ∀ env env' S ds S1 v1, dens G cal e env S = .ok ds S1 → setPar ts ds env' = some v1 → f env S = .ok ds S1)
    (h : tS X.K B0 (fun v S => (dens G cal e v S).o fun ds S1 => match setPar ts ds v with | some v1 => .nx v1 S1 | none => .bad) Dn σ H) :
    tG X.K (wP X.K (ts.map (·.2))) f σ H fun vs H1 => (∃ K H' ρ B ds as, PRs K H' ρ B (ts.map (·.2)) ds vs as) ∧ Dn.nx (setSt σ ts vs) H1 := by
  obtain ⟨env, S, ρ, U, fr, fin⟩ := h
  obtain ⟨ds, S1, hd, fin⟩ := FinS.opn fin
  split at fin
  · rename_i v1 hp
    refine tG_case fr.rel (hf _ _ _ _ _ _ hd hp) fun vs H1 ρ1 e1 rel1 ⟨as, h1, h2, h3, h4⟩ => ?_
    obtain ⟨w1, w2⟩ := fr.many e1 rel1.nd h1 h4
    have hB : ∀ b, Bo B0 (Ba U as) b → Ba (Bo B0 U) as b := fun b h => h.elim (fun h => .inl (.inl h)) fun h => h.elim (fun h => .inl (.inr h)) .inr
    have := par_set (h3.less hB) hp w1 (fun a ha => .inr ha) h2 fun a ha j ys hj q => by
      have g := fr.rel.eo j _ hj
      rw [q] at g
      cases g with
      | own h _ _ => rw [(h1 a ha).1] at h; cases h
    exact ⟨⟨_, _, _, _, _, _, h3⟩, fin _ _ _ _ this w2⟩
  · exact fin.elim
end
end IL
/-! IZ: what is held against the small syntax does what it computes: statements. -/
namespace IL
open PySem PySem.Spec PyProof.Rows L2

theorem sw_par3 {x y z : Str} {a b c : Expr} {px py pz pt pt2 : Pos} {kt k2 : Nat} {env : PySem.Env} (hk : env.scope.kind = .function) (hx : env.scope.names.lookup x = some .local) (hy : env.scope.names.lookup y = some .local) (hz : env.scope.names.lookup z = some .local)
    (hxy : x ≠ y) (hxz : x ≠ z) (hyz : y ≠ z) (hl : (py.line == px.line) = true) (hl2 : (pz.line == px.line) = true) (ha : notStar a = true) (hb : notStar b = true) (hc' : notStar c = true) (hf : [a, b, c].all (foldedForSure 8) = false) (hc : [a, b, c].all (constantsAlone 8) = false) :
    swappedStores [.Tuple [.Name x px, .Name y py, .Name z pz] kt pt] (.Tuple [a, b, c] k2 pt2) env = pure (some [x, y, z]) := by
  have kx : env.kindOf x = some .local := hx
  have ky : env.kindOf y = some .local := hy
  have kz : env.kindOf z = some .local := hz
  have hbk : env.blockKind = .function := by unfold Env.blockKind; rw [hk]; rfl
  have hd : [x, y, z].eraseDups = [x, y, z] := by
    have e1 : (y == x) = false := by simpa using fun q => hxy q.symm
    have e2 : (z == x) = false := by simpa using fun q => hxz q.symm
    have e3 : (z == y) = false := by simpa using fun q => hyz q.symm
    simp [List.eraseDups_cons, e1, e2, e3]
  unfold swappedStores
  simp only [pure_bind, hbk, hf, hc, List.filterMap_cons, List.filterMap_nil, kx, ky, kz, Expr.pos, List.head?_cons, Option.map_some, Option.getD_some, hl, hl2, BEq.refl, Bool.and_true, hd, if_true]
  split
  · rename_i h
    exact absurd (show false = true from h) Bool.false_ne_true
  split
  · rename_i h
    exfalso
    rw [List.any_cons, List.any_cons, List.any_cons, List.any_nil, Bool.or_false, Bool.or_eq_true, Bool.or_eq_true] at h
    rcases h with h | h | h
    · cases a <;> first | exact absurd (show false = true from h) Bool.false_ne_true | exact absurd (show false = true from ha) Bool.false_ne_true
    · cases b <;> first | exact absurd (show false = true from h) Bool.false_ne_true | exact absurd (show false = true from hb) Bool.false_ne_true
    · cases c <;> first | exact absurd (show false = true from h) Bool.false_ne_true | exact absurd (show false = true from hc') Bool.false_ne_true
  · rfl
theorem prs_len {K : Frag} {H : Hp} {ρ : List Addr} {B : Bd} : ∀ {ks : List Bool} {ds : List D} {vs : List V} {as : List Addr}, PRs K H ρ B ks ds vs as → vs.length = ks.length
  | _, _, _, _, .nil => rfl
  | _, _, _, _, .val _ q => by rw [List.length_cons, List.length_cons, prs_len q]
  | _, _, _, _, .own _ _ q => by rw [List.length_cons, List.length_cons, prs_len q]
variable {G : Str → Option D} {W : KwT} {T : Str → Option Fn} {cal : Cal} {n : Nat}
theorem chkP_star {N : List Str} {sc : Scope} (e : E) : ∀ (es : List Expr) (ts : List (Nat × Bool)), chkP W N sc es e ts = true → es.all notStar = true := by
  induction e with
  | nl =>
    intro es ts h
    cases es with
    | cons e es => cases ts <;> (unfold chkP at h; cases h)
    | nil => rfl
  | cs a b iha ihb =>
    intro es ts h
    cases es with
    | nil => rfl
    | cons e es =>
      cases ts with
      | nil => unfold chkP at h; cases h
      | cons t ts =>
        obtain ⟨i, k⟩ := t
        unfold chkP at h
        simp only [Bool.and_eq_true] at h
        rw [List.all_cons, h.1.1.1, ihb es ts h.2]
        rfl
  | _ =>
    intro es ts h
    cases es <;> cases ts <;> (unfold chkP at h; cases h)
/-- a method of a slot's own list -/
theorem own_at {K : Frag} {B0 U : Bd} {env : Env} {S : Store} {ρ : List Addr} {σ : L2.St} {H : Hp} {i : Nat} {xs : List D} (f : FRel K B0 env S ρ U σ H) (he : env[i]? = some (.own xs)) : ∃ a vs, σ[i]? = some (some (.ref a)) ∧ U a ∧ H a = some (.lst vs) ∧ RVs K H ρ (Bo B0 U) xs vs := by
  obtain ⟨a, hs, hU⟩ := f.own i xs he
  have g := f.rel.eo i _ he
  rw [hs] at g
  cases g with
  | own h r _ => exact ⟨a, _, hs, hU, h, r⟩
section
variable {K : Frag} {B0 : Bd} {σ : L2.St} {H : Hp} {Dn : Ends}
/-- the one, then the other -/
theorem tS_seq {f g : Env → Store → O} (h : tS K B0 (fun v S => (f v S).thn g) Dn σ H) : tSeq (tS K B0 f) (tS K B0 g) Dn σ H := by
  obtain ⟨env, S, ρ, U, fr, fin⟩ := h
  refine ⟨env, S, ρ, U, fr, ?_⟩
  have fin : FinS K B0 U ρ H ((f env S).thn g) Dn := fin
  cases hf : f env S with
  | nx v S1 =>
    rw [hf] at fin
    exact fun σ' H' ρ' U' f' e' => ⟨v, S1, ρ', U', f', FinS.step e' fin⟩
  | brk v S1 => rw [hf] at fin; exact fin
  | cnt v S1 => rw [hf] at fin; exact fin
  | ret d S1 => rw [hf] at fin; exact fin
  | exc _ _ _ => rw [hf] at fin; exact fin
  | bad => rw [hf] at fin; exact fin
/-- a loop's body, and what comes behind it -/
theorem lp_body {b : Env → Store → O} {g : Env → Store → O} {v1 : Env} {S1 : Store} {ρ1 : List Addr} {U : Bd} {H1 : Hp} {Nx : L2.St → Hp → Prop} (fin : FinS K B0 U ρ1 H1 ((b v1 S1).lp g) Dn)
    (hN : ∀ v2 S2 σ' H' ρ' U', FRel K B0 v2 S2 ρ' U' σ' H' → FExt K U ρ1 H1 U' ρ' H' → FinS K B0 U' ρ' H' (g v2 S2) Dn → Nx σ' H') : FinS K B0 U ρ1 H1 (b v1 S1) { Dn with nx := Nx, ct := Nx, bk := Dn.nx } := by
  cases hb : b v1 S1 with
  | nx v S2 =>
    rw [hb] at fin
    exact fun σ' H' ρ' U' f' e' => hN v S2 σ' H' ρ' U' f' e' (FinS.step e' fin)
  | cnt v S2 =>
    rw [hb] at fin
    exact fun σ' H' ρ' U' f' e' => hN v S2 σ' H' ρ' U' f' e' (FinS.step e' fin)
  | brk v S2 => rw [hb] at fin; exact fin
  | ret d S2 => rw [hb] at fin; exact fin
  | exc _ _ _ => rw [hb] at fin; exact fin
  | bad => rw [hb] at fin; exact fin
theorem tS_while {c : Env → Store → R Bool} {b : Env → Store → O} (h : tS K B0 (fun v S => whil c b v S) Dn σ H) : tWhile (tG K wT c) (tS K B0 b) Dn σ H := by
  obtain ⟨env, S, ρ, U, fr, fin⟩ := h
  have fin : FinS K B0 U ρ H (whil c b env S) Dn := fin
  have hx : ∃ m, whilN c b m env S ≠ .bad := Classical.byContradiction fun q => by
    rw [whil_bad fun m => Classical.byContradiction fun z => q ⟨m, z⟩] at fin
    exact fin
  obtain ⟨m, hm⟩ := hx
  rw [whil_of hm] at fin
  refine ⟨fun m σ H => ∃ env S ρ U, FRel K B0 env S ρ U σ H ∧ FinS K B0 U ρ H (whilN c b m env S) Dn, ⟨m, env, S, ρ, U, fr, fin⟩, ?_⟩
  clear fin fr hm
  rintro m σ H ⟨env, S, ρ, U, fr, fin⟩
  cases m with
  | zero => exact fin.elim
  | succ m =>
    unfold whilN at fin
    obtain ⟨k, S1, hk, fin⟩ := FinS.opn fin
    refine tG_case fr.rel hk fun b' H1 ρ1 e1 rel1 p1 => ?_
    have p1 : k = b' := p1
    subst p1
    have f1 := fr.mono rel1
    have fin := FinS.step (FExt.of e1 rel1.trk) fin
    cases k with
    | false => exact fin _ _ _ _ f1 .refl
    | true =>
      refine ⟨fun σ' H' => ∃ env S ρ U, FRel K B0 env S ρ U σ' H' ∧ FinS K B0 U ρ H' (whilN c b m env S) Dn, fun σ' H' q => ⟨m, Nat.lt_succ_self m, q⟩, env, S1, ρ1, U, f1, ?_⟩
      exact lp_body fin fun v2 S2 σ' H' ρ' U' f' _ q => ⟨v2, S2, ρ', U', f', q⟩
theorem tS_for {fi : Env → Store → R (List D)} {ft : D → Env → Store → R Env} {vs : List Nat} {b : Env → Store → O} (hft : ∀ d v S v1 S1, ft d v S = .ok v1 S1 → S1 = S) (h : tS K B0 (fun v S => (fi v S).o fun ds S1 => forF ft b ds v S1) Dn σ H) :
    tFor (tG K (wI K true) fi) (gN K (fun env S ρ B σ H => ∃ U, (∀ a, B a ↔ Bo B0 U a) ∧ FRel K B0 env S ρ U σ H) vs ft) (tS K B0 b) Dn σ H := by
  obtain ⟨env, S, ρ, U, fr, fin⟩ := h
  obtain ⟨ds, S1, hd, fin⟩ := FinS.opn fin
  refine tG_case fr.rel hd fun J H1 ρ1 e1 rel1 w => ?_
  refine ⟨fun i m σ H => ∃ env S ρ U, FRel K B0 env S ρ U σ H ∧ Wk K (CW true ρ (Bo B0 U)) H ρ (Bo B0 U) J ds ∧ i ≤ ds.length ∧ m = ds.length - i ∧ FinS K B0 U ρ H (forF ft b (ds.drop i) env S) Dn,
    ⟨ds.length, env, S1, ρ1, U, fr.mono rel1, w, Nat.zero_le _, rfl, by rw [List.drop_zero]; exact FinS.step (FExt.of e1 rel1.trk) fin⟩, ?_⟩
  clear fin w fr rel1 e1 hd
  rintro i m σ H ⟨env, S, ρ, U, fr, w, le, rfl, fin⟩
  obtain ⟨t1, t2⟩ := w.turn fr.rel.trk i
  by_cases hi : i < ds.length
  · have hget : ds[i]? = some ds[i] := List.getElem?_eq_getElem hi
    obtain ⟨g1, g2⟩ := t2 _ hget
    rw [List.drop_eq_getElem_cons hi] at fin
    generalize ds[i] = d at hget g2 fin
    unfold forF at fin
    obtain ⟨v1, S2, hv, fin2⟩ := FinS.opn fin
    have := hft _ _ _ _ _ hv
    subst this
    refine .inr ⟨g1, fun σ' H' => ∃ env S ρ U, FRel K B0 env S ρ U σ' H' ∧ Wk K (CW true ρ (Bo B0 U)) H' ρ (Bo B0 U) J ds ∧ i + 1 ≤ ds.length ∧ ds.length - (i + 1) = ds.length - (i + 1) ∧ FinS K B0 U ρ H' (forF ft b (ds.drop (i + 1)) env S) Dn,
      fun σ' H' ⟨env, S, ρ, U, q1, q2, q3, q4, q5⟩ => ⟨_, by omega, env, S, ρ, U, q1, q2, q3, rfl, q5⟩, fun x H' hy => ?_⟩
    obtain ⟨ey, hc, rx⟩ := g2 x H' hy
    have rel' := fr.rel.mono ey (RS.ext ey hc fr.rel.rs) fr.rel.nd
    have f' := fr.mono rel'
    have fe := FExt.of (U := U) ey rel'.trk
    refine ⟨env, S2, ρ, Bo B0 U, d, v1, ⟨U, fun _ => .rfl, f'⟩, rx, hv, fun σ2 ⟨U2, hU2, f2⟩ _ => ?_⟩
    -- the target's frame has the same lists of its own
    have hUU : ∀ a, U2 a ↔ U a := fun a => ⟨fun h => ((hU2 a).mpr (.inr h)).elim (fun q => absurd q (f2.ob a h)) _root_.id, fun h => ((hU2 a).mp (.inr h)).elim (fun q => absurd q (f'.ob a h)) _root_.id⟩
    have e2 : FExt K U ρ H U2 ρ H' := ⟨fe.pre, fe.sub, fe.keep, fe.tup, fe.new, fun a h => .inl ((hUU a).mp h), fe.dom⟩
    refine ⟨v1, S2, ρ, U2, f2, lp_body (FinS.step e2 fin2) fun v2 S3 σ' H3 ρ' U' f3 e3 q => ⟨v2, S3, ρ', U', f3, ?_, hi, rfl, q⟩⟩
    have e4 := e2.trans e3
    exact w.step (fun a o h c => e4.keep a o h c.1 fun q => c.2 rfl (.inr q)) (fun a o h c => ⟨fun z => (by have := e4.new a z c.1; rw [h] at this; cases this), fun _ z => z.elim (fun z => c.2 rfl (.inl z)) fun z => (e4.bn a z).elim (fun z => c.2 rfl (.inr z)) fun z => by rw [h] at z; cases z⟩) e4.tup (fun _ _ r => r.fmono e4)
  · refine .inl ⟨t1 (Nat.le_of_not_lt hi), ?_⟩
    rw [List.drop_eq_nil_of_le (Nat.le_of_not_lt hi)] at fin
    unfold forF at fin
    exact fin _ _ _ _ fr .refl
theorem tS_forC {fi : Env → Store → R (List It1 × EndsI)} {ft : D → Env → Store → R Env} {vs : List Nat} {b : Env → Store → O} (hft : ∀ d v S v1 S1, ft d v S = .ok v1 S1 → S1 = S) (h : tS K B0 (fun v S => (fi v S).o fun p S1 => forC ft b p.2 p.1 v S1) Dn σ H) :
    tFor (tG K (wIC K true) fi) (gN K (fun env S ρ B σ H => ∃ U, (∀ a, B a ↔ Bo B0 U a) ∧ FRel K B0 env S ρ U σ H) vs ft) (tS K B0 b) Dn σ H := by
  obtain ⟨env, S, ρ, U, fr, fin⟩ := h
  obtain ⟨⟨its, ends⟩, S1, hd, fin⟩ := FinS.opn fin
  refine tG_case fr.rel hd fun J H1 ρ1 e1 rel1 w => ?_
  refine ⟨fun i m σ H => ∃ env S ρ U, FRel K B0 env S ρ U σ H ∧ Wk2 K (CW true ρ (Bo B0 U)) H ρ (Bo B0 U) J its ends ∧ i ≤ its.length ∧ m = its.length - i ∧ FinS K B0 U ρ H (forC ft b ends (its.drop i) env S) Dn,
    ⟨its.length, env, S1, ρ1, U, fr.mono rel1, w, Nat.zero_le _, rfl, by rw [List.drop_zero]; exact FinS.step (FExt.of e1 rel1.trk) fin⟩, ?_⟩
  clear fin w fr rel1 e1 hd
  rintro i m σ H ⟨env, S, ρ, U, fr, w, le, rfl, fin⟩
  obtain ⟨t1, t2⟩ := w.turn fr.rel.trk fr.rel.rs i
  by_cases hi : i < its.length
  · have hget : its[i]? = some its[i] := List.getElem?_eq_getElem hi
    rw [List.drop_eq_getElem_cons hi] at fin
    generalize its[i] = it at hget fin
    unfold forC at fin
    cases hrd : rdI it S with
    | none => rw [hrd] at fin; exact fin.elim
    | some d =>
    rw [hrd] at fin
    obtain ⟨g1, g2⟩ := t2 _ d hget hrd
    have fin : FinS K B0 U ρ H ((ft d env S).o fun v1 S1 => (b v1 S1).lp (forC ft b ends (its.drop (i + 1)))) Dn := fin
    obtain ⟨v1, S2, hv, fin2⟩ := FinS.opn fin
    have := hft _ _ _ _ _ hv
    subst this
    refine .inr ⟨g1, fun σ' H' => ∃ env S ρ U, FRel K B0 env S ρ U σ' H' ∧ Wk2 K (CW true ρ (Bo B0 U)) H' ρ (Bo B0 U) J its ends ∧ i + 1 ≤ its.length ∧ its.length - (i + 1) = its.length - (i + 1) ∧ FinS K B0 U ρ H' (forC ft b ends (its.drop (i + 1)) env S) Dn,
      fun σ' H' ⟨env, S, ρ, U, q1, q2, q3, q4, q5⟩ => ⟨_, by omega, env, S, ρ, U, q1, q2, q3, rfl, q5⟩, fun x H' hy => ?_⟩
    obtain ⟨ey, hc, rx⟩ := g2 x H' hy
    have rel' := fr.rel.mono ey (RS.ext ey hc fr.rel.rs) fr.rel.nd
    have f' := fr.mono rel'
    have fe := FExt.of (U := U) ey rel'.trk
    refine ⟨env, S2, ρ, Bo B0 U, d, v1, ⟨U, fun _ => .rfl, f'⟩, rx, hv, fun σ2 ⟨U2, hU2, f2⟩ _ => ?_⟩
    -- the target's frame has the same lists of its own
    have hUU : ∀ a, U2 a ↔ U a := fun a => ⟨fun h => ((hU2 a).mpr (.inr h)).elim (fun q => absurd q (f2.ob a h)) _root_.id, fun h => ((hU2 a).mp (.inr h)).elim (fun q => absurd q (f'.ob a h)) _root_.id⟩
    have e2 : FExt K U ρ H U2 ρ H' := ⟨fe.pre, fe.sub, fe.keep, fe.tup, fe.new, fun a h => .inl ((hUU a).mp h), fe.dom⟩
    refine ⟨v1, S2, ρ, U2, f2, lp_body (FinS.step e2 fin2) fun v2 S3 σ' H3 ρ' U' f3 e3 q => ⟨v2, S3, ρ', U', f3, ?_, hi, rfl, q⟩⟩
    have e4 := e2.trans e3
    exact w.step (fun a o h c => e4.keep a o h c.1 fun q => c.2 rfl (.inr q)) (fun a o h c => ⟨fun z => (by have := e4.new a z c.1; rw [h] at this; cases this), fun _ z => z.elim (fun z => c.2 rfl (.inl z)) fun z => (e4.bn a z).elim (fun z => c.2 rfl (.inr z)) fun z => by rw [h] at z; cases z⟩) (fun _ _ r => r.fmono e4) e4.pre
  · rw [List.drop_eq_nil_of_le (Nat.le_of_not_lt hi)] at fin
    unfold forC at fin
    split at fin
    · rename_i hE
      exact .inl ⟨t1 (Nat.le_of_not_lt hi) hE, fin _ _ _ _ fr .refl⟩
    · exact fin.elim
end
theorem setOk_frel {K : Frag} {B0 : Bd} : SetOk K (fun env S ρ B σ H => ∃ U, (∀ a, B a ↔ Bo B0 U a) ∧ FRel K B0 env S ρ U σ H) :=
  fun env S ρ B σ H i d x ⟨U, hU, f⟩ rv => ⟨U, hU, f.setVal (rv.less fun a h => (hU a).mpr h)⟩
structure SS (G : Str → Option D) (W : KwT) (T : Str → Option Fn) (cal : Cal) (n : Nat) (s : S) : Prop where
  one : ∀ (X : Cx), Ctx X G W T cal n → PassesOwn (model X.prog X.w) X.A X.env X.xe → ∀ (B0 : Bd) (st : Stmt), chkS W X.N X.env.scope X.fn st s = true → PS X st (tS X.K B0 (exec G cal s))
  many : ∀ (X : Cx), Ctx X G W T cal n → PassesOwn (model X.prog X.w) X.A X.env X.xe → ∀ (B0 : Bd) (sts : List Stmt), chkB W X.N X.env.scope X.fn sts s = true → PSs X sts (tS X.K B0 (exec G cal s))
theorem ss_all (s : S) : SS G W T cal n s := by
  induction s with
  | nop =>
    constructor
    case one =>
      intro X c hp B0 st h
      unfold chkS at h
      cases h
    case many =>
      intro X c hp B0 sts h
      unfold chkB at h
      cases sts with
      | nil => exact PSs.mono pss_nil fun Dn σ H ⟨env, S, ρ, U, f, fin⟩ => by unfold exec at fin; exact fin _ _ _ _ f .refl
      | cons st sts => cases h
  | sq a b iha ihb =>
    constructor
    case one =>
      intro X c hp B0 st h
      unfold chkS at h
      cases h
    case many =>
      intro X c hp B0 sts h
      unfold chkB at h
      split at h
      · rename_i hg
        refine PSs.mono (ihb.many X c hp B0 sts h) fun Dn σ H q => ?_
        cases a with
        | frz i =>
          obtain ⟨env, S, ρ, U, f, fin⟩ := q
          unfold exec at fin
          unfold exec at fin
          split at fin
          · rename_i xs he
            obtain ⟨U', f', e'⟩ := f.frz he
            exact ⟨_, S, ρ, U', f', FinS.step e' fin⟩
          · exact fin.elim
        | _ => cases hg
      · split at h
        · rw [Bool.and_eq_true] at h
          refine PSs.mono (pss_cons (iha.one X c hp B0 _ h.1) (ihb.many X c hp B0 _ h.2)) fun Dn σ H q => ?_
          refine tS_seq ?_
          obtain ⟨env, S, ρ, U, f, fin⟩ := q
          unfold exec at fin
          exact ⟨env, S, ρ, U, f, fin⟩
        · cases h
  | asg t e =>
    constructor
    case one =>
      intro X c hp B0 st h
      unfold chkS at h
      split at h
      · rename_i tg e' pos
        simp only [Bool.and_eq_true, decide_eq_true_eq] at h
        obtain ⟨⟨h0, h1⟩, h2⟩ := h
        split at h2
        · rename_i i
          split at h2
          · rw [Bool.and_eq_true] at h2
            obtain ⟨te, q1, q2⟩ := pv_any (pos := pos) c h2.1 h2.2 e h0
            refine PS.mono q2 fun Dn σ H q => st_set (B0 := B0) h1 q1 ?_
            obtain ⟨env, S, ρ, U, f, fin⟩ := q
            unfold exec at fin
            unfold asgS at fin
            exact ⟨env, S, ρ, U, f, fin⟩
          · cases h2
        · simp only [Bool.and_eq_true] at h2
          refine PS.mono (ps_asg ((se_all e).fE X c e' h0) ((tgtS_both (B0 := B0) c t).1 tg h2.1.2) (sw_noname h2.1.1.1) (sw_none h2.2) (by rw [asg_cons h2.1.1.2]; rfl)) fun Dn σ H q => st_asg h1 (fun _ _ _ q => q) ?_
          obtain ⟨env, S, ρ, U, f, fin⟩ := q
          unfold exec at fin
          exact ⟨env, S, ρ, U, f, fin⟩
      · cases h
    case many =>
      intro X c hp B0 sts h
      unfold chkB at h
      cases h
  | seto i e =>
    constructor
    case one =>
      intro X c hp B0 st h
      unfold chkS at h
      split at h
      · simp only [Bool.and_eq_true, decide_eq_true_eq] at h
        obtain ⟨⟨⟨h0, h1⟩, h2⟩, h3⟩ := h
        obtain ⟨te, q1, q2⟩ := pv_any (pos := by assumption) c h2 h3 e h0
        rw [h1] at q1
        refine PS.mono q2 fun Dn σ H q => st_seto (B0 := B0) q1 ?_
        obtain ⟨env, S, ρ, U, f, fin⟩ := q
        unfold exec at fin
        exact ⟨env, S, ρ, U, f, fin⟩
      · cases h
    case many =>
      intro X c hp B0 sts h
      unfold chkB at h
      cases h
  | par ts es =>
    constructor
    case one =>
      intro X c hp B0 st h
      unfold chkS at h
      split at h
      · split at h
        · unfold chk2 at h
          simp only [Bool.and_eq_true, decide_eq_true_eq, Bool.not_eq_true'] at h
          obtain ⟨⟨⟨⟨⟨⟨⟨⟨⟨g1, g2⟩, g3⟩, g4⟩, g5⟩, g6⟩, g7⟩, h1⟩, h2⟩, h3⟩ := h
          have hst := chkP_star _ _ _ h3
          simp only [List.all_cons, List.all_nil, Bool.and_true, Bool.and_eq_true] at hst
          obtain ⟨f, q1, q2⟩ := pp_args (T := T) (G := G) (cal := cal) (n := n) c es _ _ h3
          refine PS.mono (ps_par c.calm c.nd g1 g2 g3 g4 g5 q1 (sw_par2 c.kind g4 g5 g6 g7 hst.1 hst.2 h1 h2) (sw_noname rfl)) fun Dn σ H q => ?_
          have q : tS X.K B0 _ Dn σ H := q
          have z := st_par (B0 := B0) q2 (by
            obtain ⟨env, S, ρ, U, f, fin⟩ := q
            unfold exec at fin
            exact ⟨env, S, ρ, U, f, fin⟩)
          obtain ⟨env, S, ρ, B, rel, fin⟩ := z
          refine ⟨env, S, ρ, B, rel, ?_⟩
          obtain ⟨a, S1, ha⟩ := Fin.ok fin
          rw [ha] at fin ⊢
          intro vs H' ρ' e1 e2 e3 e4
          obtain ⟨⟨_, _, _, _, _, _, w1⟩, w2⟩ := fin vs H' ρ' e1 e2 e3 e4
          have hl := prs_len w1
          match vs, hl, w2 with
          | [v, w], _, w2 => exact ⟨v, w, rfl, w2⟩
        · cases h
      · split at h
        · unfold chk2 at h
          simp only [Bool.and_eq_true, decide_eq_true_eq, Bool.not_eq_true'] at h
          obtain ⟨⟨⟨⟨⟨⟨⟨⟨⟨⟨⟨⟨g1, g2⟩, g3⟩, g4⟩, g5⟩, g6⟩, g7⟩, ⟨⟨⟨⟨⟨⟨k1, k2⟩, k3⟩, k4⟩, k5⟩, k6⟩, k7⟩⟩, j1⟩, j2⟩, h1⟩, h2⟩, h3⟩ := h
          have hst := chkP_star _ _ _ h3
          simp only [List.all_cons, List.all_nil, Bool.and_true, Bool.and_eq_true] at hst
          obtain ⟨f, q1, q2⟩ := pp_args (T := T) (G := G) (cal := cal) (n := n) c es _ _ h3
          refine PS.mono (ps_par3 c.calm c.nd g1 g2 k2 g3 k3 j1 g4 g5 k5 q1 (sw_par3 c.kind g4 g5 k5 g6 k6 j2 g7 k7 hst.1 hst.2.1 hst.2.2 h1 h2) (sw_noname rfl)) fun Dn σ H q => ?_
          have q : tS X.K B0 _ Dn σ H := q
          have z := st_par (B0 := B0) q2 (by
            obtain ⟨env, S, ρ, U, f, fin⟩ := q
            unfold exec at fin
            exact ⟨env, S, ρ, U, f, fin⟩)
          obtain ⟨env, S, ρ, B, rel, fin⟩ := z
          refine ⟨env, S, ρ, B, rel, ?_⟩
          obtain ⟨a, S1, ha⟩ := Fin.ok fin
          rw [ha] at fin ⊢
          intro vs H' ρ' e1 e2 e3 e4
          obtain ⟨⟨_, _, _, _, _, _, w1⟩, w2⟩ := fin vs H' ρ' e1 e2 e3 e4
          have hl := prs_len w1
          match vs, hl, w2 with
          | [v, w, u], _, w2 => exact ⟨v, w, u, rfl, w2⟩
        · cases h
      · cases h
    case many =>
      intro X c hp B0 sts h
      unfold chkB at h
      cases h
  | app i e =>
    constructor
    case one =>
      intro X c hp B0 st h
      unfold chkS at h
      split at h
      · simp only [Bool.and_eq_true, decide_eq_true_eq] at h
        obtain ⟨⟨⟨⟨⟨rfl, h0⟩, h1⟩, h2⟩, h3⟩, h4⟩ := h
        obtain ⟨g1, g2, g3, g4⟩ := vis_of h0
        have hb := ((se_all (G := G) (W := W) (T := T) (cal := cal) (n := n) e).fE X c _ h3).val h4
        have hA := pa_cons hb pa_nil (star_cons h1)
        refine PS.mono (ps_expr (pe_bm PySem.F.plainAttrs_list PySem.F.slot_list_append PySem.F.type_list_append mt_append (pe_var g1 g2 g3 g4) hA (base_ok rfl) (few1 h1) h2 (star_cons h1) (star_none (es := []) rfl)) (sw_plain rfl)) fun Dn σ H q => ?_
        obtain ⟨env, S, ρ, U, f, fin⟩ := q
        unfold exec at fin
        obtain ⟨d, S1, hd, fin⟩ := FinS.opn fin
        split at fin
        · rename_i xs he
          split at fin
          · rename_i hlen
            obtain ⟨a, vs, hs, hU, ha, r⟩ := own_at f he
            refine ⟨_, hs, .inl ⟨rfl, _, SqL.of ha⟩, tG_case f.rel hd fun v H1 ρ1 e1 rel1 p1 => ?_⟩
            have f1 := f.mono rel1
            obtain ⟨a', vs', hs', hU', ha', r'⟩ := own_at f1 he
            rw [hs] at hs'
            cases hs'
            have p1 : RV X.K H1 ρ1 (Bo B0 U) d v := p1
            obtain ⟨w1, w2⟩ := f1.wrOwn he hs (r'.append (.cons p1 .nil))
            exact ⟨_, vs', v, rfl, rfl, ha', by rw [← r'.length]; exact hlen, fin _ _ _ _ w1 ((FExt.of e1 rel1.trk).trans w2)⟩
          · exact fin.elim
        · exact fin.elim
      · cases h
    case many =>
      intro X c hp B0 sts h
      unfold chkB at h
      cases h
  | ext i e =>
    constructor
    case one =>
      intro X c hp B0 st h
      unfold chkS at h
      split at h
      · simp only [Bool.and_eq_true, decide_eq_true_eq] at h
        obtain ⟨⟨⟨⟨rfl, h0⟩, h1⟩, h2⟩, h3⟩ := h
        obtain ⟨g1, g2, g3, g4⟩ := vis_of h0
        have hb := (se_all (G := G) (W := W) (T := T) (cal := cal) (n := n) e).fE X c _ h3
        have hA := pa_cons hb pa_nil (star_cons h1)
        refine PS.mono (ps_expr (pe_bm PySem.F.plainAttrs_list PySem.F.slot_list_extend PySem.F.type_list_extend mt_extend (pe_var g1 g2 g3 g4) hA (base_ok rfl) (few1 h1) h2 (star_cons h1) (star_none (es := []) rfl)) (sw_plain rfl)) fun Dn σ H q => ?_
        obtain ⟨env, S, ρ, U, f, fin⟩ := q
        unfold exec at fin
        obtain ⟨d, S1, hd, fin⟩ := FinS.opn fin
        split at fin
        · rename_i xs ys he
          split at fin
          · rename_i hlen
            obtain ⟨a, vs, hs, hU, ha, r⟩ := own_at f he
            refine ⟨_, hs, .inl ⟨rfl, _, SqL.of ha⟩, tG_case f.rel hd fun v H1 ρ1 e1 rel1 p1 => ?_⟩
            have f1 := f.mono rel1
            obtain ⟨a', vs', hs', hU', ha', r'⟩ := own_at f1 he
            rw [hs] at hs'
            cases hs'
            obtain ⟨b, ws, rfl, hb1, hb2, rb⟩ := (p1.rw f.rel.b0).lst
            obtain ⟨w1, w2⟩ := f1.wrOwn he hs (r'.append rb)
            exact ⟨_, b, vs', ws, rfl, rfl, ha', hb1, by rw [← r'.length, ← rb.length]; exact hlen, fin _ _ _ _ w1 ((FExt.of e1 rel1.trk).trans w2)⟩
          · exact fin.elim
        · exact fin.elim
      · cases h
    case many =>
      intro X c hp B0 sts h
      unfold chkB at h
      cases h
  | expr e =>
    constructor
    case one =>
      intro X c hp B0 st h
      unfold chkS at h
      split at h
      · rw [Bool.and_eq_true] at h
        refine PS.mono (ps_expr ((se_all (G := G) (W := W) (T := T) (cal := cal) (n := n) e).fE X c _ h.2) (sw_plain h.1)) fun Dn σ H q => ?_
        obtain ⟨env, S, ρ, U, f, fin⟩ := q
        unfold exec at fin
        obtain ⟨d, S1, hd, fin⟩ := FinS.opn fin
        exact tG_case f.rel hd fun v H1 ρ1 e1 rel1 p1 => fin _ _ _ _ (f.mono rel1) (FExt.of e1 rel1.trk)
      · cases h
    case many =>
      intro X c hp B0 sts h
      unfold chkB at h
      cases h
  | ife d a b iha ihb =>
    constructor
    case one =>
      intro X c hp B0 st h
      unfold chkS at h
      split at h
      · simp only [Bool.and_eq_true] at h
        refine PS.mono (ps_if ((se_all (G := G) (W := W) (T := T) (cal := cal) (n := n) d).fT X c _ h.1.1).1 (iha.many X c hp B0 _ h.1.2) (ihb.many X c hp B0 _ h.2)) fun Dn σ H q => ?_
        obtain ⟨env, S, ρ, U, f, fin⟩ := q
        unfold exec at fin
        obtain ⟨k, S1, hk, fin⟩ := FinS.opn fin
        refine tG_case f.rel hk fun b' H1 ρ1 e1 rel1 p1 => ?_
        have p1 : k = b' := p1
        subst p1
        have fin := FinS.step (FExt.of e1 rel1.trk) fin
        cases k with
        | true => exact ⟨env, S1, ρ1, U, f.mono rel1, fin⟩
        | false => exact ⟨env, S1, ρ1, U, f.mono rel1, fin⟩
      · cases h
    case many =>
      intro X c hp B0 sts h
      unfold chkB at h
      cases h
  | whl d b ihb =>
    constructor
    case one =>
      intro X c hp B0 st h
      unfold chkS at h
      split at h
      · rw [Bool.and_eq_true] at h
        refine PS.mono (ps_while hp ((se_all (G := G) (W := W) (T := T) (cal := cal) (n := n) d).fT X c _ h.1).1 (ihb.many X c hp B0 _ h.2)) fun Dn σ H q => tS_while ?_
        obtain ⟨env, S, ρ, U, f, fin⟩ := q
        unfold exec at fin
        exact ⟨env, S, ρ, U, f, fin⟩
      · cases h
    case many =>
      intro X c hp B0 sts h
      unfold chkB at h
      cases h
  | for_ t src b ihb =>
    constructor
    case one =>
      intro X c hp B0 st h
      unfold chkS at h
      split at h
      · simp only [Bool.and_eq_true] at h
        obtain ⟨⟨⟨h0, h1⟩, h2⟩, h3⟩ := h
        refine PS.mono (ps_for hp c.calm ((se_all (G := G) (W := W) (T := T) (cal := cal) (n := n) src).fI X c true _ _ h1) ((tgt_both c.nd c.calm (setOk_frel (B0 := B0)) t (fun i hi => hi)).1 _ h2) (ihb.many X c hp B0 _ h3) (fold_none h0)) fun Dn σ H q => tS_for (fun _ _ _ _ _ q => asgN_S q) ?_
        obtain ⟨env, S, ρ, U, f, fin⟩ := q
        unfold exec at fin
        exact ⟨env, S, ρ, U, f, fin⟩
      · cases h
    case many =>
      intro X c hp B0 sts h
      unfold chkB at h
      cases h
  | forc t src b ihb =>
    constructor
    case one =>
      intro X c hp B0 st h
      unfold chkS at h
      split at h
      · simp only [Bool.and_eq_true] at h
        obtain ⟨⟨⟨h0, h1⟩, h2⟩, h3⟩ := h
        refine PS.mono (ps_for hp c.calm ((se_all (G := G) (W := W) (T := T) (cal := cal) (n := n) src).fJ X c true _ _ h1) ((tgt_both c.nd c.calm (setOk_frel (B0 := B0)) t (fun i hi => hi)).1 _ h2) (ihb.many X c hp B0 _ h3) (fold_none h0)) fun Dn σ H q => tS_forC (fun _ _ _ _ _ q => asgN_S q) ?_
        obtain ⟨env, S, ρ, U, f, fin⟩ := q
        unfold exec at fin
        exact ⟨env, S, ρ, U, f, fin⟩
      · cases h
    case many =>
      intro X c hp B0 sts h
      unfold chkB at h
      cases h
  | ret e =>
    constructor
    case one =>
      intro X c hp B0 st h
      unfold chkS at h
      split at h
      · rw [Bool.and_eq_true, decide_eq_true_eq] at h
        refine PS.mono (ps_ret ((se_all (G := G) (W := W) (T := T) (cal := cal) (n := n) e).fE X c _ h.1)) fun Dn σ H q => ?_
        obtain ⟨env, S, ρ, U, f, fin⟩ := q
        unfold exec at fin
        obtain ⟨d, S1, hd, fin⟩ := FinS.opn fin
        exact tG_case f.rel hd fun v H1 ρ1 e1 rel1 p1 => fin _ _ _ _ (FExt.of (U := U) e1 rel1.trk) rel1.nd (rel1.rs.less fun a h => .inl h) ((p1.rv f.rel.b0 h.2).less fun a h => .inl h)
      · cases h
    case many =>
      intro X c hp B0 sts h
      unfold chkB at h
      cases h
  | reto i =>
    constructor
    case one =>
      intro X c hp B0 st h
      unfold chkS at h
      split at h
      · obtain ⟨g1, g2, g3, g4⟩ := vis_of h
        refine PS.mono (ps_ret (pe_var g1 g2 g3 g4)) fun Dn σ H q => ?_
        obtain ⟨env, S, ρ, U, f, fin⟩ := q
        unfold exec at fin
        split at fin
        · rename_i xs he
          obtain ⟨a, vs, hs, hU, ha, r⟩ := own_at f he
          exact ⟨_, hs, fin _ _ _ _ (FExt.refl (U := U)) f.rel.nd (f.rel.rs.less fun a h => .inl h) (.lst ha (f.rel.bt a (.inr hU)).2 (f.ob a hU) (r.less fun a h => .inl h))⟩
        · exact fin.elim
      · cases h
    case many =>
      intro X c hp B0 sts h
      unfold chkB at h
      cases h
  | retn =>
    constructor
    case one =>
      intro X c hp B0 st h
      unfold chkS at h
      split at h
      · refine PS.mono ps_retN fun Dn σ H q => ?_
        obtain ⟨env, S, ρ, U, f, fin⟩ := q
        unfold exec at fin
        exact fin _ _ _ _ (FExt.refl (U := U)) f.rel.nd (f.rel.rs.less fun a h => .inl h) .non
      · cases h
    case many =>
      intro X c hp B0 sts h
      unfold chkB at h
      cases h
  | brk =>
    constructor
    case one =>
      intro X c hp B0 st h
      unfold chkS at h
      split at h
      · refine PS.mono ps_break fun Dn σ H q => ?_
        obtain ⟨env, S, ρ, U, f, fin⟩ := q
        unfold exec at fin
        exact fin _ _ _ _ f .refl
      · cases h
    case many =>
      intro X c hp B0 sts h
      unfold chkB at h
      cases h
  | cnt =>
    constructor
    case one =>
      intro X c hp B0 st h
      unfold chkS at h
      split at h
      · refine PS.mono ps_continue fun Dn σ H q => ?_
        obtain ⟨env, S, ρ, U, f, fin⟩ := q
        unfold exec at fin
        exact fin _ _ _ _ f .refl
      · cases h
    case many =>
      intro X c hp B0 sts h
      unfold chkB at h
      cases h
  | pas =>
    constructor
    case one =>
      intro X c hp B0 st h
      unfold chkS at h
      split at h
      · refine PS.mono ps_pass fun Dn σ H q => ?_
        obtain ⟨env, S, ρ, U, f, fin⟩ := q
        unfold exec at fin
        exact fin _ _ _ _ f .refl
      · refine PS.mono ps_doc fun Dn σ H q => ?_
        obtain ⟨env, S, ρ, U, f, fin⟩ := q
        unfold exec at fin
        exact fin _ _ _ _ f .refl
      · cases h
    case many =>
      intro X c hp B0 sts h
      unfold chkB at h
      cases h
  | _ =>
    constructor
    case one =>
      intro X c hp B0 st h
      unfold chkS at h
      cases h
    case many =>
      intro X c hp B0 sts h
      unfold chkB at h
      cases h
end IL
/-! JA: defs of a text by their bodies; the law's own end. -/
namespace IL
open PySem PySem.Spec PyProof.Rows L2

/-- what is known of one def: its object, its scope, its body as small syntax -/
structure FnS (K : Frag) (mg : Str → Option Value) (W : KwT) (f : Str) (d : Fn) : Prop where
  ex : ∃ (a : Addr) (fd : FuncData) (st : Stmt) (qual : Str) (N ps : List Str), mg f = some (.ref a) ∧ L2.Fun K f qual st a fd ∧ FnScope N ps (defScope st) ∧ ps.length = d.np ∧ N.length = d.nn ∧ Binds K fd ps [] ∧
    (∀ m ks perm, (f, m, ks, perm) ∈ W → KwOk K fd ps m ks perm) ∧ chkB W N (defScope st) (fun _ => true) (defBody st) d.body = true
/-- what is known of a text -/
structure Glob (K : Frag) (mg : Str → Option Value) (G : Str → Option D) (W : KwT) (T : Str → Option Fn) : Prop where
  bl : ∀ x ∈ bnames, mg x = none
  glo : ∀ x d, G x = some d → GloOk K mg x d
  gcd : gcdW ∈ W → mg "gcd" = some (.builtin "math.gcd")
  fns : ∀ f d, T f = some d → FnS K mg W f d
theorem callF_none {G : Str → Option D} {T : Str → Option Fn} {f : Str} (h : T f = none) : ∀ (n : Nat) (args : List D) (S : Store), callF G T n f args S = .bad
  | 0, _, _ => rfl
  | n + 1, _, _ => by unfold callF; rw [h]
theorem callF_len {G : Str → Option D} {T : Str → Option Fn} {f : Str} {d : Fn} (h : T f = some d) : ∀ (n : Nat) (args : List D) (S : Store), args.length ≠ d.np → callF G T n f args S = .bad
  | 0, _, _, _ => rfl
  | n + 1, _, _, hl => by unfold callF; rw [h]; exact if_neg hl
theorem callF_some {G : Str → Option D} {T : Str → Option Fn} {f : Str} {d : Fn} (h : T f = some d) (n : Nat) (args : List D) (S : Store) (hl : args.length = d.np) : callF G T (n + 1) f args S =
    match exec G (callF G T n) d.body (startE d.np d.nn args) S with
    | .ret x S1 => .ok x S1
    | .nx _ S1 => .ok .non S1
    | .exc c xs S1 => .exc c xs S1
    | _ => .bad := by
  show (match T f with | none => R.bad | some d => if args.length = d.np then _ else R.bad) = _
  rw [h]
  exact if_pos hl
/-- the slots at an entry -/
theorem start_rel {K : Frag} {H : Hp} {ρ : List Addr} {B : Bd} {S : Store} {N : List Str} {ds : List D} {vs : List V} (r : RVs K H ρ B ds vs) (rs : RS K H ρ B S) (nd : ρ.Nodup) (bt : ∀ a, B a → H a ≠ none ∧ a ∉ ρ) (hN : vs.length ≤ N.length) :
    FRel K B (startE ds.length N.length ds) S ρ (fun _ => False) (L2.start N vs) H := by
  have hl := r.length
  have val : ∀ (i : Nat) (s : Slot), (startE ds.length N.length ds)[i]? = some s → (∃ d v, s = .val d ∧ (L2.start N vs)[i]? = some (some v) ∧ RV K H ρ B d v) ∨ s = .no := by
    intro i s h
    unfold startE at h
    unfold L2.start
    by_cases hi : i < ds.length
    · rw [List.getElem?_append_left (by rw [List.length_map]; exact hi), List.getElem?_map, List.getElem?_eq_getElem hi] at h
      cases h
      obtain ⟨v, hv, rv⟩ := r.get (List.getElem?_eq_getElem hi)
      exact .inl ⟨_, v, rfl, by rw [List.getElem?_append_left (by rw [List.length_map, ← hl]; exact hi), List.getElem?_map, hv]; rfl, rv⟩
    · rw [List.getElem?_append_right (by rw [List.length_map]; omega)] at h
      have := List.eq_of_mem_replicate (List.mem_of_getElem? h)
      exact .inr this
  refine ⟨⟨fun i s h => ?_, rs.less fun a h => h.elim _root_.id False.elim, nd, fun a h => bt a (h.elim _root_.id False.elim), ?_⟩, fun i xs h => ?_, fun i j xs ys a _ h => ?_, fun _ h => h.elim⟩
  · rcases val i s h with ⟨d, v, rfl, hv, rv⟩ | rfl
    · rw [hv]
      exact .val (rv.less fun a h => h.elim _root_.id False.elim)
    · exact .no
  · unfold startE L2.start
    rw [List.length_append, List.length_append, List.length_map, List.length_map, List.length_replicate, List.length_replicate]
    omega
  · rcases val i _ h with ⟨d, v, q, _, _⟩ | q <;> cases q
  · rcases val i _ h with ⟨d, v, q, _, _⟩ | q <;> cases q
variable {P : Program} {w : World} {K : Frag} {mg : Str → Option Value} {base : Heap} {G : Str → Option D} {W : KwT} {T : Str → Option Fn}
/-- every def does what callF computes -/
theorem fn_all (g : Glob K mg G W T) (hs : ∃ o es ep, base.get? sysModules = some o ∧ o.data = .dict es ep) : ∀ (n : Nat) (f : Str) (d : Fn), T f = some d → ∃ (a : Addr) (fd : FuncData) (ps : List Str), mg f = some (.ref a) ∧ PySem.W.keepIn K (.ref a) = true ∧ ps.length = d.np ∧ Binds K fd ps [] ∧
    (∀ m ks perm, (f, m, ks, perm) ∈ W → KwOk K fd ps m ks perm) ∧ FnD P w K mg base n a fd ps (callF G T n f)
  | 0, f, d, h => by
    obtain ⟨a, fd, st, qual, N, ps, h1, h2, h3, h4, h5, h6, h7, h8⟩ := (g.fns f d h).ex
    refine ⟨a, fd, ps, h1, h2.kp, h4, h6, h7, ?_⟩
    intro A outer s H args us vs ds S ρ B Q _ _ _ _ _ _ _ _ _ _ fin
    exact fin.elim
  | n + 1, f, d, h => by
    obtain ⟨a, fd, st, qual, N, ps, h1, h2, h3, h4, h5, h6, h7, h8⟩ := (g.fns f d h).ex
    refine ⟨a, fd, ps, h1, h2.kp, h4, h6, h7, ?_⟩
    obtain ⟨oc, od, kV, doc, pm, an, cdv, ct, osl, rfl, lk, hcd⟩ := h2.ex
    intro A outer s H args us vs ds S ρ B Q hgd hr e0 hb r hlen rd rs nd bt fin
    have lvs : vs.length = ps.length := by rw [← rd.length]; exact hlen
    have inH : K.In s.heap := e0.mod.kin.keeps fun b o e => (e0.bs b o e).1
    have kinds : ∀ y ∈ ps.zip us, (defScope st).names.lookup y.1 = some .local ∨ ((defScope st).names.lookup y.1 = some .cell ∧ ((cellsFrom (s.heap.objs.size + 1) (defScope st).names []).lookup y.1).isSome = true) := by
      rintro ⟨y, v⟩ hy
      exact (h3.par y (List.of_mem_zip hy).1).imp _root_.id fun q => ⟨q, PySem.W.cellsFrom_some _ _ _ (.inl q)⟩
    refine codeAny_call_function hr.depth (inH _ _ lk) rfl h3.co h3.gen rfl (PySem.W.codeRec_of inH hcd) (hb _ _ _ _ ?_)
    refine wpAny_newFunctionEnv_cells h3.kind kinds fun env he s1 x => ?_
    subst he
    refine ⟨(e0.mod.nolimit.keeps fun b o e => (e0.bs b o e).1).keeps x.toInCall.keep, codeAny_func ?_⟩
    let X : Cx := (cxOf CX0 P w K mg base N qual (defScope st) a cdv A outer s H E0).nox
    have cx : Ctx X G W T (callF G T n) n := ⟨h3.nd, h3.kind, rfl, hgd, hr.deeper _, g.bl, hs, g.gcd, g.glo, fun f args S hf => callF_none hf n args S, fun f d args S hf hl => callF_len hf n args S hl, fun f d hf => fn_all g hs n f d hf⟩
    have body := ((ss_all (G := G) (W := W) (T := T) (cal := callF G T n) (n := n) d.body).many X cx PassesOwn.never B (defBody st) h8).nox
    have I : Inv (cxOf CX0 P w K mg base N qual (defScope st) a cdv A outer s H E0) [] (L2.start N vs) H s1 := inv_start h3 hr.hd e0 lvs r x
    have hdl : ds.length = d.np := hlen.trans h4
    have hN : vs.length ≤ N.length := by
      have := congrArg List.length h3.pre
      rw [List.length_take] at this
      rw [lvs]
      omega
    have fr := start_rel rd rs nd bt hN
    rw [callF_some h n ds S hdl] at fin
    have go : tS K B (exec G (callF G T n) d.body) { nx := fun _ H' => Q .non H', rt := Q } (L2.start N vs) H := by
      refine ⟨_, S, ρ, fun _ => False, fr, ?_⟩
      rw [hdl, h5]
      cases he : exec G (callF G T n) d.body (startE d.np d.nn ds) S with
      | ret x S1 =>
        rw [he] at fin
        exact fun v H' ρ' U' e nd' rs' rv' => fin v H' ρ' e.ext nd' rs' rv'
      | nx v S1 =>
        rw [he] at fin
        exact fun σ' H' ρ' U' f' e => fin .non H' ρ' e.ext f'.rel.nd (f'.rel.rs.less fun a h => .inl h) .non
      | exc _ _ _ => rw [he] at fin; exact fin.elim
      | brk _ _ => rw [he] at fin; exact fin.elim
      | cnt _ _ => rw [he] at fin; exact fin.elim
      | bad => rw [he] at fin; exact fin.elim
    refine wpAny_mono (body.run [] s1 (L2.start N vs) H _ I go) (fun fl s' hs => ?_) fun e s' hs => hs
    cases fl with
    | ret u =>
      obtain ⟨v, σ', H', J, rv, q⟩ := hs
      exact ⟨v, H', J.os, J.bare, J.base, J.hok, rv, q⟩
    | next =>
      obtain ⟨σ', H', J, q⟩ := hs
      exact ⟨.non, H', J.os, J.bare, J.base, J.hok, rfl, q⟩
    | brk => obtain ⟨_, _, _, q⟩ := hs; exact q.elim
    | cont => obtain ⟨_, _, _, q⟩ := hs; exact q.elim
/-! ### the law's end -/
/-- no list among the objects that the top has written -/
def noList (K : Frag) : Bool := K.all fun p => match p.2.cls with | .type t => t != "list" | _ => true
theorem mem_frag {a : Addr} {o : Obj} : ∀ {K : Frag}, K.lookup a = some o → (a, o) ∈ K
  | [], h => by cases h
  | (b, u) :: K, h => by
    rw [List.lookup_cons] at h
    by_cases e : (a == b) = true
    · rw [e] at h
      cases h
      rw [eq_of_beq e]
      exact List.mem_cons_self
    · rw [Bool.not_eq_true] at e
      rw [e] at h
      exact List.mem_cons_of_mem _ (mem_frag h)
theorem noList_at {K : Frag} (h : noList K = true) {a : Addr} {o : Obj} (e : K.lookup a = some o) : o.cls ≠ .type "list" := by
  intro q
  have := List.all_eq_true.mp h _ (mem_frag e)
  rw [q] at this
  exact absurd this (by simp)
theorem rvs_ofInts {K : Frag} {H : Hp} {ρ : List Addr} {B : Bd} : ∀ ns : List Int, RVs K H ρ B (ns.map .int) (ns.map V.int)
  | [] => .nil
  | n :: ns => .cons (.int n) (rvs_ofInts ns)
/-- the law, called with its script: a cell that nobody writes -/
noncomputable def lawR (G : Str → Option D) (T : Str → Option Fn) (k : Nat) (ns : List Int) : R D := callF G T k "law" [.ref 0] [.ro (ns.map .int)]
theorem walkD {l : PySem.W.OpenLaw} {n k : Nat} {q : Program} {loose : List Str} {XP : (Str → Option Value) → Heap → Prop} {YP : World → Heap → Prop} {d : DefRec} {KK : Params → Frag} {G : Str → Option D} {W : KwT} {T : Str → Option Fn}
    (hn : l.most = some n) (hn2 : n ≤ sizeLine) (hdf : d.params.defaults = []) (hr : Room k callerA) (hY : ∀ (w : World) (h : Heap), YP w h → (KK w.params).In h) (hL : ∀ w : World, noList (KK w.params) = true)
    (hq : importsNone q = true) (hname : d.name = "law") (hT : ∃ d0, T "law" = some d0 ∧ d0.np = 1)
    (F : ∀ (w : World) (mg : Str → Option Value) (h : Heap), (KK w.params).In h → h.Ns mainGlobals mg → Glob (KK w.params) mg G W T)
    (hlaw : ∀ ns : List Int, ns.length ≤ n → ∃ S', lawR G T k ns = .ok (.bl true) S') :
    PySem.W.WalkO q loose XP YP l.row.toRowW d [] (fun f vs => PySem.call f vs) := by
  refine Att.attach_call hn hdf fun w s₀ s₁ mg mb fa o pm cd doc a vs ns G0 Y ho hd hcd hmg hobj hints hlen hg => ?_
  have inK := hY w _ Y
  obtain ⟨d0, hT0, hnp⟩ := hT
  have sm : ∃ o es ep, (hidT s₁.heap fun b => if b = a then some (HO.frz { cls := .type "list", data := .seq vs.toArray } (.lst (ns.map V.int))) else none).get? sysModules = some o ∧ o.data = .dict es ep := by
    obtain ⟨mm, ⟨ob, es, ep, e, hdat, _⟩, _⟩ := (G0.T.seer hq).mods
    refine ⟨ob, es, ep, hidT_get e (if_neg fun z => ?_), hdat⟩
    rw [z, hobj] at e
    cases e
    exact absurd (show Data.seq vs.toArray _ = Data.dict es ep from hdat) (fun z => by cases z)
  obtain ⟨a', fd, ps, m1, m2, m3, m4, _, run⟩ := fn_all (P := l.prog) (w := w) (base := hidT s₁.heap fun b => if b = a then some (.frz { cls := .type "list", data := .seq vs.toArray } (.lst (ns.map V.int))) else none) (F w mg _ inK G0.T.g) sm k "law" d0 hT0
  rw [hname, m1] at hmg
  cases hmg
  have offK : ∀ o', (KK w.params).lookup a ≠ some o' := fun o' e => noList_at (hL w) e (by have := inK a o' e; rw [hobj] at this; cases this; rfl)
  generalize hH : (fun b => if b = a then some (HO.frz { cls := .type "list", data := .seq vs.toArray } (.lst (ns.map V.int))) else none : Hp) = H at run
  have at_a : H a = some (.frz { cls := .type "list", data := .seq vs.toArray } (.lst (ns.map V.int))) := by rw [← hH]; exact if_pos rfl
  have off : ∀ b, b ≠ a → H b = none := fun b hb => by rw [← hH]; exact if_neg hb
  have vr := vals_ints hints
  have hz : ns.length ≤ sizeLine := Nat.le_trans hlen hn2
  -- what else the heap holds is seen from the start
  have seen : ∀ {b : Addr} {ob : Obj}, b ≠ a → s₁.heap.get? b = some ob → (hidT s₁.heap H).get? b = some ob := fun hb e => hidT_get e (off _ hb)
  have dicts : ∀ {b : Addr} {m : Str → Option Value}, s₁.heap.Ns b m → (hidT s₁.heap H).Ns b m := by
    rintro b m ⟨ob, es, ep, e, hdat, hm⟩
    refine ⟨ob, es, ep, seen (fun z => ?_) e, hdat, hm⟩
    rw [z, hobj] at e
    cases e
    exact absurd (show Data.seq vs.toArray _ = Data.dict es ep from hdat) (fun z => by cases z)
  have kIn : (KK w.params).In (hidT s₁.heap H) := fun b ob e => seen (fun z => offK ob (by rw [← z]; exact e)) (inK b ob e)
  have ok : HOk l.prog w H s₁.heap := by
    intro b u hu
    by_cases hb : b = a
    · rw [hb, at_a] at hu
      cases hu
      rw [hb]
      exact ⟨hobj, by rw [List.length_map]; exact hz, vs, _, vr, hobj⟩
    · rw [off b hb] at hu; cases hu
  obtain ⟨mc, c1, c2⟩ := G0.T.nolimit
  have e0 : Env0 l.prog w (KK w.params) mg (hidT s₁.heap H) callerA [] s₁ H :=
    ⟨rfl, ⟨kIn, dicts G0.T.g, ⟨mb, dicts G0.T.b, G0.T.builtins⟩, mc, dicts c1, c2⟩, fun b ob e => of_hidT e, Nat.le_of_eq (hidT_size _ _), trivial, fun b hb => (nomatch hb), ok, .of_eq hg⟩
  obtain ⟨S', hS'⟩ := hlaw ns hlen
  have one : ps.length = 1 := m3.trans hnp
  match ps, one with
  | [p], _ =>
    have rs : RS (KK w.params) H [a] (fun _ => False) [.ro (ns.map .int)] := by
      refine ⟨rfl, fun i c hc => ?_⟩
      cases i with
      | zero =>
        cases hc
        exact ⟨a, _, rfl, at_a, .ro (rvs_ofInts ns)⟩
      | succ i => cases hc
    have hb : BindsTo s₁ fd ⟨[.ref a], []⟩ ([p].zip [.ref a]) := by
      have := m4 s₁ [.ref a] inK (by rfl)
      rw [List.append_nil] at this
      exact this
    refine codeAny_mono (run callerA [] s₁ H ⟨[.ref a], []⟩ [.ref a] [.ref a] [.ref 0] [.ro (ns.map .int)] [a] (fun _ => False) (fun v _ => v = .bl true) rfl hr e0 hb (.cons rfl .nil) rfl (.cons (.ref rfl) .nil) rs (by simp) (fun _ h => h.elim) ?_) fun r s' h => ?_
    · show Fin _ _ _ _ _ (lawR G T k ns) _
      rw [hS']
      intro v H' ρ' _ _ _ rv
      have rv : RV (KK w.params) H' ρ' (fun _ => False) (.bl true) v := rv
      cases rv
      rfl
    · cases r with
      | error e => exact h.elim
      | ok fl =>
        cases fl with
        | next => exact h.elim
        | brk => exact h.elim
        | cont => exact h.elim
        | ret u =>
          obtain ⟨v, H', os, bare, un, hok', ru, hv⟩ := h
          have hv : v = .bl true := hv
          subst hv
          have hu : u = Value.bool true := ru
          subst hu
          refine ⟨rfl, OldK.of_keep fun b ob e => ?_, os, bare⟩
          by_cases hba : b = a
          · subst hba
            have := (hok' b _ (un.frzs b _ _ at_a)).1
            rw [hobj] at e
            cases e
            exact this
          · exact un.keep b ob e (off b hba) (fun z => nomatch z) (fun z => nomatch z)
end IL
/-! JB: a text's table, from what the head tells. -/
namespace IL
open PySem PySem.Spec PyProof.Rows L2
section
variable {K : Frag} {h : Heap} {mg : Str → Option Value} {W : KwT}
theorem blt_all (X : PySem.W.Frag.In K h) (N : h.Ns mainGlobals mg)
    (z : PySem.W.nsIn K mainGlobals "len" = some none ∧ PySem.W.nsIn K mainGlobals "int" = some none ∧ PySem.W.nsIn K mainGlobals "str" = some none ∧ PySem.W.nsIn K mainGlobals "repr" = some none ∧ PySem.W.nsIn K mainGlobals "abs" = some none ∧ PySem.W.nsIn K mainGlobals "max" = some none ∧
      PySem.W.nsIn K mainGlobals "min" = some none ∧ PySem.W.nsIn K mainGlobals "sum" = some none ∧ PySem.W.nsIn K mainGlobals "sorted" = some none ∧ PySem.W.nsIn K mainGlobals "all" = some none ∧ PySem.W.nsIn K mainGlobals "any" = some none ∧ PySem.W.nsIn K mainGlobals "tuple" = some none ∧
      PySem.W.nsIn K mainGlobals "list" = some none ∧ PySem.W.nsIn K mainGlobals "range" = some none ∧ PySem.W.nsIn K mainGlobals "enumerate" = some none ∧ PySem.W.nsIn K mainGlobals "zip" = some none ∧ PySem.W.nsIn K mainGlobals "isinstance" = some none ∧ PySem.W.nsIn K mainGlobals "bool" = some none ∧
      PySem.W.nsIn K mainGlobals "dict" = some none ∧ PySem.W.nsIn K mainGlobals "set" = some none) : ∀ x ∈ bnames, mg x = none := by
  intro x hx
  obtain ⟨z0, z1, z2, z3, z4, z5, z6, z7, z8, z9, z10, z11, z12, z13, z14, z15, z16, z17, z18, z19⟩ := z
  unfold bnames at hx
  simp only [List.mem_cons, List.not_mem_nil, or_false] at hx
  rcases hx with rfl | rfl | rfl | rfl | rfl | rfl | rfl | rfl | rfl | rfl | rfl | rfl | rfl | rfl | rfl | rfl | rfl | rfl | rfl | rfl
  all_goals exact PySem.W.mg_none_of X N (by assumption)
inductive GloAll (K : Frag) (mg : Str → Option Value) : List (Str × D) → Prop
  | nil : GloAll K mg []
  | cons {x : Str} {d : D} {r : List (Str × D)} : GloOk K mg x d → GloAll K mg r → GloAll K mg ((x, d) :: r)
theorem glo_of_all : ∀ {tab : List (Str × D)}, GloAll K mg tab → ∀ x d, tab.lookup x = some d → GloOk K mg x d
  | _, .nil, _, _, h => by cases h
  | _, .cons (x := y) g r, x, d, h => by
    rw [List.lookup_cons] at h
    by_cases e : (x == y) = true
    · rw [e] at h
      cases h
      rw [eq_of_beq e]
      exact g
    · rw [Bool.not_eq_true] at e
      rw [e] at h
      exact glo_of_all r x d h
theorem glo_int {x : Str} {i : Int} {t : Tok} (h : mg x = some (.int i t)) : GloOk K mg x (.int i) := ⟨_, .int i, h, ⟨t, rfl⟩, rfl, fun _ _ _ => .int i⟩
theorem glo_str {x y : Str} {t : Tok} (h : mg x = some (.str y t)) : GloOk K mg x (.str y) := ⟨_, .str y, h, ⟨t, rfl⟩, rfl, fun _ _ _ => .str y⟩
inductive FnAll (K : Frag) (mg : Str → Option Value) (W : KwT) : List (Str × Fn) → Prop
  | nil : FnAll K mg W []
  | cons {x : Str} {d : Fn} {r : List (Str × Fn)} : FnS K mg W x d → FnAll K mg W r → FnAll K mg W ((x, d) :: r)
theorem fns_of : ∀ {tab : List (Str × Fn)}, FnAll K mg W tab → ∀ x d, tab.lookup x = some d → FnS K mg W x d
  | _, .nil, _, _, h => by cases h
  | _, .cons (x := y) g r, x, d, h => by
    rw [List.lookup_cons] at h
    by_cases e : (x == y) = true
    · rw [e] at h
      cases h
      rw [eq_of_beq e]
      exact g
    · rw [Bool.not_eq_true] at e
      rw [e] at h
      exact fns_of r x d h
theorem kw_no {f : Str} {m : Nat} {ks : List Str} {perm : List Nat} {fd : FuncData} {ps : List Str} (h : (W.all fun p => decide (p.1 ≠ f)) = true) (hw : (f, m, ks, perm) ∈ W) : KwOk K fd ps m ks perm :=
  absurd rfl (of_decide_eq_true (List.all_eq_true.mp h _ hw))
theorem fn_mk {x qual : Str} {st : Stmt} {a : Addr} {N ps : List Str} {d : Fn} {kV doc pm cdv ct : Value} {an : Option Addr} (hm : mg x = some (.ref a)) (F : L2.Fun K x qual st a (PySem.W.fnOf x qual (defArgs st) (defBody st) (defScope st) .none kV doc pm an cdv ct)) (sc : FnScope N ps (defScope st)) (h1 : ps.length = d.np) (h2 : N.length = d.nn)
    (hb : ∀ (kV doc pm : Value) (an : Option Addr) (cdv ct : Value) (us : List Value), us.length = ps.length → bindArgs (PySem.W.fnOf x qual (defArgs st) (defBody st) (defScope st) .none kV doc pm an cdv ct) ⟨us, []⟩ = pure (ps.zip us))
    (hk : ∀ m ks perm, (x, m, ks, perm) ∈ W → KwOk K (PySem.W.fnOf x qual (defArgs st) (defBody st) (defScope st) .none kV doc pm an cdv ct) ps m ks perm) (ck : chkB W N (defScope st) (fun _ => true) (defBody st) d.body = true) : FnS K mg W x d :=
  ⟨a, _, st, qual, N, ps, hm, F, sc, h1, h2, F.binds hb, hk, ck⟩
end
end IL
namespace IL.k48
open PySem PySem.Spec PyProof.Rows L2 IL
def topS (i : Nat) : Stmt := PySem.Challenge.pw_leveldrops_k48_whole_tops_and_what_is_mo.main.body.getD i (.Pass ⟨0, 0, 0, 0⟩)
def kwT : KwT := [("tops", 0, ["plate"], [0]), ("more_even", 0, ["other", "one"], [1, 0])]
/-! ### half: 0 a, 1 f -/
abbrev st_half : Stmt := topS 1
def b_half : S := (.sq (.ife (.cmp .Eq (.var 0) (.int (0))) (.sq (.ret (.tup (.cs (.int (0)) (.cs (.int (0)) .nl)))) .nop) .nop) (.sq (.whl (.and (.cmp .Gt (.var 1) (.int (63))) (.cmp .Eq (.bin .Mod (.var 0) (.bin .LShift (.int (1)) (.int (64)))) (.int (0)))) (.sq (.par [(0, false), (1, false)] (.cs (.bin .FloorDiv (.var 0) (.bin .LShift (.int (1)) (.int (64)))) (.cs (.bin .Sub (.var 1) (.int (64))) .nl))) .nop)) (.sq (.whl (.and (.cmp .Gt (.var 1) (.int (0))) (.cmp .Eq (.bin .Mod (.var 0) (.int (2))) (.int (0)))) (.sq (.par [(0, false), (1, false)] (.cs (.bin .FloorDiv (.var 0) (.int (2))) (.cs (.bin .Sub (.var 1) (.int (1))) .nl))) .nop)) (.sq (.ret (.tup (.cs (.var 0) (.cs (.var 1) .nl)))) .nop))))
def f_half : Fn := ⟨2, 2, b_half⟩
theorem sc_half : FnScope ["a", "f"] ["a", "f"] (defScope st_half) := ⟨rfl, rfl, rfl, by decide +kernel, rfl, by decide +kernel, by decide +kernel⟩
theorem ck_half : chkB kwT ["a", "f"] (defScope st_half) (fun _ => true) (defBody st_half) b_half = true := by decide +kernel
/-! ### in_parts: 0 one, 1 f -/
abbrev st_in_parts : Stmt := topS 2
def b_in_parts : S := (.sq (.ret (.bin .Mult (.ix (.var 0) (.int (0))) (.bin .LShift (.int (1)) (.bin .Sub (.var 1) (.ix (.var 0) (.int (1))))))) .nop)
def f_in_parts : Fn := ⟨2, 2, b_in_parts⟩
theorem sc_in_parts : FnScope ["one", "f"] ["one", "f"] (defScope st_in_parts) := ⟨rfl, rfl, rfl, by decide +kernel, rfl, by decide +kernel, by decide +kernel⟩
theorem ck_in_parts : chkB kwT ["one", "f"] (defScope st_in_parts) (fun _ => true) (defBody st_in_parts) b_in_parts = true := by decide +kernel
/-! ### is_less: 0 one, 1 other, 2 f -/
abbrev st_is_less : Stmt := topS 3
def b_is_less : S := (.sq (.asg (.var 2) (.b2 .max (.ix (.var 0) (.int (1))) (.ix (.var 1) (.int (1))))) (.sq (.ret (.cmp .Lt (.call "in_parts" (.cs (.var 0) (.cs (.var 2) .nl))) (.call "in_parts" (.cs (.var 1) (.cs (.var 2) .nl))))) .nop))
def f_is_less : Fn := ⟨2, 3, b_is_less⟩
theorem sc_is_less : FnScope ["one", "other", "f"] ["one", "other"] (defScope st_is_less) := ⟨rfl, rfl, rfl, by decide +kernel, rfl, by decide +kernel, by decide +kernel⟩
theorem ck_is_less : chkB kwT ["one", "other", "f"] (defScope st_is_less) (fun _ => true) (defBody st_is_less) b_is_less = true := by decide +kernel
/-! ### whole: 0 plate, 1 f, 2 drop -/
abbrev st_whole : Stmt := topS 5
def b_whole : S := (.sq (.asg (.var 1) (.b1 .max (.comp (.ix (.var 2) (.int (1))) (.var 2) (.cs (.var 0) .nl) .nl))) (.sq (.ret (.tup (.cs (.b1 .tup (.comp (.call "in_parts" (.cs (.var 2) (.cs (.var 1) .nl))) (.var 2) (.cs (.var 0) .nl) .nl)) (.cs (.var 1) .nl)))) .nop))
def f_whole : Fn := ⟨1, 3, b_whole⟩
theorem sc_whole : FnScope ["plate", "f", "drop"] ["plate"] (defScope st_whole) := ⟨rfl, rfl, rfl, by decide +kernel, rfl, by decide +kernel, by decide +kernel⟩
theorem ck_whole : chkB kwT ["plate", "f", "drop"] (defScope st_whole) (fun _ => true) (defBody st_whole) b_whole = true := by decide +kernel
/-! ### tops: 0 plate, 1 numbers, 2 f, 3 total, 4 found, 5 number -/
abbrev st_tops : Stmt := topS 7
def b_tops : S := (.sq (.asg (.tup (.cs (.var 1) (.cs (.var 2) .nl))) (.call "whole" (.cs (.var 0) .nl))) (.sq (.par [(3, false), (4, true)] (.cs (.int (0)) (.cs (.lst .nl) .nl))) (.sq (.for_ (.var 5) (.cs (.revl (.b1 .sorted (.var 1))) .nl) (.sq (.asg (.var 3) (.bin .Add (.var 3) (.var 5))) (.sq (.app 4 (.call "half" (.cs (.var 3) (.cs (.var 2) .nl)))) .nop))) (.sq (.ret (.b1 .tup (.own 4))) .nop))))
def f_tops : Fn := ⟨1, 6, b_tops⟩
theorem sc_tops : FnScope ["plate", "numbers", "f", "total", "found", "number"] ["plate"] (defScope st_tops) := ⟨rfl, rfl, rfl, by decide +kernel, rfl, by decide +kernel, by decide +kernel⟩
theorem ck_tops : chkB kwT ["plate", "numbers", "f", "total", "found", "number"] (defScope st_tops) (fun _ => true) (defBody st_tops) b_tops = true := by decide +kernel
/-! ### more_even: 0 one, 1 other, 2 mine, 3 theirs, 4 place, 5 top -/
abbrev st_more_even : Stmt := topS 8
def b_more_even : S := (.sq (.ife (.cmp .NotEq (.b1 .len (.var 0)) (.b1 .len (.var 1))) (.sq (.ret (.bl false)) .nop) .nop) (.sq (.asg (.tup (.cs (.var 2) (.cs (.var 3) .nl))) (.tup (.cs (.call "tops" (.cs (.var 0) .nl)) (.cs (.call "tops" (.cs (.var 1) .nl)) .nl)))) (.sq (.ret (.and (.cmp .Eq (.ix (.var 2) (.neg (.int (1)))) (.ix (.var 3) (.neg (.int (1))))) (.not (.b1 .any (.comp (.call "is_less" (.cs (.ix (.var 3) (.var 4)) (.cs (.var 5) .nl))) (.tup (.cs (.var 4) (.cs (.var 5) .nl))) (.enu (.var 2)) .nl))))) .nop)))
def f_more_even : Fn := ⟨2, 6, b_more_even⟩
theorem sc_more_even : FnScope ["one", "other", "mine", "theirs", "place", "top"] ["one", "other"] (defScope st_more_even) := ⟨rfl, rfl, rfl, by decide +kernel, rfl, by decide +kernel, by decide +kernel⟩
theorem ck_more_even : chkB kwT ["one", "other", "mine", "theirs", "place", "top"] (defScope st_more_even) (fun _ => true) (defBody st_more_even) b_more_even = true := by decide +kernel
/-! ### _law_deck: 0 script, 1 cells, 2 stirred, 3 cell -/
abbrev st__law_deck : Stmt := topS 10
def b__law_deck : S := (.sq (.par [(1, false), (2, false)] (.cs (.comp (.ife (.cmp .GtE (.var 3) (.int (0))) (.bin .Mult (.int (2)) (.var 3)) (.bin .Sub (.bin .Mult (.neg (.int (2))) (.var 3)) (.int (1)))) (.var 3) (.cs (.sl (.var 0) .nl (.cs (.int (63)) .nl)) .nl) .nl) (.cs (.bin .Add (.int (15748)) (.b1 .len (.var 0))) .nl))) (.sq (.for_ (.var 3) (.cs (.var 1) .nl) (.sq (.asg (.var 2) (.bin .Mod (.b1 .int (.bin .Add (.bin .Mult (.var 2) (.int (48271))) (.var 3))) (.int (4294967291)))) .nop)) (.sq (.ret (.cell (.lst (.cs (.cell (.comp (.var 3) (.var 3) (.cs (.var 1) .nl) (.cs (.cmp .GtE (.var 3) (.bin .Pow (.int (10)) (.int (15)))) .nl))) (.cs (.var 2) (.cs (.int (0)) .nl)))))) .nop)))
def f__law_deck : Fn := ⟨1, 4, b__law_deck⟩
theorem sc__law_deck : FnScope ["script", "cells", "stirred", "cell"] ["script"] (defScope st__law_deck) := ⟨rfl, rfl, rfl, by decide +kernel, rfl, by decide +kernel, by decide +kernel⟩
theorem ck__law_deck : chkB kwT ["script", "cells", "stirred", "cell"] (defScope st__law_deck) (fun _ => true) (defBody st__law_deck) b__law_deck = true := by decide +kernel
/-! ### _law_draw: 0 deck, 1 many, 2 blend, 3 cell -/
abbrev st__law_draw : Stmt := topS 11
def b__law_draw : S := (.sq (.ife (.cmp .NotEq (.ix (.var 0) (.int (0))) (.lst .nl)) (.sq (.asg (.var 3) (.ix (.ix (.var 0) (.int (0))) (.int (0)))) (.sq (.asg (.ix (.ix (.var 0) (.int (0))) (.int (0))) (.bin .FloorDiv (.var 3) (.var 1))) (.sq (.ife (.cmp .Lt (.var 3) (.var 1)) (.sq (.expr (.popi (.ix (.var 0) (.int (0))) (.int (0)))) .nop) .nop) (.sq (.ret (.bin .Mod (.b1 .int (.var 3)) (.var 1))) .nop)))) .nop) (.sq (.asg (.ix (.var 0) (.int (2))) (.bin .Add (.ix (.var 0) (.int (2))) (.int (1)))) (.sq (.asg (.var 2) (.bin .Mod (.b1 .int (.bin .Add (.ix (.var 0) (.int (1))) (.bin .Mult (.int (2654435761)) (.ix (.var 0) (.int (2)))))) (.int (4294967291)))) (.sq (.asg (.var 2) (.bin .Mod (.b1 .int (.bin .Add (.bin .Add (.bin .Mult (.var 2) (.var 2)) (.bin .Mult (.int (40503)) (.ix (.var 0) (.int (2))))) (.int (11)))) (.int (4294967279)))) (.sq (.asg (.var 2) (.bin .Mod (.b1 .int (.bin .Add (.bin .Mult (.var 2) (.var 2)) (.ix (.var 0) (.int (1))))) (.int (4294967231)))) (.sq (.ret (.bin .Mod (.b1 .int (.bin .FloorDiv (.var 2) (.int (64)))) (.var 1))) .nop))))))
def f__law_draw : Fn := ⟨2, 4, b__law_draw⟩
theorem sc__law_draw : FnScope ["deck", "many", "blend", "cell"] ["deck", "many"] (defScope st__law_draw) := ⟨rfl, rfl, rfl, by decide +kernel, rfl, by decide +kernel, by decide +kernel⟩
theorem ck__law_draw : chkB kwT ["deck", "many", "blend", "cell"] (defScope st__law_draw) (fun _ => true) (defBody st__law_draw) b__law_draw = true := by decide +kernel
/-! ### _law_pick: 0 deck, 1 items -/
abbrev st__law_pick : Stmt := topS 12
def b__law_pick : S := (.sq (.ret (.ix (.var 1) (.call "_law_draw" (.cs (.var 0) (.cs (.b1 .len (.var 1)) .nl))))) .nop)
def f__law_pick : Fn := ⟨2, 2, b__law_pick⟩
theorem sc__law_pick : FnScope ["deck", "items"] ["deck", "items"] (defScope st__law_pick) := ⟨rfl, rfl, rfl, by decide +kernel, rfl, by decide +kernel, by decide +kernel⟩
theorem ck__law_pick : chkB kwT ["deck", "items"] (defScope st__law_pick) (fun _ => true) (defBody st__law_pick) b__law_pick = true := by decide +kernel
/-! ### _law_mixed_up: 0 deck, 1 items, 2 rest, 3 got -/
abbrev st__law_mixed_up : Stmt := topS 13
def b__law_mixed_up : S := (.sq (.par [(2, false), (3, true)] (.cs (.cell (.b1 .lst (.var 1))) (.cs (.lst .nl) .nl))) (.sq (.whl (.cmp .NotEq (.var 2) (.lst .nl)) (.sq (.app 3 (.popi (.var 2) (.call "_law_draw" (.cs (.var 0) (.cs (.b1 .len (.var 2)) .nl))))) .nop)) (.sq (.reto 3) .nop)))
def f__law_mixed_up : Fn := ⟨2, 4, b__law_mixed_up⟩
theorem sc__law_mixed_up : FnScope ["deck", "items", "rest", "got"] ["deck", "items"] (defScope st__law_mixed_up) := ⟨rfl, rfl, rfl, by decide +kernel, rfl, by decide +kernel, by decide +kernel⟩
theorem ck__law_mixed_up : chkB kwT ["deck", "items", "rest", "got"] (defScope st__law_mixed_up) (fun _ => true) (defBody st__law_mixed_up) b__law_mixed_up = true := by decide +kernel
/-! ### _law_half: 0 a, 1 f -/
abbrev st__law_half : Stmt := topS 14
def b__law_half : S := (.sq (.whl (.and (.cmp .Gt (.var 1) (.int (0))) (.cmp .Eq (.bin .Mod (.var 0) (.int (2))) (.int (0)))) (.sq (.par [(0, false), (1, false)] (.cs (.bin .FloorDiv (.var 0) (.int (2))) (.cs (.bin .Sub (.var 1) (.int (1))) .nl))) .nop)) (.sq (.ret (.tup (.cs (.var 0) (.cs (.var 1) .nl)))) .nop))
def f__law_half : Fn := ⟨2, 2, b__law_half⟩
theorem sc__law_half : FnScope ["a", "f"] ["a", "f"] (defScope st__law_half) := ⟨rfl, rfl, rfl, by decide +kernel, rfl, by decide +kernel, by decide +kernel⟩
theorem ck__law_half : chkB kwT ["a", "f"] (defScope st__law_half) (fun _ => true) (defBody st__law_half) b__law_half = true := by decide +kernel
/-! ### _law_numbers: 0 plate, 1 most, 2 a, 3 f -/
abbrev st__law_numbers : Stmt := topS 15
def b__law_numbers : S := (.sq (.asg (.var 1) (.b1 .max (.bin .Add (.lst (.cs (.int (0)) .nl)) (.comp (.var 3) (.tup (.cs (.var 2) (.cs (.var 3) .nl))) (.cs (.var 0) .nl) .nl)))) (.sq (.ret (.tup (.cs (.cell (.comp (.bin .Mult (.var 2) (.bin .LShift (.int (1)) (.bin .Sub (.var 1) (.var 3)))) (.tup (.cs (.var 2) (.cs (.var 3) .nl))) (.cs (.var 0) .nl) .nl)) (.cs (.var 1) .nl)))) .nop))
def f__law_numbers : Fn := ⟨1, 4, b__law_numbers⟩
theorem sc__law_numbers : FnScope ["plate", "most", "a", "f"] ["plate"] (defScope st__law_numbers) := ⟨rfl, rfl, rfl, by decide +kernel, rfl, by decide +kernel, by decide +kernel⟩
theorem ck__law_numbers : chkB kwT ["plate", "most", "a", "f"] (defScope st__law_numbers) (fun _ => true) (defBody st__law_numbers) b__law_numbers = true := by decide +kernel
/-! ### _law_ran: 0 plate, 1 row, 2 numbers, 3 over, 4 i, 5 j, 6 both, 7 own -/
abbrev st__law_ran : Stmt := topS 16
def b__law_ran : S := (.sq (.asg (.tup (.cs (.var 2) (.cs (.var 3) .nl))) (.call "_law_numbers" (.cs (.var 0) .nl))) (.sq (.for_ (.tup (.cs (.var 4) (.cs (.var 5) .nl))) (.cs (.var 1) .nl) (.sq (.asg (.var 6) (.bin .Add (.ix (.var 2) (.var 4)) (.ix (.var 2) (.var 5)))) (.sq (.ife (.cmp .Eq (.bin .Mod (.var 6) (.int (2))) (.int (1))) (.sq (.asg (.tup (.cs (.var 2) (.cs (.var 3) (.cs (.var 6) .nl)))) (.tup (.cs (.cell (.compc (.bin .Mult (.int (2)) (.var 7)) (.var 7) (.cs (.var 2) .nl) .nl)) (.cs (.bin .Add (.var 3) (.int (1))) (.cs (.bin .Mult (.int (2)) (.var 6)) .nl))))) .nop) .nop) (.sq (.asg (.tup (.cs (.ix (.var 2) (.var 4)) (.cs (.ix (.var 2) (.var 5)) .nl))) (.tup (.cs (.bin .FloorDiv (.var 6) (.int (2))) (.cs (.bin .FloorDiv (.var 6) (.int (2))) .nl)))) .nop)))) (.sq (.ret (.b1 .tup (.compc (.call "_law_half" (.cs (.var 7) (.cs (.var 3) .nl))) (.var 7) (.cs (.var 2) .nl) .nl))) .nop)))
def f__law_ran : Fn := ⟨2, 8, b__law_ran⟩
theorem sc__law_ran : FnScope ["plate", "row", "numbers", "over", "i", "j", "both", "own"] ["plate", "row"] (defScope st__law_ran) := ⟨rfl, rfl, rfl, by decide +kernel, rfl, by decide +kernel, by decide +kernel⟩
theorem ck__law_ran : chkB kwT ["plate", "row", "numbers", "over", "i", "j", "both", "own"] (defScope st__law_ran) (fun _ => true) (defBody st__law_ran) b__law_ran = true := by decide +kernel
/-! ### _law_strength: 0 deck, 1 is_great, 2 great -/
abbrev st__law_strength : Stmt := topS 17
def b__law_strength : S := (.sq (.ife (.and (.var 1) (.cmp .Eq (.call "_law_draw" (.cs (.var 0) (.cs (.int (5)) .nl))) (.int (0)))) (.sq (.asg (.var 2) (.lst (.cs (.tup (.cs (.bin .Pow (.int (10)) (.int (12))) (.cs (.int (0)) .nl))) (.cs (.tup (.cs (.bin .Sub (.bin .Mult (.bin .Pow (.int (10)) (.int (12))) (.bin .Pow (.int (2)) (.int (40)))) (.int (1))) (.cs (.int (40)) .nl))) (.cs (.tup (.cs (.int (1)) (.cs (.int (40)) .nl))) (.cs (.tup (.cs (.int (3)) (.cs (.int (39)) .nl))) (.cs (.tup (.cs (.bin .Sub (.bin .Pow (.int (10)) (.int (12))) (.int (1))) (.cs (.int (0)) .nl))) (.cs (.tup (.cs (.int (0)) (.cs (.int (0)) .nl))) .nl)))))))) (.sq (.ret (.call "_law_pick" (.cs (.var 0) (.cs (.var 2) .nl)))) .nop)) .nop) (.sq (.ret (.call "_law_half" (.cs (.call "_law_draw" (.cs (.var 0) (.cs (.int (12)) .nl))) (.cs (.call "_law_pick" (.cs (.var 0) (.cs (.lst (.cs (.int (0)) (.cs (.int (0)) (.cs (.int (0)) (.cs (.int (1)) (.cs (.int (2)) (.cs (.int (3)) .nl))))))) .nl))) .nl)))) .nop))
def f__law_strength : Fn := ⟨2, 3, b__law_strength⟩
theorem sc__law_strength : FnScope ["deck", "is_great", "great"] ["deck", "is_great"] (defScope st__law_strength) := ⟨rfl, rfl, rfl, by decide +kernel, rfl, by decide +kernel, by decide +kernel⟩
theorem ck__law_strength : chkB kwT ["deck", "is_great", "great"] (defScope st__law_strength) (fun _ => true) (defBody st__law_strength) b__law_strength = true := by decide +kernel
/-! ### _law_plate: 0 deck, 1 n, 2 is_great, 3 shape, 4 first, 5 found, 6 spot -/
abbrev st__law_plate : Stmt := topS 18
def b__law_plate : S := (.sq (.asg (.tup (.cs (.var 3) (.cs (.var 4) .nl))) (.tup (.cs (.call "_law_draw" (.cs (.var 0) (.cs (.int (4)) .nl))) (.cs (.call "_law_strength" (.cs (.var 0) (.cs (.var 2) .nl))) .nl)))) (.sq (.asg (.var 5) (.comp (.ife (.and (.cmp .Eq (.var 3) (.int (0))) (.cmp .Gt (.call "_law_draw" (.cs (.var 0) (.cs (.int (3)) .nl))) (.int (0)))) (.var 4) (.call "_law_strength" (.cs (.var 0) (.cs (.var 2) .nl)))) (.var 6) (.rng1 (.var 1)) .nl)) (.sq (.ife (.cmp .Eq (.var 3) (.int (1))) (.sq (.asg (.var 5) (.bin .Add (.bin .Mult (.lst (.cs (.var 4) .nl)) (.bin .Sub (.var 1) (.int (1)))) (.sl (.var 5) .nl (.cs (.int (1)) .nl)))) .nop) .nop) (.sq (.ret (.b1 .tup (.call "_law_mixed_up" (.cs (.var 0) (.cs (.var 5) .nl))))) .nop))))
def f__law_plate : Fn := ⟨3, 7, b__law_plate⟩
theorem sc__law_plate : FnScope ["deck", "n", "is_great", "shape", "first", "found", "spot"] ["deck", "n", "is_great"] (defScope st__law_plate) := ⟨rfl, rfl, rfl, by decide +kernel, rfl, by decide +kernel, by decide +kernel⟩
theorem ck__law_plate : chkB kwT ["deck", "n", "is_great", "shape", "first", "found", "spot"] (defScope st__law_plate) (fun _ => true) (defBody st__law_plate) b__law_plate = true := by decide +kernel
/-! ### _law_row: 0 deck, 1 n, 2 many, 3 found, 4 turn, 5 i -/
abbrev st__law_row : Stmt := topS 19
def b__law_row : S := (.sq (.seto 3 (.lst .nl)) (.sq (.for_ (.var 4) (.rng1 (.ife (.cmp .Gt (.var 1) (.int (1))) (.var 2) (.int (0)))) (.sq (.asg (.var 5) (.call "_law_draw" (.cs (.var 0) (.cs (.bin .Sub (.var 1) (.int (1))) .nl)))) (.sq (.app 3 (.tup (.cs (.var 5) (.cs (.bin .Add (.bin .Add (.var 5) (.int (1))) (.call "_law_draw" (.cs (.var 0) (.cs (.bin .Sub (.bin .Sub (.var 1) (.int (1))) (.var 5)) .nl)))) .nl)))) .nop))) (.sq (.ret (.b1 .tup (.own 3))) .nop)))
def f__law_row : Fn := ⟨3, 6, b__law_row⟩
theorem sc__law_row : FnScope ["deck", "n", "many", "found", "turn", "i"] ["deck", "n", "many"] (defScope st__law_row) := ⟨rfl, rfl, rfl, by decide +kernel, rfl, by decide +kernel, by decide +kernel⟩
theorem ck__law_row : chkB kwT ["deck", "n", "many", "found", "turn", "i"] (defScope st__law_row) (fun _ => true) (defBody st__law_row) b__law_row = true := by decide +kernel
/-! ### _law_sums: 0 plate, 1 numbers, 2 over, 3 found, 4 total, 5 own -/
abbrev st__law_sums : Stmt := topS 20
def b__law_sums : S := (.sq (.asg (.tup (.cs (.var 1) (.cs (.var 2) .nl))) (.call "_law_numbers" (.cs (.var 0) .nl))) (.sq (.par [(3, true), (4, false)] (.cs (.lst .nl) (.cs (.int (0)) .nl))) (.sq (.for_ (.var 5) (.cs (.revl (.b1 .sorted (.var 1))) .nl) (.sq (.asg (.var 4) (.bin .Add (.var 4) (.var 5))) (.sq (.app 3 (.call "_law_half" (.cs (.var 4) (.cs (.var 2) .nl)))) .nop))) (.sq (.ret (.b1 .tup (.own 3))) .nop))))
def f__law_sums : Fn := ⟨1, 6, b__law_sums⟩
theorem sc__law_sums : FnScope ["plate", "numbers", "over", "found", "total", "own"] ["plate"] (defScope st__law_sums) := ⟨rfl, rfl, rfl, by decide +kernel, rfl, by decide +kernel, by decide +kernel⟩
theorem ck__law_sums : chkB kwT ["plate", "numbers", "over", "found", "total", "own"] (defScope st__law_sums) (fun _ => true) (defBody st__law_sums) b__law_sums = true := by decide +kernel
/-! ### _law_is_more_even: 0 one, 1 other, 2 here, 3 there, 4 own, 5 far -/
abbrev st__law_is_more_even : Stmt := topS 21
def b__law_is_more_even : S := (.sq (.par [(2, false), (3, false)] (.cs (.call "_law_sums" (.cs (.var 0) .nl)) (.cs (.call "_law_sums" (.cs (.var 1) .nl)) .nl))) (.sq (.ife (.or (.cmp .NotEq (.b1 .len (.var 2)) (.b1 .len (.var 3))) (.cmp .NotEq (.ix (.var 2) (.neg (.int (1)))) (.ix (.var 3) (.neg (.int (1)))))) (.sq (.ret (.bl false)) .nop) .nop) (.sq (.ret (.cmp .Eq (.comp (.int (1)) (.tup (.cs (.var 4) (.cs (.var 5) .nl))) (.zip (.var 2) (.var 3)) (.cs (.cmp .Gt (.bin .Mult (.ix (.var 4) (.int (0))) (.bin .LShift (.int (1)) (.ix (.var 5) (.int (1))))) (.bin .Mult (.ix (.var 5) (.int (0))) (.bin .LShift (.int (1)) (.ix (.var 4) (.int (1)))))) .nl)) (.lst .nl))) .nop)))
def f__law_is_more_even : Fn := ⟨2, 6, b__law_is_more_even⟩
theorem sc__law_is_more_even : FnScope ["one", "other", "here", "there", "own", "far"] ["one", "other"] (defScope st__law_is_more_even) := ⟨rfl, rfl, rfl, by decide +kernel, rfl, by decide +kernel, by decide +kernel⟩
theorem ck__law_is_more_even : chkB kwT ["one", "other", "here", "there", "own", "far"] (defScope st__law_is_more_even) (fun _ => true) (defBody st__law_is_more_even) b__law_is_more_even = true := by decide +kernel
/-! ### _law_kin: 0 deck, 1 plate, 2 n, 3 shape, 4 numbers, 5 over, 6 spot, 7 i, 8 j, 9 some, 10 more, 11 own -/
abbrev st__law_kin : Stmt := topS 22
def b__law_kin : S := (.sq (.par [(2, false), (3, false)] (.cs (.b1 .len (.var 1)) (.cs (.call "_law_draw" (.cs (.var 0) (.cs (.int (6)) .nl))) .nl))) (.sq (.ife (.cmp .Eq (.var 3) (.int (0))) (.sq (.ret (.b1 .tup (.call "_law_mixed_up" (.cs (.var 0) (.cs (.b1 .lst (.var 1)) .nl))))) .nop) .nop) (.sq (.ife (.and (.cmp .Lt (.var 3) (.int (3))) (.cmp .Gt (.var 2) (.int (1)))) (.sq (.ret (.call "_law_ran" (.cs (.var 1) (.cs (.call "_law_row" (.cs (.var 0) (.cs (.var 2) (.cs (.bin .Add (.int (1)) (.call "_law_draw" (.cs (.var 0) (.cs (.int (4)) .nl)))) .nl)))) .nl)))) .nop) .nop) (.sq (.asg (.tup (.cs (.var 4) (.cs (.var 5) .nl))) (.call "_law_numbers" (.cs (.var 1) .nl))) (.sq (.ife (.and (.cmp .Eq (.var 3) (.int (3))) (.and (.cmp .Gt (.var 2) (.int (1))) (.cmp .Lt (.b1 .max (.var 4)) (.bin .Pow (.int (10)) (.int (6)))))) (.sq (.asg (.tup (.cs (.var 7) (.cs (.var 8) .nl))) (.ix (.call "_law_row" (.cs (.var 0) (.cs (.var 2) (.cs (.int (1)) .nl)))) (.int (0)))) (.sq (.asg (.var 9) (.call "_law_draw" (.cs (.var 0) (.cs (.bin .Add (.ix (.var 4) (.var 7)) (.int (1))) .nl)))) (.sq (.asg (.tup (.cs (.ix (.var 4) (.var 7)) (.cs (.ix (.var 4) (.var 8)) .nl))) (.tup (.cs (.bin .Sub (.ix (.var 4) (.var 7)) (.var 9)) (.cs (.bin .Add (.ix (.var 4) (.var 8)) (.var 9)) .nl)))) (.sq (.ret (.b1 .tup (.compc (.call "_law_half" (.cs (.var 11) (.cs (.var 5) .nl))) (.var 11) (.cs (.var 4) .nl) .nl))) .nop)))) .nop) (.sq (.ife (.cmp .Eq (.var 3) (.int (4))) (.sq (.asg (.var 10) (.bin .Add (.var 1) (.tup (.cs (.call "_law_pick" (.cs (.var 0) (.cs (.lst (.cs (.tup (.cs (.int (0)) (.cs (.int (0)) .nl))) (.cs (.call "_law_strength" (.cs (.var 0) (.cs (.bl false) .nl))) .nl))) .nl))) .nl)))) (.sq (.ret (.ife (.or (.cmp .Eq (.var 2) (.int (1))) (.and (.cmp .Lt (.var 2) (.int (16))) (.cmp .Eq (.call "_law_draw" (.cs (.var 0) (.cs (.int (2)) .nl))) (.int (0))))) (.var 10) (.sl (.var 1) (.cs (.int (1)) .nl) .nl))) .nop)) .nop) (.sq (.asg (.var 6) (.call "_law_draw" (.cs (.var 0) (.cs (.var 2) .nl)))) (.sq (.ret (.bin .Add (.bin .Add (.sl (.var 1) .nl (.cs (.var 6) .nl)) (.tup (.cs (.call "_law_strength" (.cs (.var 0) (.cs (.bl true) .nl))) .nl))) (.sl (.var 1) (.cs (.bin .Add (.var 6) (.int (1))) .nl) .nl))) .nop))))))))
def f__law_kin : Fn := ⟨2, 12, b__law_kin⟩
theorem sc__law_kin : FnScope ["deck", "plate", "n", "shape", "numbers", "over", "spot", "i", "j", "some", "more", "own"] ["deck", "plate"] (defScope st__law_kin) := ⟨rfl, rfl, rfl, by decide +kernel, rfl, by decide +kernel, by decide +kernel⟩
theorem ck__law_kin : chkB kwT ["deck", "plate", "n", "shape", "numbers", "over", "spot", "i", "j", "some", "more", "own"] (defScope st__law_kin) (fun _ => true) (defBody st__law_kin) b__law_kin = true := by decide +kernel
/-! ### _law_is_told: 0 one, 1 other, 2 is_named, 3 same, 4 told, 5 due -/
abbrev st__law_is_told : Stmt := topS 23
def b__law_is_told : S := (.sq (.asg (.var 3) (.b1 .repr (.lst (.cs (.var 0) (.cs (.var 1) .nl))))) (.sq (.asg (.var 4) (.ife (.var 2) (.lst (.cs (.cak "tops" 0 .nl ["plate"] (.cs (.var 0) .nl) [0]) (.cs (.cak "more_even" 0 .nl ["other", "one"] (.cs (.var 1) (.cs (.var 0) .nl)) [1, 0]) .nl))) (.lst (.cs (.call "tops" (.cs (.var 0) .nl)) (.cs (.call "more_even" (.cs (.var 0) (.cs (.var 1) .nl))) .nl))))) (.sq (.asg (.var 5) (.lst (.cs (.call "_law_sums" (.cs (.var 0) .nl)) (.cs (.call "_law_is_more_even" (.cs (.var 0) (.cs (.var 1) .nl))) .nl)))) (.sq (.ife (.or (.cmp .NotEq (.b1 .repr (.var 4)) (.b1 .repr (.var 5))) (.cmp .NotEq (.b1 .repr (.call "more_even" (.cs (.var 1) (.cs (.var 0) .nl)))) (.b1 .repr (.call "_law_is_more_even" (.cs (.var 1) (.cs (.var 0) .nl)))))) (.sq (.ret (.bl false)) .nop) .nop) (.sq (.ret (.and (.cmp .Eq (.b1 .repr (.lst (.cs (.call "tops" (.cs (.var 0) .nl)) (.cs (.call "more_even" (.cs (.var 0) (.cs (.var 1) .nl))) .nl)))) (.b1 .repr (.var 5))) (.cmp .Eq (.b1 .repr (.lst (.cs (.var 0) (.cs (.var 1) .nl)))) (.var 3)))) .nop)))))
def f__law_is_told : Fn := ⟨3, 6, b__law_is_told⟩
theorem sc__law_is_told : FnScope ["one", "other", "is_named", "same", "told", "due"] ["one", "other", "is_named"] (defScope st__law_is_told) := ⟨rfl, rfl, rfl, by decide +kernel, rfl, by decide +kernel, by decide +kernel⟩
theorem ck__law_is_told : chkB kwT ["one", "other", "is_named", "same", "told", "due"] (defScope st__law_is_told) (fun _ => true) (defBody st__law_is_told) b__law_is_told = true := by decide +kernel
/-! ### law: 0 script, 1 deck, 2 turn, 3 n, 4 f, 5 plate, 6 second, 7 third, 8 some, 9 spot, 10 one, 11 other, 12 both, 13 drop, 14 a, 15 own -/
abbrev st_law : Stmt := topS 24
def b_law : S := (.sq (.asg (.var 1) (.call "_law_deck" (.cs (.var 0) .nl))) (.sq (.ife (.cmp .Eq (.call "_law_draw" (.cs (.var 1) (.cs (.int (12)) .nl))) (.int (0))) (.sq (.asg (.tup (.cs (.var 3) (.cs (.var 4) .nl))) (.tup (.cs (.call "_law_pick" (.cs (.var 1) (.cs (.lst (.cs (.int (2)) (.cs (.int (3)) (.cs (.int (5)) (.cs (.int (8)) .nl))))) .nl))) (.cs (.bin .Add (.int (1050)) (.call "_law_draw" (.cs (.var 1) (.cs (.int (300)) .nl)))) .nl)))) (.sq (.asg (.var 5) (.b1 .tup (.comp (.call "_law_half" (.cs (.bin .Add (.int (1)) (.call "_law_draw" (.cs (.var 1) (.cs (.int (40)) .nl)))) (.cs (.var 4) .nl))) (.var 13) (.rng1 (.var 3)) .nl))) (.sq (.ret (.call "_law_is_told" (.cs (.var 5) (.cs (.call "_law_ran" (.cs (.var 5) (.cs (.call "_law_row" (.cs (.var 1) (.cs (.var 3) (.cs (.int (3)) .nl)))) .nl))) (.cs (.bl false) .nl))))) .nop))) .nop) (.sq (.for_ (.var 2) (.rng1 (.int (5))) (.sq (.asg (.var 5) (.call "_law_plate" (.cs (.var 1) (.cs (.call "_law_pick" (.cs (.var 1) (.cs (.lst (.cs (.int (1)) (.cs (.int (2)) (.cs (.int (3)) (.cs (.int (4)) (.cs (.int (5)) (.cs (.int (8)) (.cs (.int (16)) .nl)))))))) .nl))) (.cs (.cmp .Eq (.var 2) (.int (3))) .nl))))) (.sq (.ife (.and (.cmp .Eq (.var 2) (.int (4))) (.cmp .Eq (.call "_law_draw" (.cs (.var 1) (.cs (.int (2)) .nl))) (.int (0)))) (.sq (.asg (.var 5) (.call "_law_ran" (.cs (.b1 .tup (.comp (.call "_law_half" (.cs (.var 14) (.cs (.bin .Add (.var 4) (.int (39))) .nl))) (.tup (.cs (.var 14) (.cs (.var 4) .nl))) (.cs (.var 5) .nl) .nl)) (.cs (.call "_law_row" (.cs (.var 1) (.cs (.b1 .len (.var 5)) (.cs (.int (4)) .nl)))) .nl)))) .nop) .nop) (.sq (.asg (.var 6) (.call "_law_kin" (.cs (.var 1) (.cs (.var 5) .nl)))) (.sq (.asg (.var 7) (.call "_law_kin" (.cs (.var 1) (.cs (.ife (.cmp .Lt (.b1 .len (.var 6)) (.int (16))) (.var 6) (.var 5)) .nl)))) (.sq (.asg (.var 8) (.lst (.cs (.var 5) (.cs (.var 6) (.cs (.var 7) .nl))))) (.sq (.for_ (.tup (.cs (.var 9) (.cs (.tup (.cs (.var 10) (.cs (.var 11) .nl))) .nl))) (.enu (.lst (.cs (.tup (.cs (.var 5) (.cs (.var 6) .nl))) (.cs (.tup (.cs (.var 6) (.cs (.var 7) .nl))) (.cs (.tup (.cs (.var 5) (.cs (.var 7) .nl))) (.cs (.tup (.cs (.var 5) (.cs (.var 5) .nl))) .nl)))))) (.sq (.ife (.not (.call "_law_is_told" (.cs (.var 10) (.cs (.var 11) (.cs (.cmp .Eq (.var 9) (.var 2)) .nl))))) (.sq (.ret (.bl false)) .nop) .nop) .nop)) (.sq (.for_ (.var 10) (.cs (.var 8) .nl) (.sq (.for_ (.var 11) (.cs (.var 8) .nl) (.sq (.asg (.var 12) (.and (.call "more_even" (.cs (.var 10) (.cs (.var 11) .nl))) (.call "more_even" (.cs (.var 11) (.cs (.var 10) .nl))))) (.sq (.ife (.cmp .NotEq (.var 12) (.cmp .Eq (.b1 .sorted (.var 10)) (.b1 .sorted (.var 11)))) (.sq (.ret (.bl false)) .nop) .nop) (.sq (.ife (.not (.call "more_even" (.cs (.var 10) (.cs (.var 11) .nl)))) (.sq .cnt .nop) .nop) (.sq (.ife (.cmp .NotEq (.comp (.int (1)) (.var 15) (.cs (.var 8) .nl) (.cs (.and (.call "more_even" (.cs (.var 11) (.cs (.var 15) .nl))) (.not (.call "more_even" (.cs (.var 10) (.cs (.var 15) .nl))))) .nl)) (.lst .nl)) (.sq (.ret (.bl false)) .nop) .nop) .nop))))) .nop)) .nop)))))))) (.sq (.ret (.bl true)) .nop))))
def f_law : Fn := ⟨1, 16, b_law⟩
theorem sc_law : FnScope ["script", "deck", "turn", "n", "f", "plate", "second", "third", "some", "spot", "one", "other", "both", "drop", "a", "own"] ["script"] (defScope st_law) := ⟨rfl, rfl, rfl, by decide +kernel, rfl, by decide +kernel, by decide +kernel⟩
theorem ck_law : chkB kwT ["script", "deck", "turn", "n", "f", "plate", "second", "third", "some", "spot", "one", "other", "both", "drop", "a", "own"] (defScope st_law) (fun _ => true) (defBody st_law) b_law = true := by decide +kernel
def tab : List (Str × Fn) := (("half" : Str), f_half) :: (("in_parts" : Str), f_in_parts) :: (("is_less" : Str), f_is_less) :: (("whole" : Str), f_whole) :: (("tops" : Str), f_tops) :: (("more_even" : Str), f_more_even) :: (("_law_deck" : Str), f__law_deck) :: (("_law_draw" : Str), f__law_draw) :: (("_law_pick" : Str), f__law_pick) :: (("_law_mixed_up" : Str), f__law_mixed_up) :: (("_law_half" : Str), f__law_half) :: (("_law_numbers" : Str), f__law_numbers) :: (("_law_ran" : Str), f__law_ran) :: (("_law_strength" : Str), f__law_strength) :: (("_law_plate" : Str), f__law_plate) :: (("_law_row" : Str), f__law_row) :: (("_law_sums" : Str), f__law_sums) :: (("_law_is_more_even" : Str), f__law_is_more_even) :: (("_law_kin" : Str), f__law_kin) :: (("_law_is_told" : Str), f__law_is_told) :: (("law" : Str), f_law) :: []
def T : Str → Option Fn := fun x => tab.lookup x
def gtab : List (Str × D) := []
def G : Str → Option D := fun x => gtab.lookup x
theorem T_half : T "half" = some f_half := rfl
theorem T_in_parts : T "in_parts" = some f_in_parts := rfl
theorem T_is_less : T "is_less" = some f_is_less := rfl
theorem T_whole : T "whole" = some f_whole := rfl
theorem T_tops : T "tops" = some f_tops := rfl
theorem T_more_even : T "more_even" = some f_more_even := rfl
theorem T__law_deck : T "_law_deck" = some f__law_deck := rfl
theorem T__law_draw : T "_law_draw" = some f__law_draw := rfl
theorem T__law_pick : T "_law_pick" = some f__law_pick := rfl
theorem T__law_mixed_up : T "_law_mixed_up" = some f__law_mixed_up := rfl
theorem T__law_half : T "_law_half" = some f__law_half := rfl
theorem T__law_numbers : T "_law_numbers" = some f__law_numbers := rfl
theorem T__law_ran : T "_law_ran" = some f__law_ran := rfl
theorem T__law_strength : T "_law_strength" = some f__law_strength := rfl
theorem T__law_plate : T "_law_plate" = some f__law_plate := rfl
theorem T__law_row : T "_law_row" = some f__law_row := rfl
theorem T__law_sums : T "_law_sums" = some f__law_sums := rfl
theorem T__law_is_more_even : T "_law_is_more_even" = some f__law_is_more_even := rfl
theorem T__law_kin : T "_law_kin" = some f__law_kin := rfl
theorem T__law_is_told : T "_law_is_told" = some f__law_is_told := rfl
theorem T_law : T "law" = some f_law := rfl
theorem kw_tops {K : PySem.W.Frag} {kV doc pm : Value} {an : Option Addr} {cdv ct : Value} : ∀ m ks perm, (("tops" : Str), m, ks, perm) ∈ kwT → KwOk K (PySem.W.fnOf "tops" "tops" (defArgs st_tops) (defBody st_tops) (defScope st_tops) .none kV doc pm an cdv ct) ["plate"] m ks perm := by
  intro m ks perm h
  unfold kwT at h
  rcases List.mem_cons.mp h with h | h
  · injection h with h1 h; injection h with h2 h; injection h with h3 h4; subst h2 h3 h4
    exact fun s us ws _ h1 h2 _ => match us, h1, ws, h2 with | [], _, [w0], _ => .of_eq rfl
  rcases List.mem_cons.mp h with h | h
  · injection h with h1 h; exact absurd h1 (by decide +kernel)
  cases h
theorem kw_more_even {K : PySem.W.Frag} {kV doc pm : Value} {an : Option Addr} {cdv ct : Value} : ∀ m ks perm, (("more_even" : Str), m, ks, perm) ∈ kwT → KwOk K (PySem.W.fnOf "more_even" "more_even" (defArgs st_more_even) (defBody st_more_even) (defScope st_more_even) .none kV doc pm an cdv ct) ["one", "other"] m ks perm := by
  intro m ks perm h
  unfold kwT at h
  rcases List.mem_cons.mp h with h | h
  · injection h with h1 h; exact absurd h1 (by decide +kernel)
  rcases List.mem_cons.mp h with h | h
  · injection h with h1 h; injection h with h2 h; injection h with h3 h4; subst h2 h3 h4
    exact fun s us ws _ h1 h2 _ => match us, h1, ws, h2 with | [], _, [w0, w1], _ => .of_eq rfl
  cases h
set_option maxHeartbeats 0 in
theorem glob {K : PySem.W.Frag} {h : Heap} {mg : Str → Option Value} {od0 an0 : Option Addr} {sl0 : Array (Option Value)} {oc0 kV0 dc0 pm0 cd0 ct0 : Value} {f0 : Addr} {od1 an1 : Option Addr} {sl1 : Array (Option Value)} {oc1 kV1 dc1 pm1 cd1 ct1 : Value} {f1 : Addr} {od2 an2 : Option Addr} {sl2 : Array (Option Value)} {oc2 kV2 dc2 pm2 cd2 ct2 : Value} {f2 : Addr} {od3 an3 : Option Addr} {sl3 : Array (Option Value)} {oc3 kV3 dc3 pm3 cd3 ct3 : Value} {f3 : Addr} {od4 an4 : Option Addr} {sl4 : Array (Option Value)} {oc4 kV4 dc4 pm4 cd4 ct4 : Value} {f4 : Addr} {od5 an5 : Option Addr} {sl5 : Array (Option Value)} {oc5 kV5 dc5 pm5 cd5 ct5 : Value} {f5 : Addr} {od6 an6 : Option Addr} {sl6 : Array (Option Value)} {oc6 kV6 dc6 pm6 cd6 ct6 : Value} {f6 : Addr} {od7 an7 : Option Addr} {sl7 : Array (Option Value)} {oc7 kV7 dc7 pm7 cd7 ct7 : Value} {f7 : Addr} {od8 an8 : Option Addr} {sl8 : Array (Option Value)} {oc8 kV8 dc8 pm8 cd8 ct8 : Value} {f8 : Addr} {od9 an9 : Option Addr} {sl9 : Array (Option Value)} {oc9 kV9 dc9 pm9 cd9 ct9 : Value} {f9 : Addr} {od10 an10 : Option Addr} {sl10 : Array (Option Value)} {oc10 kV10 dc10 pm10 cd10 ct10 : Value} {f10 : Addr} {od11 an11 : Option Addr} {sl11 : Array (Option Value)} {oc11 kV11 dc11 pm11 cd11 ct11 : Value} {f11 : Addr} {od12 an12 : Option Addr} {sl12 : Array (Option Value)} {oc12 kV12 dc12 pm12 cd12 ct12 : Value} {f12 : Addr} {od13 an13 : Option Addr} {sl13 : Array (Option Value)} {oc13 kV13 dc13 pm13 cd13 ct13 : Value} {f13 : Addr} {od14 an14 : Option Addr} {sl14 : Array (Option Value)} {oc14 kV14 dc14 pm14 cd14 ct14 : Value} {f14 : Addr} {od15 an15 : Option Addr} {sl15 : Array (Option Value)} {oc15 kV15 dc15 pm15 cd15 ct15 : Value} {f15 : Addr} {od16 an16 : Option Addr} {sl16 : Array (Option Value)} {oc16 kV16 dc16 pm16 cd16 ct16 : Value} {f16 : Addr} {od17 an17 : Option Addr} {sl17 : Array (Option Value)} {oc17 kV17 dc17 pm17 cd17 ct17 : Value} {f17 : Addr} {od18 an18 : Option Addr} {sl18 : Array (Option Value)} {oc18 kV18 dc18 pm18 cd18 ct18 : Value} {f18 : Addr} {od19 an19 : Option Addr} {sl19 : Array (Option Value)} {oc19 kV19 dc19 pm19 cd19 ct19 : Value} {f19 : Addr} {od20 an20 : Option Addr} {sl20 : Array (Option Value)} {oc20 kV20 dc20 pm20 cd20 ct20 : Value} {f20 : Addr} (X : K.In h) (N : h.Ns mainGlobals mg)
    (a0 : PySem.W.nsIn K mainGlobals "half" = some (some (.ref f0))) (l0 : K.lookup f0 = some ⟨oc0, od0, .func (PySem.W.fnOf "half" "half" (defArgs st_half) (defBody st_half) (defScope st_half) .none kV0 dc0 pm0 an0 cd0 ct0), sl0⟩) (c0 : PySem.W.codeIn K cd0 "half" = true) (k0 : PySem.W.keepIn K (.ref f0) = true)
    (a1 : PySem.W.nsIn K mainGlobals "in_parts" = some (some (.ref f1))) (l1 : K.lookup f1 = some ⟨oc1, od1, .func (PySem.W.fnOf "in_parts" "in_parts" (defArgs st_in_parts) (defBody st_in_parts) (defScope st_in_parts) .none kV1 dc1 pm1 an1 cd1 ct1), sl1⟩) (c1 : PySem.W.codeIn K cd1 "in_parts" = true) (k1 : PySem.W.keepIn K (.ref f1) = true)
    (a2 : PySem.W.nsIn K mainGlobals "is_less" = some (some (.ref f2))) (l2 : K.lookup f2 = some ⟨oc2, od2, .func (PySem.W.fnOf "is_less" "is_less" (defArgs st_is_less) (defBody st_is_less) (defScope st_is_less) .none kV2 dc2 pm2 an2 cd2 ct2), sl2⟩) (c2 : PySem.W.codeIn K cd2 "is_less" = true) (k2 : PySem.W.keepIn K (.ref f2) = true)
    (a3 : PySem.W.nsIn K mainGlobals "whole" = some (some (.ref f3))) (l3 : K.lookup f3 = some ⟨oc3, od3, .func (PySem.W.fnOf "whole" "whole" (defArgs st_whole) (defBody st_whole) (defScope st_whole) .none kV3 dc3 pm3 an3 cd3 ct3), sl3⟩) (c3 : PySem.W.codeIn K cd3 "whole" = true) (k3 : PySem.W.keepIn K (.ref f3) = true)
    (a4 : PySem.W.nsIn K mainGlobals "tops" = some (some (.ref f4))) (l4 : K.lookup f4 = some ⟨oc4, od4, .func (PySem.W.fnOf "tops" "tops" (defArgs st_tops) (defBody st_tops) (defScope st_tops) .none kV4 dc4 pm4 an4 cd4 ct4), sl4⟩) (c4 : PySem.W.codeIn K cd4 "tops" = true) (k4 : PySem.W.keepIn K (.ref f4) = true)
    (a5 : PySem.W.nsIn K mainGlobals "more_even" = some (some (.ref f5))) (l5 : K.lookup f5 = some ⟨oc5, od5, .func (PySem.W.fnOf "more_even" "more_even" (defArgs st_more_even) (defBody st_more_even) (defScope st_more_even) .none kV5 dc5 pm5 an5 cd5 ct5), sl5⟩) (c5 : PySem.W.codeIn K cd5 "more_even" = true) (k5 : PySem.W.keepIn K (.ref f5) = true)
    (a6 : PySem.W.nsIn K mainGlobals "_law_deck" = some (some (.ref f6))) (l6 : K.lookup f6 = some ⟨oc6, od6, .func (PySem.W.fnOf "_law_deck" "_law_deck" (defArgs st__law_deck) (defBody st__law_deck) (defScope st__law_deck) .none kV6 dc6 pm6 an6 cd6 ct6), sl6⟩) (c6 : PySem.W.codeIn K cd6 "_law_deck" = true) (k6 : PySem.W.keepIn K (.ref f6) = true)
    (a7 : PySem.W.nsIn K mainGlobals "_law_draw" = some (some (.ref f7))) (l7 : K.lookup f7 = some ⟨oc7, od7, .func (PySem.W.fnOf "_law_draw" "_law_draw" (defArgs st__law_draw) (defBody st__law_draw) (defScope st__law_draw) .none kV7 dc7 pm7 an7 cd7 ct7), sl7⟩) (c7 : PySem.W.codeIn K cd7 "_law_draw" = true) (k7 : PySem.W.keepIn K (.ref f7) = true)
    (a8 : PySem.W.nsIn K mainGlobals "_law_pick" = some (some (.ref f8))) (l8 : K.lookup f8 = some ⟨oc8, od8, .func (PySem.W.fnOf "_law_pick" "_law_pick" (defArgs st__law_pick) (defBody st__law_pick) (defScope st__law_pick) .none kV8 dc8 pm8 an8 cd8 ct8), sl8⟩) (c8 : PySem.W.codeIn K cd8 "_law_pick" = true) (k8 : PySem.W.keepIn K (.ref f8) = true)
    (a9 : PySem.W.nsIn K mainGlobals "_law_mixed_up" = some (some (.ref f9))) (l9 : K.lookup f9 = some ⟨oc9, od9, .func (PySem.W.fnOf "_law_mixed_up" "_law_mixed_up" (defArgs st__law_mixed_up) (defBody st__law_mixed_up) (defScope st__law_mixed_up) .none kV9 dc9 pm9 an9 cd9 ct9), sl9⟩) (c9 : PySem.W.codeIn K cd9 "_law_mixed_up" = true) (k9 : PySem.W.keepIn K (.ref f9) = true)
    (a10 : PySem.W.nsIn K mainGlobals "_law_half" = some (some (.ref f10))) (l10 : K.lookup f10 = some ⟨oc10, od10, .func (PySem.W.fnOf "_law_half" "_law_half" (defArgs st__law_half) (defBody st__law_half) (defScope st__law_half) .none kV10 dc10 pm10 an10 cd10 ct10), sl10⟩) (c10 : PySem.W.codeIn K cd10 "_law_half" = true) (k10 : PySem.W.keepIn K (.ref f10) = true)
    (a11 : PySem.W.nsIn K mainGlobals "_law_numbers" = some (some (.ref f11))) (l11 : K.lookup f11 = some ⟨oc11, od11, .func (PySem.W.fnOf "_law_numbers" "_law_numbers" (defArgs st__law_numbers) (defBody st__law_numbers) (defScope st__law_numbers) .none kV11 dc11 pm11 an11 cd11 ct11), sl11⟩) (c11 : PySem.W.codeIn K cd11 "_law_numbers" = true) (k11 : PySem.W.keepIn K (.ref f11) = true)
    (a12 : PySem.W.nsIn K mainGlobals "_law_ran" = some (some (.ref f12))) (l12 : K.lookup f12 = some ⟨oc12, od12, .func (PySem.W.fnOf "_law_ran" "_law_ran" (defArgs st__law_ran) (defBody st__law_ran) (defScope st__law_ran) .none kV12 dc12 pm12 an12 cd12 ct12), sl12⟩) (c12 : PySem.W.codeIn K cd12 "_law_ran" = true) (k12 : PySem.W.keepIn K (.ref f12) = true)
    (a13 : PySem.W.nsIn K mainGlobals "_law_strength" = some (some (.ref f13))) (l13 : K.lookup f13 = some ⟨oc13, od13, .func (PySem.W.fnOf "_law_strength" "_law_strength" (defArgs st__law_strength) (defBody st__law_strength) (defScope st__law_strength) .none kV13 dc13 pm13 an13 cd13 ct13), sl13⟩) (c13 : PySem.W.codeIn K cd13 "_law_strength" = true) (k13 : PySem.W.keepIn K (.ref f13) = true)
    (a14 : PySem.W.nsIn K mainGlobals "_law_plate" = some (some (.ref f14))) (l14 : K.lookup f14 = some ⟨oc14, od14, .func (PySem.W.fnOf "_law_plate" "_law_plate" (defArgs st__law_plate) (defBody st__law_plate) (defScope st__law_plate) .none kV14 dc14 pm14 an14 cd14 ct14), sl14⟩) (c14 : PySem.W.codeIn K cd14 "_law_plate" = true) (k14 : PySem.W.keepIn K (.ref f14) = true)
    (a15 : PySem.W.nsIn K mainGlobals "_law_row" = some (some (.ref f15))) (l15 : K.lookup f15 = some ⟨oc15, od15, .func (PySem.W.fnOf "_law_row" "_law_row" (defArgs st__law_row) (defBody st__law_row) (defScope st__law_row) .none kV15 dc15 pm15 an15 cd15 ct15), sl15⟩) (c15 : PySem.W.codeIn K cd15 "_law_row" = true) (k15 : PySem.W.keepIn K (.ref f15) = true)
    (a16 : PySem.W.nsIn K mainGlobals "_law_sums" = some (some (.ref f16))) (l16 : K.lookup f16 = some ⟨oc16, od16, .func (PySem.W.fnOf "_law_sums" "_law_sums" (defArgs st__law_sums) (defBody st__law_sums) (defScope st__law_sums) .none kV16 dc16 pm16 an16 cd16 ct16), sl16⟩) (c16 : PySem.W.codeIn K cd16 "_law_sums" = true) (k16 : PySem.W.keepIn K (.ref f16) = true)
    (a17 : PySem.W.nsIn K mainGlobals "_law_is_more_even" = some (some (.ref f17))) (l17 : K.lookup f17 = some ⟨oc17, od17, .func (PySem.W.fnOf "_law_is_more_even" "_law_is_more_even" (defArgs st__law_is_more_even) (defBody st__law_is_more_even) (defScope st__law_is_more_even) .none kV17 dc17 pm17 an17 cd17 ct17), sl17⟩) (c17 : PySem.W.codeIn K cd17 "_law_is_more_even" = true) (k17 : PySem.W.keepIn K (.ref f17) = true)
    (a18 : PySem.W.nsIn K mainGlobals "_law_kin" = some (some (.ref f18))) (l18 : K.lookup f18 = some ⟨oc18, od18, .func (PySem.W.fnOf "_law_kin" "_law_kin" (defArgs st__law_kin) (defBody st__law_kin) (defScope st__law_kin) .none kV18 dc18 pm18 an18 cd18 ct18), sl18⟩) (c18 : PySem.W.codeIn K cd18 "_law_kin" = true) (k18 : PySem.W.keepIn K (.ref f18) = true)
    (a19 : PySem.W.nsIn K mainGlobals "_law_is_told" = some (some (.ref f19))) (l19 : K.lookup f19 = some ⟨oc19, od19, .func (PySem.W.fnOf "_law_is_told" "_law_is_told" (defArgs st__law_is_told) (defBody st__law_is_told) (defScope st__law_is_told) .none kV19 dc19 pm19 an19 cd19 ct19), sl19⟩) (c19 : PySem.W.codeIn K cd19 "_law_is_told" = true) (k19 : PySem.W.keepIn K (.ref f19) = true)
    (a20 : PySem.W.nsIn K mainGlobals "law" = some (some (.ref f20))) (l20 : K.lookup f20 = some ⟨oc20, od20, .func (PySem.W.fnOf "law" "law" (defArgs st_law) (defBody st_law) (defScope st_law) .none kV20 dc20 pm20 an20 cd20 ct20), sl20⟩) (c20 : PySem.W.codeIn K cd20 "law" = true) (k20 : PySem.W.keepIn K (.ref f20) = true)
    (z0 : PySem.W.nsIn K mainGlobals "len" = some none)
    (z1 : PySem.W.nsIn K mainGlobals "int" = some none)
    (z2 : PySem.W.nsIn K mainGlobals "str" = some none)
    (z3 : PySem.W.nsIn K mainGlobals "repr" = some none)
    (z4 : PySem.W.nsIn K mainGlobals "abs" = some none)
    (z5 : PySem.W.nsIn K mainGlobals "max" = some none)
    (z6 : PySem.W.nsIn K mainGlobals "min" = some none)
    (z7 : PySem.W.nsIn K mainGlobals "sum" = some none)
    (z8 : PySem.W.nsIn K mainGlobals "sorted" = some none)
    (z9 : PySem.W.nsIn K mainGlobals "all" = some none)
    (z10 : PySem.W.nsIn K mainGlobals "any" = some none)
    (z11 : PySem.W.nsIn K mainGlobals "tuple" = some none)
    (z12 : PySem.W.nsIn K mainGlobals "list" = some none)
    (z13 : PySem.W.nsIn K mainGlobals "range" = some none)
    (z14 : PySem.W.nsIn K mainGlobals "enumerate" = some none)
    (z15 : PySem.W.nsIn K mainGlobals "zip" = some none)
    (z16 : PySem.W.nsIn K mainGlobals "isinstance" = some none)
    (z17 : PySem.W.nsIn K mainGlobals "bool" = some none)
    (z18 : PySem.W.nsIn K mainGlobals "dict" = some none)
    (z19 : PySem.W.nsIn K mainGlobals "set" = some none)
    : Glob K mg G kwT T := by
  refine ⟨blt_all X N ⟨z0, z1, z2, z3, z4, z5, z6, z7, z8, z9, z10, z11, z12, z13, z14, z15, z16, z17, z18, z19⟩, glo_of_all .nil, fun h => absurd h (by decide +kernel), fns_of ?_⟩
  exact .cons (fn_mk (PySem.W.mg_of X N a0) (fun_mk (st := st_half) l0 c0 k0) sc_half rfl rfl (fun _ _ _ _ _ _ us hl => match us, hl with | [_, _], _ => rfl) (fun m ks perm hw => kw_no (by decide +kernel) hw) ck_half) (.cons (fn_mk (PySem.W.mg_of X N a1) (fun_mk (st := st_in_parts) l1 c1 k1) sc_in_parts rfl rfl (fun _ _ _ _ _ _ us hl => match us, hl with | [_, _], _ => rfl) (fun m ks perm hw => kw_no (by decide +kernel) hw) ck_in_parts) (.cons (fn_mk (PySem.W.mg_of X N a2) (fun_mk (st := st_is_less) l2 c2 k2) sc_is_less rfl rfl (fun _ _ _ _ _ _ us hl => match us, hl with | [_, _], _ => rfl) (fun m ks perm hw => kw_no (by decide +kernel) hw) ck_is_less) (.cons (fn_mk (PySem.W.mg_of X N a3) (fun_mk (st := st_whole) l3 c3 k3) sc_whole rfl rfl (fun _ _ _ _ _ _ us hl => match us, hl with | [_], _ => rfl) (fun m ks perm hw => kw_no (by decide +kernel) hw) ck_whole) (.cons (fn_mk (PySem.W.mg_of X N a4) (fun_mk (st := st_tops) l4 c4 k4) sc_tops rfl rfl (fun _ _ _ _ _ _ us hl => match us, hl with | [_], _ => rfl) kw_tops ck_tops) (.cons (fn_mk (PySem.W.mg_of X N a5) (fun_mk (st := st_more_even) l5 c5 k5) sc_more_even rfl rfl (fun _ _ _ _ _ _ us hl => match us, hl with | [_, _], _ => rfl) kw_more_even ck_more_even) (.cons (fn_mk (PySem.W.mg_of X N a6) (fun_mk (st := st__law_deck) l6 c6 k6) sc__law_deck rfl rfl (fun _ _ _ _ _ _ us hl => match us, hl with | [_], _ => rfl) (fun m ks perm hw => kw_no (by decide +kernel) hw) ck__law_deck) (.cons (fn_mk (PySem.W.mg_of X N a7) (fun_mk (st := st__law_draw) l7 c7 k7) sc__law_draw rfl rfl (fun _ _ _ _ _ _ us hl => match us, hl with | [_, _], _ => rfl) (fun m ks perm hw => kw_no (by decide +kernel) hw) ck__law_draw) (.cons (fn_mk (PySem.W.mg_of X N a8) (fun_mk (st := st__law_pick) l8 c8 k8) sc__law_pick rfl rfl (fun _ _ _ _ _ _ us hl => match us, hl with | [_, _], _ => rfl) (fun m ks perm hw => kw_no (by decide +kernel) hw) ck__law_pick) (.cons (fn_mk (PySem.W.mg_of X N a9) (fun_mk (st := st__law_mixed_up) l9 c9 k9) sc__law_mixed_up rfl rfl (fun _ _ _ _ _ _ us hl => match us, hl with | [_, _], _ => rfl) (fun m ks perm hw => kw_no (by decide +kernel) hw) ck__law_mixed_up) (.cons (fn_mk (PySem.W.mg_of X N a10) (fun_mk (st := st__law_half) l10 c10 k10) sc__law_half rfl rfl (fun _ _ _ _ _ _ us hl => match us, hl with | [_, _], _ => rfl) (fun m ks perm hw => kw_no (by decide +kernel) hw) ck__law_half) (.cons (fn_mk (PySem.W.mg_of X N a11) (fun_mk (st := st__law_numbers) l11 c11 k11) sc__law_numbers rfl rfl (fun _ _ _ _ _ _ us hl => match us, hl with | [_], _ => rfl) (fun m ks perm hw => kw_no (by decide +kernel) hw) ck__law_numbers) (.cons (fn_mk (PySem.W.mg_of X N a12) (fun_mk (st := st__law_ran) l12 c12 k12) sc__law_ran rfl rfl (fun _ _ _ _ _ _ us hl => match us, hl with | [_, _], _ => rfl) (fun m ks perm hw => kw_no (by decide +kernel) hw) ck__law_ran) (.cons (fn_mk (PySem.W.mg_of X N a13) (fun_mk (st := st__law_strength) l13 c13 k13) sc__law_strength rfl rfl (fun _ _ _ _ _ _ us hl => match us, hl with | [_, _], _ => rfl) (fun m ks perm hw => kw_no (by decide +kernel) hw) ck__law_strength) (.cons (fn_mk (PySem.W.mg_of X N a14) (fun_mk (st := st__law_plate) l14 c14 k14) sc__law_plate rfl rfl (fun _ _ _ _ _ _ us hl => match us, hl with | [_, _, _], _ => rfl) (fun m ks perm hw => kw_no (by decide +kernel) hw) ck__law_plate) (.cons (fn_mk (PySem.W.mg_of X N a15) (fun_mk (st := st__law_row) l15 c15 k15) sc__law_row rfl rfl (fun _ _ _ _ _ _ us hl => match us, hl with | [_, _, _], _ => rfl) (fun m ks perm hw => kw_no (by decide +kernel) hw) ck__law_row) (.cons (fn_mk (PySem.W.mg_of X N a16) (fun_mk (st := st__law_sums) l16 c16 k16) sc__law_sums rfl rfl (fun _ _ _ _ _ _ us hl => match us, hl with | [_], _ => rfl) (fun m ks perm hw => kw_no (by decide +kernel) hw) ck__law_sums) (.cons (fn_mk (PySem.W.mg_of X N a17) (fun_mk (st := st__law_is_more_even) l17 c17 k17) sc__law_is_more_even rfl rfl (fun _ _ _ _ _ _ us hl => match us, hl with | [_, _], _ => rfl) (fun m ks perm hw => kw_no (by decide +kernel) hw) ck__law_is_more_even) (.cons (fn_mk (PySem.W.mg_of X N a18) (fun_mk (st := st__law_kin) l18 c18 k18) sc__law_kin rfl rfl (fun _ _ _ _ _ _ us hl => match us, hl with | [_, _], _ => rfl) (fun m ks perm hw => kw_no (by decide +kernel) hw) ck__law_kin) (.cons (fn_mk (PySem.W.mg_of X N a19) (fun_mk (st := st__law_is_told) l19 c19 k19) sc__law_is_told rfl rfl (fun _ _ _ _ _ _ us hl => match us, hl with | [_, _, _], _ => rfl) (fun m ks perm hw => kw_no (by decide +kernel) hw) ck__law_is_told) (.cons (fn_mk (PySem.W.mg_of X N a20) (fun_mk (st := st_law) l20 c20 k20) sc_law rfl rfl (fun _ _ _ _ _ _ us hl => match us, hl with | [_], _ => rfl) (fun m ks perm hw => kw_no (by decide +kernel) hw) ck_law) (.nil)))))))))))))))))))))
end IL.k48
/-! JC: reckoning with what is computed: wishes about an end. -/
namespace IL
open PySem PySem.Spec PyProof.Rows L2

/-- an end that is wished -/
def RwF {α : Type} (r : R α) (Q : α → Store → Prop) : Prop :=
  match r with
  | .ok a S => Q a S
  | _ => False
structure Rw {α : Type} (r : R α) (Q : α → Store → Prop) : Prop where
  h : RwF r Q
structure En where
  nx : Env → Store → Prop
  rt : D → Store → Prop
  bk : Env → Store → Prop
  ct : Env → Store → Prop
def OwF (o : O) (E : En) : Prop :=
  match o with
  | .nx v S => E.nx v S
  | .ret d S => E.rt d S
  | .brk v S => E.bk v S
  | .cnt v S => E.ct v S
  | _ => False
structure Ow (o : O) (E : En) : Prop where
  h : OwF o E
section
variable {α β : Type} {r : R α} {f : α → Store → R β} {Q : β → Store → Prop} {Q' : α → Store → Prop} {S : Store} {E : En}
theorem Rw_ok {a : α} : Rw (.ok a S) Q' ↔ Q' a S := ⟨fun h => h.h, fun h => ⟨h⟩⟩
theorem Rw_bad : Rw (.bad : R α) Q' ↔ False := ⟨fun h => h.h, fun h => h.elim⟩
theorem Rw_bind : Rw (r.bind f) Q ↔ Rw r fun a S => Rw (f a S) Q := by
  cases r with
  | ok a S => exact ⟨fun h => ⟨h⟩, fun h => h.h⟩
  | exc _ _ _ => exact ⟨fun h => h.h.elim, fun h => h.h.elim⟩
  | bad => exact ⟨fun h => h.h.elim, fun h => h.h.elim⟩
theorem Rw.mono {Q1 Q2 : α → Store → Prop} (h : Rw r Q1) (m : ∀ a S, Q1 a S → Q2 a S) : Rw r Q2 := by
  cases r with
  | ok a S => exact ⟨m a S h.h⟩
  | exc _ _ _ => exact h.h.elim
  | bad => exact h.h.elim
theorem Rw.ok (h : Rw r Q') : ∃ a S, r = .ok a S ∧ Q' a S := by
  cases r with
  | ok a S => exact ⟨a, S, rfl, h.h⟩
  | exc _ _ _ => exact h.h.elim
  | bad => exact h.h.elim
theorem Rw_if {c : Prop} [Decidable c] {a b : R α} (h1 : c → Rw a Q') (h2 : ¬ c → Rw b Q') : Rw (if c then a else b) Q' := by
  by_cases h : c
  · rw [if_pos h]; exact h1 h
  · rw [if_neg h]; exact h2 h
theorem Rw_req {c : Prop} [Decidable c] {a : R α} (h : c) (h1 : Rw a Q') : Rw (if c then a else .bad) Q' := by rw [if_pos h]; exact h1
theorem Ow_o {f : α → Store → O} : Ow (r.o f) E ↔ Rw r fun a S => Ow (f a S) E := by
  cases r with
  | ok a S => exact ⟨fun h => ⟨h⟩, fun h => h.h⟩
  | exc _ _ _ => exact ⟨fun h => h.h.elim, fun h => h.h.elim⟩
  | bad => exact ⟨fun h => h.h.elim, fun h => h.h.elim⟩
theorem Ow_nx {v : Env} : Ow (.nx v S) E ↔ E.nx v S := ⟨fun h => h.h, fun h => ⟨h⟩⟩
theorem Ow_ret {d : D} : Ow (.ret d S) E ↔ E.rt d S := ⟨fun h => h.h, fun h => ⟨h⟩⟩
theorem Ow_brk {v : Env} : Ow (.brk v S) E ↔ E.bk v S := ⟨fun h => h.h, fun h => ⟨h⟩⟩
theorem Ow_cnt {v : Env} : Ow (.cnt v S) E ↔ E.ct v S := ⟨fun h => h.h, fun h => ⟨h⟩⟩
theorem Ow_bad : Ow .bad E ↔ False := ⟨fun h => h.h, fun h => h.elim⟩
theorem Ow_thn {o : O} {f : Env → Store → O} : Ow (o.thn f) E ↔ Ow o { E with nx := fun v S => Ow (f v S) E } := by
  cases o with
  | nx v S => exact ⟨fun h => ⟨h⟩, fun h => h.h⟩
  | exc _ _ _ => exact ⟨fun h => h.h.elim, fun h => h.h.elim⟩
  | bad => exact ⟨fun h => h.h.elim, fun h => h.h.elim⟩
  | _ => exact ⟨fun h => ⟨h.h⟩, fun h => ⟨h.h⟩⟩
theorem Ow_if {c : Prop} [Decidable c] {a b : O} (h1 : c → Ow a E) (h2 : ¬ c → Ow b E) : Ow (if c then a else b) E := by
  by_cases h : c
  · rw [if_pos h]; exact h1 h
  · rw [if_neg h]; exact h2 h
theorem Ow_req {c : Prop} [Decidable c] {a : O} (h : c) (h1 : Ow a E) : Ow (if c then a else .bad) E := by rw [if_pos h]; exact h1
theorem Ow.mono {o : O} {E E' : En} (h : Ow o E) (m1 : ∀ v S, E.nx v S → E'.nx v S) (m2 : ∀ d S, E.rt d S → E'.rt d S) (m3 : ∀ v S, E.bk v S → E'.bk v S) (m4 : ∀ v S, E.ct v S → E'.ct v S) : Ow o E' := by
  cases o with
  | nx v S => exact ⟨m1 v S h.h⟩
  | brk v S => exact ⟨m3 v S h.h⟩
  | cnt v S => exact ⟨m4 v S h.h⟩
  | ret d S => exact ⟨m2 d S h.h⟩
  | exc _ _ _ => exact h.h.elim
  | bad => exact h.h.elim
theorem Ow_lp {o : O} {g : Env → Store → O} : Ow (o.lp g) E ↔ Ow o { E with nx := fun v S => Ow (g v S) E, ct := fun v S => Ow (g v S) E, bk := E.nx } := by
  cases o with
  | nx v S => exact ⟨fun h => ⟨h⟩, fun h => h.h⟩
  | cnt v S => exact ⟨fun h => ⟨h⟩, fun h => h.h⟩
  | exc _ _ _ => exact ⟨fun h => h.h.elim, fun h => h.h.elim⟩
  | bad => exact ⟨fun h => h.h.elim, fun h => h.h.elim⟩
  | _ => exact ⟨fun h => ⟨h.h⟩, fun h => ⟨h.h⟩⟩
end
/-- for: an invariant by the turn -/
theorem Ow_for {g : D → Env → Store → R Env} {b : Env → Store → O} {E : En} {ds : List D} {v : Env} {S : Store} (I : Nat → Env → Store → Prop) (h0 : I 0 v S)
    (step : ∀ (i : Nat) (d : D) (v : Env) (S : Store), ds[i]? = some d → I i v S → Rw (g d v S) fun v1 S1 => Ow (b v1 S1) { nx := I (i + 1), rt := E.rt, bk := E.nx, ct := I (i + 1) }) (done : ∀ v S, I ds.length v S → E.nx v S) : Ow (forF g b ds v S) E := by
  have go : ∀ (k : Nat) (ds' : List D) (i : Nat) (v : Env) (S : Store), ds' = ds.drop i → i + ds'.length = ds.length → ds'.length = k → I i v S → Ow (forF g b ds' v S) E := by
    intro k
    induction k with
    | zero =>
      intro ds' i v S e hl hk hI
      cases ds' with
      | cons d r => cases hk
      | nil =>
        unfold forF
        have : i = ds.length := by simpa using hl
        subst this
        exact Ow_nx.mpr (done v S hI)
    | succ k ih =>
      intro ds' i v S e hl hk hI
      cases ds' with
      | nil => cases hk
      | cons d r =>
        unfold forF
        have hi : i < ds.length := by rw [List.length_cons] at hl; omega
        have hd : ds[i]? = some d := by
          have : (ds.drop i)[0]? = some d := by rw [← e]; rfl
          rwa [List.getElem?_drop, Nat.add_zero] at this
        have hr : r = ds.drop (i + 1) := by
          have : r = (ds.drop i).drop 1 := by rw [← e]; rfl
          rw [this, List.drop_drop]
        rw [Ow_o]
        refine (step i d v S hd hI).mono fun v1 S1 h => ?_
        rw [Ow_lp]
        have nxt : ∀ v S, I (i + 1) v S → Ow (forF g b r v S) E := fun v S h => ih r (i + 1) v S hr (by rw [List.length_cons] at hl; omega) (by simpa using hk) h
        exact h.mono nxt (fun _ _ h => h) (fun _ _ h => h) nxt
  exact go _ ds 0 v S (by rw [List.drop_zero]) (by omega) rfl h0
/-- while: an invariant with a measure -/
theorem Ow_while {c : Env → Store → R Bool} {b : Env → Store → O} {E : En} (I : Nat → Env → Store → Prop)
    (step : ∀ (m : Nat) (v : Env) (S : Store), I m v S → Rw (c v S) fun k S1 => if k = true then Ow (b v S1) { nx := fun v S => ∃ m', m' < m ∧ I m' v S, rt := E.rt, bk := E.nx, ct := fun v S => ∃ m', m' < m ∧ I m' v S } else E.nx v S1) :
    ∀ (m : Nat) (v : Env) (S : Store), I m v S → Ow (whil c b v S) E := by
  intro m
  induction m using Nat.strongRecOn with
  | _ m ih =>
    intro v S h
    rw [whil_eq, Ow_o]
    refine (step m v S h).mono fun k S1 q => ?_
    cases k with
    | false => exact Ow_nx.mpr q
    | true =>
      show Ow ((b v S1).lp (whil c b)) E
      rw [Ow_lp]
      have q : Ow (b v S1) _ := q
      exact q.mono (fun v S ⟨m', l, h⟩ => ih m' l v S h) (fun _ _ h => h) (fun _ _ h => h) (fun v S ⟨m', l, h⟩ => ih m' l v S h)
/-- a comprehension: what each turn gives -/
theorem Rw_comp {g : D → Store → R (Option D)} {ds : List D} {S : Store} {Q : D → Store → Prop} (I : Nat → List D → Store → Prop) (h0 : I 0 [] S)
    (step : ∀ (i : Nat) (d : D) (acc : List D) (S : Store), ds[i]? = some d → I i acc S → Rw (g d S) fun o S1 => I (i + 1) (match o with | some x => acc ++ [x] | none => acc) S1)
    (done : ∀ acc S, I ds.length acc S → acc.length ≤ sizeLine ∧ Q (.lst acc) S) : Rw (compF g ds [] S) Q := by
  have go : ∀ (k : Nat) (ds' : List D) (i : Nat) (acc : List D) (S : Store), ds' = ds.drop i → i + ds'.length = ds.length → ds'.length = k → I i acc S → Rw (compF g ds' acc S) Q := by
    intro k
    induction k with
    | zero =>
      intro ds' i acc S e hl hk hI
      cases ds' with
      | cons d r => cases hk
      | nil =>
        unfold compF
        have : i = ds.length := by simpa using hl
        subst this
        obtain ⟨h1, h2⟩ := done acc S hI
        rw [if_pos h1]
        exact Rw_ok.mpr h2
    | succ k ih =>
      intro ds' i acc S e hl hk hI
      cases ds' with
      | nil => cases hk
      | cons d r =>
        unfold compF
        have hd : ds[i]? = some d := by
          have : (ds.drop i)[0]? = some d := by rw [← e]; rfl
          rwa [List.getElem?_drop, Nat.add_zero] at this
        have hr : r = ds.drop (i + 1) := by
          have : r = (ds.drop i).drop 1 := by rw [← e]; rfl
          rw [this, List.drop_drop]
        rw [Rw_bind]
        refine (step i d acc S hd hI).mono fun o S1 h => ?_
        cases o with
        | some x => exact ih r (i + 1) _ S1 hr (by rw [List.length_cons] at hl; omega) (by simpa using hk) h
        | none => exact ih r (i + 1) _ S1 hr (by rw [List.length_cons] at hl; omega) (by simpa using hk) h
  exact go _ ds 0 [] S (by rw [List.drop_zero]) (by omega) rfl h0
/-- .. where each turn leaves the store -/
theorem compF_pure {g : D → Store → R (Option D)} (f : D → Option D) {S : Store} : ∀ {ds acc : List D}, (∀ d ∈ ds, g d S = .ok (f d) S) → compF g ds acc S = if (acc ++ ds.filterMap f).length ≤ sizeLine then .ok (.lst (acc ++ ds.filterMap f)) S else .bad
  | [], acc, _ => by unfold compF; rw [List.filterMap_nil, List.append_nil]
  | d :: ds, acc, h => by
    unfold compF
    rw [h d List.mem_cons_self]
    show (match f d with | some x => compF g ds (acc ++ [x]) S | none => compF g ds acc S) = _
    rw [List.filterMap_cons]
    cases f d with
    | none => exact compF_pure f fun e he => h e (List.mem_cons_of_mem _ he)
    | some x =>
      show compF g ds (acc ++ [x]) S = _
      rw [compF_pure f fun e he => h e (List.mem_cons_of_mem _ he), List.append_assoc]
      rfl
/-- a call of a def -/
theorem Rw_call {G : Str → Option D} {T : Str → Option Fn} {f : Str} {d : Fn} (hT : T f = some d) {n : Nat} {args : List D} {S : Store} {Q : D → Store → Prop} (hl : args.length = d.np)
    (h : Ow (exec G (callF G T n) d.body (startE d.np d.nn args) S) ⟨fun _ S => Q .non S, Q, fun _ _ => False, fun _ _ => False⟩) : Rw (callF G T (n + 1) f args S) Q := by
  rw [callF_some hT n args S hl]
  cases he : exec G (callF G T n) d.body (startE d.np d.nn args) S with
  | nx v S1 => rw [he] at h; exact ⟨h.h⟩
  | ret d S1 => rw [he] at h; exact ⟨h.h⟩
  | brk _ _ => rw [he] at h; exact h.h.elim
  | cnt _ _ => rw [he] at h; exact h.h.elim
  | exc _ _ _ => rw [he] at h; exact h.h.elim
  | bad => rw [he] at h; exact h.h.elim
theorem Rw.eq {α : Type} {r : R α} {a : α} {S : Store} (h : r = .ok a S) {Q : α → Store → Prop} (q : Q a S) : Rw r Q := by rw [h]; exact ⟨q⟩
end IL
namespace IL
open PySem PySem.Spec PyProof.Rows L2
/-! ### rules to reckon by -/
section
variable {α : Type} {Q : D → Store → Prop} {S : Store} {i j : Int}
theorem ev_mulL (h1 : -18446744073709551616 < i) (h2 : i < 18446744073709551616) : Rw (binD .Mult (.int i) (.int j) S) Q ↔ Q (.int (i * j)) S := by
  show Rw (if CMul i j ∨ CMulX i j then _ else _) Q ↔ _
  rw [if_pos (.inl (.inl ⟨by omega, by omega⟩))]; exact Rw_ok
theorem ev_mulR (h1 : -18446744073709551616 < j) (h2 : j < 18446744073709551616) : Rw (binD .Mult (.int i) (.int j) S) Q ↔ Q (.int (i * j)) S := by
  show Rw (if CMul i j ∨ CMulX i j then _ else _) Q ↔ _
  rw [if_pos (.inl (.inr ⟨by omega, by omega⟩))]; exact Rw_ok
theorem ev_add : Rw (binD .Add (.int i) (.int j) S) Q ↔ Q (.int (i + j)) S := Rw_ok
theorem ev_sub : Rw (binD .Sub (.int i) (.int j) S) Q ↔ Q (.int (i - j)) S := Rw_ok
theorem ev_mod (h : 0 < j) : Rw (binD .Mod (.int i) (.int j) S) Q ↔ Q (.int (i % j)) S := by
  show Rw (if 0 < j then _ else _) Q ↔ _
  rw [if_pos h]; exact Rw_ok
theorem ev_div (h : 0 < j) (h2 : j < 18446744073709551616) : Rw (binD .FloorDiv (.int i) (.int j) S) Q ↔ Q (.int (i / j)) S := by
  have : CDivW i j := by
    refine ⟨h, ?_⟩
    have : j.natAbs < 2 ^ 64 := by omega
    have h3 : j.natAbs ≠ 0 := by omega
    have := (Nat.log2_lt h3).mpr this
    omega
  show Rw (if CDivW i j then _ else _) Q ↔ _
  rw [if_pos this]; exact Rw_ok
theorem ev_intI : Rw (b1D .int (.int i) S) Q ↔ Q (.int i) S := Rw_ok
theorem ev_lenL {xs : List D} : Rw (b1D .len (.lst xs) S) Q ↔ Q (.int xs.length) S := Rw_ok
theorem ev_lenT {xs : List D} : Rw (b1D .len (.tup xs) S) Q ↔ Q (.int xs.length) S := Rw_ok
theorem ev_lt : Rw (cmpD .Lt (.int i) (.int j) S) Q ↔ Q (.bl (decide (i < j))) S := Rw_ok
theorem ev_le : Rw (cmpD .LtE (.int i) (.int j) S) Q ↔ Q (.bl (decide (i ≤ j))) S := Rw_ok
theorem ev_gt : Rw (cmpD .Gt (.int i) (.int j) S) Q ↔ Q (.bl (decide (j < i))) S := Rw_ok
theorem ev_ge : Rw (cmpD .GtE (.int i) (.int j) S) Q ↔ Q (.bl (decide (j ≤ i))) S := Rw_ok
theorem ev_eqI : Rw (cmpD .Eq (.int i) (.int j) S) Q ↔ Q (.bl (decide (i = j))) S := Rw_ok
theorem ev_neI : Rw (cmpD .NotEq (.int i) (.int j) S) Q ↔ Q (.bl (!decide (i = j))) S := Rw_ok
theorem ev_eqS {x y : Str} : Rw (cmpD .Eq (.str x) (.str y) S) Q ↔ Q (.bl (decide (x = y))) S := Rw_ok
theorem ev_neS {x y : Str} : Rw (cmpD .NotEq (.str x) (.str y) S) Q ↔ Q (.bl (!decide (x = y))) S := Rw_ok
theorem ev_bl {b : Bool} {Q : Bool → Store → Prop} : Rw (blD (.bl b) S) Q ↔ Q b S := Rw_ok
theorem ev_truB {b : Bool} {Q : Bool → Store → Prop} : Rw (truR (.bl b) S) Q ↔ Q b S := Rw_ok
/-- a list's item -/
theorem ev_ixL {xs : List D} (h1 : 0 ≤ i) (h2 : i < xs.length) : Rw (ixD (.lst xs) (.int i) S) Q ↔ Q (xs[i.toNat]'(by omega)) S := by
  have : atI xs i = some (xs[i.toNat]'(by omega)) := by
    unfold atI ixN
    rw [if_pos h1, if_pos h2, Option.bind_some, List.getElem?_eq_getElem]
  show Rw (match atI xs i with | some d => R.ok d S | none => .bad) Q ↔ _
  rw [this]
  exact Rw_ok
theorem ev_ixT {xs : List D} (h1 : 0 ≤ i) (h2 : i < xs.length) : Rw (ixD (.tup xs) (.int i) S) Q ↔ Q (xs[i.toNat]'(by omega)) S := by
  have : atI xs i = some (xs[i.toNat]'(by omega)) := by
    unfold atI ixN
    rw [if_pos h1, if_pos h2, Option.bind_some, List.getElem?_eq_getElem]
  show Rw (match atI xs i with | some d => R.ok d S | none => .bad) Q ↔ _
  rw [this]
  exact Rw_ok
theorem line_big : 1000000 ≤ sizeLine := by decide +kernel
theorem ev_lst {xs : List D} (h : xs.length ≤ 1000000) : (if xs.length ≤ sizeLine then R.ok (D.lst xs) S else .bad) = .ok (.lst xs) S := if_pos (Nat.le_trans h line_big)
theorem ev_tup {xs : List D} (h : xs.length ≤ 1000000) : (if xs.length ≤ sizeLine then R.ok (D.tup xs) S else .bad) = .ok (.tup xs) S := if_pos (Nat.le_trans h line_big)
theorem ev_addL {xs ys : List D} (h : xs.length + ys.length ≤ 1000000) : Rw (binD .Add (.lst xs) (.lst ys) S) Q ↔ Q (.lst (xs ++ ys)) S := by
  show Rw (if xs.length + ys.length ≤ sizeLine then _ else _) Q ↔ _
  rw [if_pos (Nat.le_trans h line_big)]; exact Rw_ok
end
/-! ### lists of whole numbers as data -/
theorem ints_toPs : ∀ ns : List Int, toP.toPs (ns.map D.int) = some (ns.map PyData.int)
  | [] => rfl
  | n :: ns => by
    rw [List.map_cons, List.map_cons]
    unfold toP.toPs
    rw [ints_toPs ns]
    rfl
theorem ints_can : ∀ ns : List Int, PyData.canLayAll0 (ns.map PyData.int) = true
  | [] => by simp [PyData.canLayAll0]
  | n :: ns => by simp [PyData.canLayAll0, PyData.canLay0, ints_can ns]
theorem ints_depth : ∀ ns : List Int, PyData.depthAll (ns.map PyData.int) = 0
  | [] => by simp [PyData.depthAll]
  | n :: ns => by simp [PyData.depthAll, PyData.depth, ints_depth ns]
theorem ints_shaped (ns : List Int) : SeqAt.shaped (.list (ns.map .int)) = true := by
  unfold SeqAt.shaped
  simp [PyData.canLay0, PyData.depth, ints_can, ints_depth]
theorem ints_eqv : ∀ ms ns : List Int, PyData.eqvAll (ms.map PyData.int) (ns.map PyData.int) = decide (ms = ns)
  | [], [] => by simp [PyData.eqvAll]
  | [], _ :: _ => by simp [PyData.eqvAll]
  | _ :: _, [] => by simp [PyData.eqvAll]
  | m :: ms, n :: ns => by
    simp only [List.map_cons, PyData.eqvAll, PyData.eqv, ints_eqv ms ns, List.cons.injEq]
    by_cases h : m = n <;> simp [h]
theorem isE {α : Type} (xs : List α) : xs.isEmpty = decide (xs = []) := by cases xs <;> simp
theorem eqD_cell {S : Store} {n : Nat} {xs : List D} (h : S[n]? = some (.lst xs)) : eqD (.ref n) (.lst []) S = some (decide (xs = [])) := by
  refine eqD_empty ?_
  unfold emptyD itemsD
  simp only [h, Option.map_some, isE]
theorem ev_neNil {S : Store} {n : Nat} {ms : List Int} {Q : D → Store → Prop} (h : S[n]? = some (.lst (ms.map .int))) : Rw (cmpD .NotEq (.ref n) (.lst []) S) Q ↔ Q (.bl (!decide (ms = []))) S := by
  have e := eqD_cell h
  have e2 : decide (ms.map D.int = []) = decide (ms = []) := by cases ms <;> simp
  show Rw (match eqD (.ref n) (.lst []) S with | some c => R.ok (D.bl (!c)) S | none => .bad) Q ↔ _
  rw [e, e2]
  exact Rw_ok
theorem isLst_of {S : Store} {n : Nat} {xs : List D} (h : S[n]? = some (.lst xs)) : isLst (.ref n) S = true := by
  unfold isLst
  simp only [h]
theorem isDct_of {S : Store} {n : Nat} {xs : List (Key × D)} (h : S[n]? = some (.dic xs)) : isDct (.ref n) S = true := by
  unfold isDct
  simp only [h]
/-- the first item, taken out -/
theorem ev_pop0 {S : Store} {n : Nat} {x : D} {xs : List D} {Q : D → Store → Prop} (h : S[n]? = some (.lst (x :: xs))) (hl : xs.length ≤ 1000000) : Rw (popiD (.ref n) (.int 0) S) Q ↔ Q x (S.set n (.lst xs)) := by
  have e : seqIndex? 0 (xs.length + 1) = some 0 := by
    have := (ixN_seq (n := xs.length + 1) (i := 0) (j := 0) (by unfold ixN; rw [if_pos (by omega), if_pos (by omega)]; rfl)).1
    exact this
  have e2 : popiD (.ref n) (.int 0) S = .ok x (S.set n (.lst xs)) := by
    unfold popiD setCell
    simp only [h, List.length_cons, e]
    simp only [Option.bind_some, List.getElem?_cons_zero, Option.map_some, List.eraseIdx_cons_zero]
    rw [if_pos (by omega)]
    show (if xs.length ≤ sizeLine then _ else _) = _
    rw [if_pos (Nat.le_trans hl line_big)]
  rw [e2]
  exact Rw_ok
theorem ev_ins0 {S : Store} {n : Nat} {x : D} {xs : List D} {Q : D → Store → Prop} (h : S[n]? = some (.lst xs)) (hl : xs.length < 1000000) : Rw (insD (.ref n) (.int 0) x S) Q ↔ Q .non (S.set n (.lst (x :: xs))) := by
  have e2 : insD (.ref n) (.int 0) x S = .ok .non (S.set n (.lst (x :: xs))) := by
    unfold insD setCell
    simp only [h]
    rw [if_pos ⟨by omega, by omega, Nat.lt_of_lt_of_le hl line_big⟩]
    show (if ([] ++ [x] ++ xs).length ≤ sizeLine then _ else _) = _
    rw [if_pos (by simp; exact Nat.le_trans (Nat.succ_le_of_lt hl) line_big)]
    rfl
  rw [e2]
  exact Rw_ok
theorem Rw.toEq {α : Type} {r : R α} {a : α} {S : Store} (h : Rw r fun b S' => b = a ∧ S' = S) : r = .ok a S := by
  cases r with
  | ok b S' => obtain ⟨rfl, rfl⟩ := h.h; rfl
  | exc _ _ _ => exact h.h.elim
  | bad => exact h.h.elim
theorem filt_int {p : Int → Bool} : ∀ is : List Int, (is.map D.int).filterMap (fun d => match d with | .int i => if p i = true then some (D.int i) else none | _ => none) = (is.filter p).map D.int
  | [] => rfl
  | i :: is => by
    rw [List.map_cons, List.filterMap_cons, List.filter_cons]
    by_cases h : p i = true
    · simp only [h, if_true, filt_int is, List.map_cons]
    · simp only [h, if_false, filt_int is]; simp
theorem fmap_int {f : Int → D} : ∀ is : List Int, (is.map D.int).filterMap (fun d => match d with | .int i => some (f i) | _ => none) = is.map f
  | [] => rfl
  | i :: is => by rw [List.map_cons, List.filterMap_cons, List.map_cons, fmap_int is]
/-- [f(i) for i in ..] of whole numbers -/
theorem comp_map {g : D → Store → R (Option D)} {S : Store} {is : List Int} (f : Int → D) (h : ∀ i ∈ is, g (.int i) S = .ok (some (f i)) S) (hl : is.length ≤ 1000000) : compF g (is.map .int) [] S = .ok (.lst (is.map f)) S := by
  rw [compF_pure (fun d => match d with | .int i => some (f i) | _ => none), fmap_int, List.nil_append, if_pos (by rw [List.length_map]; exact Nat.le_trans hl line_big)]
  intro d hd
  obtain ⟨i, hi, rfl⟩ := List.mem_map.mp hd
  exact h i hi
/-- [i for i in .. if ..] of whole numbers -/
theorem comp_filter {g : D → Store → R (Option D)} {S : Store} {is : List Int} (p : Int → Bool) (h : ∀ i ∈ is, g (.int i) S = .ok (if p i = true then some (.int i) else none) S) (hl : is.length ≤ 1000000) : compF g (is.map .int) [] S = .ok (.lst ((is.filter p).map .int)) S := by
  rw [compF_pure (fun d => match d with | .int i => if p i = true then some (.int i) else none | _ => none), filt_int, List.nil_append, if_pos (by rw [List.length_map]; exact Nat.le_trans (Nat.le_trans (List.length_filter_le _ _) hl) line_big)]
  intro d hd
  obtain ⟨i, hi, rfl⟩ := List.mem_map.mp hd
  exact h i hi
theorem cut_map {α β : Type} (f : α → β) (xs : List α) (lo hi : Option Int) : cut (xs.map f) lo hi = (cut xs lo hi).map f := by
  unfold cut
  rw [List.length_map, List.map_take, List.map_drop]
theorem cut_len {α : Type} (xs : List α) (lo hi : Option Int) : (cut xs lo hi).length ≤ xs.length := by
  unfold cut
  rw [List.length_take, List.length_drop]
  omega
theorem ev_pow {S : Store} {Q : D → Store → Prop} {i j : Int} (h1 : 0 ≤ j) (h2 : j ≤ 1000000) (h3 : -18446744073709551616 < i) (h4 : i < 18446744073709551616) : Rw (binD .Pow (.int i) (.int j) S) Q ↔ Q (.int (i ^ j.toNat)) S := by
  have : CPow i j := ⟨h1, h2, by omega⟩
  show Rw (if CPow i j then _ else _) Q ↔ _
  rw [if_pos this]; exact Rw_ok
/-! ### of what type -/
section
variable {S : Store} {t : Ty}
theorem ia_non : isaD t .non S = some false := rfl
theorem ia_bl {b : Bool} : isaD t (.bl b) S = some (decide (t = .bool ∨ t = .int)) := by cases t <;> rfl
theorem ia_int {i : Int} : isaD t (.int i) S = some (decide (t = .int)) := by cases t <;> rfl
theorem ia_str {x : Str} : isaD t (.str x) S = some (decide (t = .str)) := by cases t <;> rfl
theorem ia_tup {xs : List D} : isaD t (.tup xs) S = some (decide (t = .tup)) := by cases t <;> rfl
theorem ia_lst {xs : List D} : isaD t (.lst xs) S = some (decide (t = .lst)) := by cases t <;> rfl
theorem ia_dic {ks : List Key} {xs : List D} : isaD t (.dic ks xs) S = some (decide (t = .dic)) := by cases t <;> rfl
end
section
variable {α : Type} {Q : D → Store → Prop} {S : Store} {i j : Int}
theorem ev_neg : (match (D.int i) with | .int i => R.ok (D.int (-i)) S | _ => .bad) = .ok (.int (-i)) S := rfl
theorem ev_b2max : Rw (b2D .max (.int i) (.int j) S) Q ↔ Q (.int (if j > i then j else i)) S := Rw_ok
theorem ev_b2min : Rw (b2D .min (.int i) (.int j) S) Q ↔ Q (.int (if j < i then j else i)) S := Rw_ok
theorem ev_shl (h : 0 ≤ j) (h2 : j ≤ 100000) (h3 : -18446744073709551616 < i) (h4 : i < 18446744073709551616) : Rw (binD .LShift (.int i) (.int j) S) Q ↔ Q (.int (i * 2 ^ j.toNat)) S := by
  have : CShl i j := by
    refine ⟨h, ?_⟩
    have := intBits_le_64 (k := i) (by omega) (by omega)
    omega
  show Rw (if CShl i j then _ else _) Q ↔ _
  rw [if_pos this]; exact Rw_ok
theorem ev_intB {b : Bool} : Rw (b1D .int (.bl b) S) Q ↔ Q (.int (if b then 1 else 0)) S := Rw_ok
theorem ev_abs : Rw (b1D .abs (.int i) S) Q ↔ Q (.int (if i < 0 then -i else i)) S := Rw_ok
theorem ev_truI {Q : Bool → Store → Prop} : Rw (truR (.int i) S) Q ↔ Q (i != 0) S := Rw_ok
theorem ev_isNon : Rw (cmpD .Is .non .non S) Q ↔ Q (.bl true) S := Rw_ok
theorem ev_addS {x y : Str} (h : x.length + y.length ≤ 1000000) : Rw (binD .Add (.str x) (.str y) S) Q ↔ Q (.str (x ++ y)) S := by
  show Rw (if x.length + y.length ≤ sizeLine then _ else _) Q ↔ _
  rw [if_pos (Nat.le_trans h line_big)]; exact Rw_ok
end
end IL
namespace IL
theorem litN (n : Nat) : (((no_index (OfNat.ofNat n)) : Nat) : Int) = (OfNat.ofNat n : Int) := rfl
theorem Rw_ifd {α : Type} {p : Prop} [Decidable p] {a b : R α} {Q : α → Store → Prop} (h1 : p → Rw a Q) (h2 : ¬ p → Rw b Q) : Rw (if decide p = true then a else b) Q := Rw_if (fun h => h1 (of_decide_eq_true h)) (fun h => h2 fun q => h (decide_eq_true q))
theorem Ow_ifd {p : Prop} [Decidable p] {a b : O} {E : En} (h1 : p → Ow a E) (h2 : ¬ p → Ow b E) : Ow (if decide p = true then a else b) E := Ow_if (fun h => h1 (of_decide_eq_true h)) (fun h => h2 fun q => h (decide_eq_true q))
end IL
namespace IL
open PySem PySem.Spec PyProof.Rows L2
section
variable {S : Store} {x y z u : D} {xs : List D}
theorem ix_t0 : ixD (.tup (x :: xs)) (.int 0) S = .ok x S := by
  have : atI (x :: xs) 0 = some x := by unfold atI ixN; rw [if_pos (by omega), if_pos (by simp only [List.length_cons]; omega)]; rfl
  show (match atI (x :: xs) 0 with | some d => R.ok d S | none => .bad) = _
  rw [this]
theorem ix_t1 : ixD (.tup (x :: y :: xs)) (.int 1) S = .ok y S := by
  have : atI (x :: y :: xs) 1 = some y := by unfold atI ixN; rw [if_pos (by omega), if_pos (by simp only [List.length_cons]; omega)]; rfl
  show (match atI (x :: y :: xs) 1 with | some d => R.ok d S | none => .bad) = _
  rw [this]
theorem ix_t2 : ixD (.tup (x :: y :: z :: xs)) (.int 2) S = .ok z S := by
  have : atI (x :: y :: z :: xs) 2 = some z := by unfold atI ixN; rw [if_pos (by omega), if_pos (by simp only [List.length_cons]; omega)]; rfl
  show (match atI (x :: y :: z :: xs) 2 with | some d => R.ok d S | none => .bad) = _
  rw [this]
theorem ix_l0 : ixD (.lst (x :: xs)) (.int 0) S = .ok x S := ix_t0
theorem ix_l1 : ixD (.lst (x :: y :: xs)) (.int 1) S = .ok y S := ix_t1
theorem ix_l2 : ixD (.lst (x :: y :: z :: xs)) (.int 2) S = .ok z S := ix_t2
end
end IL
namespace IL
open PySem PySem.Spec PyProof.Rows L2
section
variable {S : Store}
theorem le_line {n : Nat} (h : n ≤ 1000000) : (n ≤ sizeLine) = True := eq_true (Nat.le_trans h line_big)
theorem ev_all2 {p q : Bool} : b1D .all (.lst [.bl p, .bl q]) S = .ok (.bl (p && (q && true))) S := rfl
end
end IL
namespace IL
section
variable {Q : D → Store → Prop} {r : R D} {S : Store}
theorem onT_t : onT (.bl true) r S = r := rfl
theorem onT_f : onT (.bl false) r S = .ok (.bl false) S := rfl
theorem onF_t : onF (.bl true) r S = .ok (.bl true) S := rfl
theorem onF_f : onF (.bl false) r S = r := rfl
theorem Rw_onT {p : Prop} [Decidable p] (h1 : p → Rw r Q) (h2 : ¬ p → Q (.bl false) S) : Rw (onT (.bl (decide p)) r S) Q := by
  by_cases h : p
  · rw [decide_eq_true h]; exact h1 h
  · rw [decide_eq_false h]; exact ⟨h2 h⟩
theorem Rw_onF {p : Prop} [Decidable p] (h1 : p → Q (.bl true) S) (h2 : ¬ p → Rw r Q) : Rw (onF (.bl (decide p)) r S) Q := by
  by_cases h : p
  · rw [decide_eq_true h]; exact ⟨h1 h⟩
  · rw [decide_eq_false h]; exact h2 h
end
end IL
namespace IL
open PySem PySem.Spec PyProof.Rows L2
section
variable {G : Str → Option D} {cal : Cal} {v : Env} {S : Store} {E : En}
theorem sx_sq {a b : IL.S} (h : Ow (exec G cal a v S) ⟨fun v S => Ow (exec G cal b v S) E, E.rt, E.bk, E.ct⟩) : Ow (exec G cal (.sq a b) v S) E := by
  show Ow ((exec G cal a v S).thn (exec G cal b)) E
  rw [Ow_thn]; exact h
theorem sx_nop (h : E.nx v S) : Ow (exec G cal .nop v S) E := ⟨h⟩
theorem sx_asgV {i : Nat} {e : IL.E} (h : Rw (den G cal e v S) fun d S1 => E.nx (v.set i (.val d)) S1) : Ow (exec G cal (.asg (.var i) e) v S) E := by
  show Ow ((den G cal e v S).o fun d S1 => (asgS G cal (.var i) d v S1).o fun v1 S2 => .nx v1 S2) E
  rw [Ow_o]; exact h.mono fun d S1 q => ⟨q⟩
theorem sx_asgG {t e : IL.E} (h : Rw (den G cal e v S) fun d S1 => Rw (asgS G cal t d v S1) fun v1 S2 => E.nx v1 S2) : Ow (exec G cal (.asg t e) v S) E := by
  show Ow ((den G cal e v S).o fun d S1 => (asgS G cal t d v S1).o fun v1 S2 => .nx v1 S2) E
  rw [Ow_o]
  refine h.mono fun d S1 q => ?_
  rw [Ow_o]; exact q.mono fun v S q => ⟨q⟩
theorem sx_par {ts : List (Nat × Bool)} {es : IL.E} (h : Rw (dens G cal es v S) fun ds S1 => Ow (match setPar ts ds v with | some v1 => .nx v1 S1 | none => .bad) E) : Ow (exec G cal (.par ts es) v S) E := by
  show Ow ((dens G cal es v S).o fun ds S1 => _) E
  rw [Ow_o]; exact h
theorem sx_setO {i : Nat} {e : IL.E} (h : Rw (den G cal e v S) fun d S1 => Ow (match d with | .lst xs => .nx (v.set i (.own xs)) S1 | _ => .bad) E) : Ow (exec G cal (.seto i e) v S) E := by
  show Ow ((den G cal e v S).o fun d S1 => _) E
  rw [Ow_o]; exact h
theorem sx_app {i : Nat} {e : IL.E} (h : Rw (den G cal e v S) fun d S1 => Ow (match v[i]? with | some (.own xs) => if xs.length < PySem.sizeLine then .nx (v.set i (.own (xs ++ [d]))) S1 else .bad | _ => .bad) E) : Ow (exec G cal (.app i e) v S) E := by
  show Ow ((den G cal e v S).o fun d S1 => _) E
  rw [Ow_o]; exact h
theorem sx_expr {e : IL.E} (h : Rw (den G cal e v S) fun _ S1 => E.nx v S1) : Ow (exec G cal (.expr e) v S) E := by
  show Ow ((den G cal e v S).o fun d S1 => .nx v S1) E
  rw [Ow_o]; exact h.mono fun d S1 q => ⟨q⟩
theorem sx_ife {c : IL.E} {a b : IL.S} (h : Rw (tst G cal c v S) fun k S1 => if k = true then Ow (exec G cal a v S1) E else Ow (exec G cal b v S1) E) : Ow (exec G cal (.ife c a b) v S) E := by
  show Ow ((tst G cal c v S).o fun k S1 => if k = true then exec G cal a v S1 else exec G cal b v S1) E
  rw [Ow_o]
  refine h.mono fun k S1 q => ?_
  cases k <;> exact q
theorem sx_ret {e : IL.E} (h : Rw (den G cal e v S) E.rt) : Ow (exec G cal (.ret e) v S) E := by
  show Ow ((den G cal e v S).o fun d S1 => .ret d S1) E
  rw [Ow_o]; exact h.mono fun d S1 q => ⟨q⟩
theorem sx_whl {c : IL.E} {b : IL.S} (h : Ow (whil (tst G cal c) (exec G cal b) v S) E) : Ow (exec G cal (.whl c b) v S) E := h
theorem sx_for {t src : IL.E} {b : IL.S} (h : Rw (itr G cal src v S) fun ds S1 => Ow (forF (asgN t) (exec G cal b) ds v S1) E) : Ow (exec G cal (.for_ t src b) v S) E := by
  show Ow ((itr G cal src v S).o fun ds S1 => _) E
  rw [Ow_o]; exact h
theorem sx_reto {i : Nat} (h : Ow (match v[i]? with | some (.own xs) => .ret (.lst xs) S | _ => .bad) E) : Ow (exec G cal (.reto i) v S) E := h
theorem sx_frz {i : Nat} (h : Ow (match v[i]? with | some (.own xs) => .nx (v.set i (.val (.lst xs))) S | _ => .bad) E) : Ow (exec G cal (.frz i) v S) E := h
theorem sx_retn (h : E.rt .non S) : Ow (exec G cal .retn v S) E := ⟨h⟩
theorem sx_brk (h : E.bk v S) : Ow (exec G cal .brk v S) E := ⟨h⟩
theorem sx_cnt (h : E.ct v S) : Ow (exec G cal .cnt v S) E := ⟨h⟩
theorem sx_pas (h : E.nx v S) : Ow (exec G cal .pas v S) E := ⟨h⟩
theorem if_d {p : Prop} [Decidable p] {A B : Prop} (h1 : p → A) (h2 : ¬ p → B) : if decide p = true then A else B := by
  by_cases h : p
  · rw [if_pos (decide_eq_true h)]; exact h1 h
  · rw [if_neg (fun q => h (of_decide_eq_true q))]; exact h2 h
theorem if_p {p : Prop} [Decidable p] {A B : Prop} (h1 : p → A) (h2 : ¬ p → B) : if p then A else B := by
  by_cases h : p
  · rw [if_pos h]; exact h1 h
  · rw [if_neg h]; exact h2 h
end
end IL
namespace IL
open PySem PySem.Spec PyProof.Rows L2
section
variable {S : Store} {Q : D → Store → Prop} {x y : Str} {n : Int}
theorem ev_mulS (h : MulOk x n) : Rw (binD .Mult (.str x) (.int n) S) Q ↔ Q (.str (Txt.mul x n)) S := by
  show Rw (if MulOk x n then _ else _) Q ↔ _
  rw [if_pos h]; exact Rw_ok
theorem ev_catS (h : x.length + y.length ≤ sizeLine) : Rw (binD .Add (.str x) (.str y) S) Q ↔ Q (.str (x ++ y)) S := by
  show Rw (if x.length + y.length ≤ sizeLine then _ else _) Q ↔ _
  rw [if_pos h]; exact Rw_ok
theorem ev_intS (h : PySem.intText? x = some n) (h2 : x.length ≤ 640) : Rw (b1D .int (.str x) S) Q ↔ Q (.int n) S := by
  have : b1D .int (.str x) S = .ok (.int n) S := by
    show (match PySem.intText? x with | some n => if x.length ≤ 640 then R.ok (D.int n) S else .bad | none => .bad) = _
    rw [h]
    exact if_pos h2
  rw [this]
  exact Rw_ok
end
end IL
/-! JD: the first family's jar: draws. -/
namespace IL.A
open PySem PySem.Spec PyProof.Rows L2 IL

def b_jar : S := (.sq (.par [(1, false), (2, false)] (.cs (.comp (.ife (.cmp .GtE (.var 3) (.int (0))) (.bin .Mult (.int (2)) (.var 3)) (.bin .Sub (.bin .Mult (.neg (.int (2))) (.var 3)) (.int (1)))) (.var 3) (.cs (.sl (.var 0) .nl (.cs (.int (63)) .nl)) .nl) .nl) (.cs (.bin .Add (.int (15027)) (.bin .Mult (.int (5)) (.b1 .len (.var 0)))) .nl))) (.sq (.for_ (.var 3) (.cs (.var 1) .nl) (.sq (.asg (.var 2) (.bin .Mod (.b1 .int (.bin .Add (.bin .Add (.bin .Mult (.var 2) (.int (16807))) (.bin .Mult (.var 3) (.int (3)))) (.int (5)))) (.int (4294967279)))) .nop)) (.sq (.asg (.var 4) (.cell (.comp (.var 3) (.var 3) (.cs (.var 1) .nl) (.cs (.cmp .GtE (.var 3) (.bin .Pow (.int (10)) (.int (18)))) .nl)))) (.sq (.ret (.dic ["far", "cells", "seal", "count"] (.cs (.var 4) (.cs (.bin .Add (.var 1) (.lst (.cs (.bin .Add (.bin .Mult (.int (7)) (.b1 .len (.var 1))) (.int (3))) .nl))) (.cs (.var 2) (.cs (.int (0)) .nl)))))) .nop))))
def b_draw : S := (.sq (.asg (.var 2) (.ix (.var 0) (.str "far"))) (.sq (.ife (.cmp .NotEq (.var 2) (.lst .nl)) (.sq (.asg (.var 6) (.popi (.var 2) (.int (0)))) (.sq (.ife (.cmp .GtE (.var 6) (.var 1)) (.sq (.expr (.ins (.var 2) (.int (0)) (.bin .FloorDiv (.var 6) (.var 1)))) .nop) .nop) (.sq (.ret (.bin .Mod (.b1 .int (.var 6)) (.var 1))) .nop))) .nop) (.sq (.asg (.ix (.var 0) (.str "count")) (.bin .Add (.ix (.var 0) (.str "count")) (.int (1)))) (.sq (.par [(3, false), (4, false)] (.cs (.ix (.var 0) (.str "count")) (.cs (.ix (.var 0) (.str "cells")) .nl))) (.sq (.asg (.var 5) (.bin .Mod (.b1 .int (.bin .Add (.bin .Add (.ix (.var 0) (.str "seal")) (.bin .Mult (.int (7919)) (.b1 .int (.ix (.var 4) (.bin .Mod (.b1 .int (.var 3)) (.b1 .len (.var 4))))))) (.bin .Mult (.int (104729)) (.var 3)))) (.int (4294967291)))) (.sq (.asg (.var 5) (.bin .Mod (.b1 .int (.bin .Add (.bin .Add (.bin .Mult (.var 5) (.int (22695477))) (.bin .Mult (.var 3) (.var 3))) (.int (1)))) (.int (4294967291)))) (.sq (.asg (.var 5) (.bin .Mod (.b1 .int (.bin .Add (.bin .Mult (.var 5) (.int (48271))) (.bin .FloorDiv (.var 5) (.int (65536))))) (.int (4294967279)))) (.sq (.ret (.bin .Mod (.b1 .int (.bin .FloorDiv (.var 5) (.int (1024)))) (.var 1))) .nop))))))))
def b_pick : S := (.sq (.ret (.ix (.var 1) (.call "_law_draw" (.cs (.var 0) (.cs (.b1 .len (.var 1)) .nl))))) .nop)
def jarD (far : Nat) (cs : List Int) (sm count : Int) : List (Key × D) := [(.inr "far", .ref far), (.inr "cells", .lst (cs.map .int)), (.inr "seal", .int sm), (.inr "count", .int count)]
/-- the jar stands at j, its far ones at f; n: draws so far, at most -/
def Jar (S : Store) (j f n : Nat) : Prop := j ≠ f ∧ ∃ (fs cs : List Int) (sm count : Int), S[f]? = some (.lst (fs.map .int)) ∧ S[j]? = some (.dic (jarD f cs sm count)) ∧ fs.length ≤ 64 ∧ cs ≠ [] ∧ cs.length ≤ 64 ∧ 0 ≤ count ∧ count ≤ n
/-- all but the jar's cells stand -/
def Keep (S S' : Store) (j f : Nat) : Prop := S'.length = S.length ∧ ∀ m, m ≠ j → m ≠ f → S'[m]? = S[m]?
variable {G : Str → Option D} {T : Str → Option Fn}
theorem get_far {j f : Nat} {S : Store} {cs : List Int} {sm count : Int} (h : S[j]? = some (.dic (jarD f cs sm count))) : ixD (.ref j) (.str "far") S = .ok (.ref f) S := by
  simp only [ixD, itemsD, h]
  rfl
theorem get_cells {j f : Nat} {S : Store} {cs : List Int} {sm count : Int} (h : S[j]? = some (.dic (jarD f cs sm count))) : ixD (.ref j) (.str "cells") S = .ok (.lst (cs.map .int)) S := by
  simp only [ixD, itemsD, h]
  rfl
theorem get_sm {j f : Nat} {S : Store} {cs : List Int} {sm count : Int} (h : S[j]? = some (.dic (jarD f cs sm count))) : ixD (.ref j) (.str "seal") S = .ok (.int sm) S := by
  simp only [ixD, itemsD, h]
  rfl
theorem get_count {j f : Nat} {S : Store} {cs : List Int} {sm count : Int} (h : S[j]? = some (.dic (jarD f cs sm count))) : ixD (.ref j) (.str "count") S = .ok (.int count) S := by
  simp only [ixD, itemsD, h]
  rfl
theorem jar_grow {S : Store} {j f n m : Nat} (h : Jar S j f n) (l : n ≤ m) : Jar S j f m := by
  obtain ⟨h0, fs, cs, sm, count, h1, h2, h3, h4, h5, h6, h7⟩ := h
  exact ⟨h0, fs, cs, sm, count, h1, h2, h3, h4, h5, h6, by omega⟩
theorem Keep.refl {S : Store} {j f : Nat} : Keep S S j f := ⟨rfl, fun _ _ _ => rfl⟩
theorem Keep.trans {S S1 S2 : Store} {j f : Nat} (a : Keep S S1 j f) (b : Keep S1 S2 j f) : Keep S S2 j f := ⟨b.1.trans a.1, fun m h1 h2 => (b.2 m h1 h2).trans (a.2 m h1 h2)⟩
theorem keep_f {S : Store} {j f : Nat} {c : Cell} : Keep S (S.set f c) j f := ⟨List.length_set, fun m _ h => List.getElem?_set_ne (fun q => h q.symm)⟩
theorem keep_j {S : Store} {j f : Nat} {c : Cell} : Keep S (S.set j c) j f := ⟨List.length_set, fun m h _ => List.getElem?_set_ne (fun q => h q.symm)⟩
theorem set_here {S : Store} {n : Nat} {c c' : Cell} (h : S[n]? = some c) : (S.set n c')[n]? = some c' := List.getElem?_set_self (List.getElem?_eq_some_iff.mp h).1
theorem put_count {j f : Nat} {S : Store} {cs : List Int} {sm count c : Int} (h : S[j]? = some (.dic (jarD f cs sm count))) : setIxD (.ref j) (.str "count") (.int c) S = .ok () (S.set j (.dic (jarD f cs sm c))) := by
  unfold setIxD
  simp only [h]
  rfl
theorem draw (hT : T "_law_draw" = some ⟨2, 7, b_draw⟩) {k : Nat} {S : Store} {j f n : Nat} (hJ : Jar S j f n) (hn : n < 1152921504606846976) {many : Int} (hm : 0 < many) (hm2 : many < 18446744073709551616) :
    Rw (callF G T (k + 1) "_law_draw" [.ref j, .int many] S) fun d S' => ∃ i : Int, d = .int i ∧ 0 ≤ i ∧ i < many ∧ Jar S' j f (n + 1) ∧ Keep S S' j f := by
  obtain ⟨hjf, fs, cs, sm, count, hf, hj, h1, h2, h3, h4, h5⟩ := hJ
  refine Rw_call hT rfl ?_
  show Ow (exec G _ b_draw [.val (.ref j), .val (.int many), .no, .no, .no, .no, .no] S) _
  unfold b_draw
  simp only [exec, den, dens, tst, asgS, ownIx, Ow_o, Ow_thn, Rw_bind, Rw_ok, Ow_nx, List.getElem?_cons_zero, List.getElem?_cons_succ, List.set_cons_succ, List.set_cons_zero, get_far hj, List.length_nil, Nat.zero_le, if_true, ev_neNil hf, ev_bl]
  cases fs with
  | cons x r =>
    have hd : (!decide (x :: r = [])) = true := by simp
    rw [hd, if_pos rfl]
    have hl : (r.map D.int).length ≤ 1000000 := by rw [List.length_map]; rw [List.length_cons] at h1; omega
    have hS : (S.set f (.lst (r.map .int)))[f]? = some (.lst (r.map .int)) := set_here hf
    simp only [Ow_o, Ow_thn, Rw_bind, Rw_ok, Ow_nx, isLst_of hf, if_true, List.map_cons, ev_pop0 hf hl, List.getElem?_cons_zero, List.getElem?_cons_succ, ev_ge, ev_bl, decide_eq_true_eq]
    refine Ow_if (fun hge => ?_) (fun hlt => ?_)
    · simp only [Ow_o, Ow_thn, Rw_bind, Rw_ok, Ow_nx, isLst_of hS, if_true, ev_div hm hm2, ev_ins0 hS (by rw [List.length_map]; rw [List.length_cons] at h1; omega), List.getElem?_cons_zero, List.getElem?_cons_succ, ev_intI, ev_mod hm, Ow_ret]
      refine ⟨_, rfl, Int.emod_nonneg _ (by omega), Int.emod_lt_of_pos _ hm, ⟨hjf, x / many :: r, cs, sm, count, ?_, ?_, h1, h2, h3, h4, by omega⟩, keep_f.trans keep_f⟩
      · rw [set_here hS]; rfl
      · rw [List.getElem?_set_ne (Ne.symm hjf), List.getElem?_set_ne (Ne.symm hjf)]; exact hj
    · simp only [Ow_nx, Ow_o, Ow_thn, Rw_bind, Rw_ok, List.getElem?_cons_zero, List.getElem?_cons_succ, ev_intI, ev_mod hm, Ow_ret]
      refine ⟨_, rfl, Int.emod_nonneg _ (by omega), Int.emod_lt_of_pos _ hm, ⟨hjf, r, cs, sm, count, hS, ?_, by rw [List.length_cons] at h1; omega, h2, h3, h4, by omega⟩, keep_f⟩
      rw [List.getElem?_set_ne (Ne.symm hjf)]; exact hj
  | nil =>
    have hd : (!decide (([] : List Int) = [])) = false := by simp
    rw [hd, if_neg (by decide)]
    have hS : (S.set j (.dic (jarD f cs sm (count + 1))))[j]? = some (.dic (jarD f cs sm (count + 1))) := set_here hj
    have hcl : 0 < cs.length := List.length_pos_iff.mpr h2
    have hci : (0 : Int) < ((cs.map D.int).length : Int) := by rw [List.length_map]; omega
    have hi0 : 0 ≤ (count + 1) % ((cs.map D.int).length : Int) := Int.emod_nonneg _ (by omega)
    have hi1 : (count + 1) % ((cs.map D.int).length : Int) < ((cs.map D.int).length : Int) := Int.emod_lt_of_pos _ hci
    simp only [Ow_nx, Ow_o, Ow_thn, Rw_bind, Rw_ok, List.getElem?_cons_zero, List.getElem?_cons_succ, List.set_cons_succ, List.set_cons_zero, get_count hj, ev_add, put_count hj, get_count hS, get_cells hS, get_sm hS, setPar, ev_intI, ev_lenL, ev_mod hci, ev_ixL hi0 hi1, List.getElem_map]
    simp only [ev_mulL (i := 7919) (by omega) (by omega), ev_mulL (i := 104729) (by omega) (by omega), ev_mulL (i := count + 1) (j := count + 1) (by omega) (by omega), ev_mulR (j := 22695477) (by omega) (by omega), ev_mulR (j := 48271) (by omega) (by omega), ev_mod (j := 4294967291) (by omega), ev_mod (j := 4294967279) (by omega), ev_div (j := 65536) (by omega) (by omega), ev_div (j := 1024) (by omega) (by omega), ev_add, ev_intI, ev_mod hm, Ow_ret, Ow_nx]
    refine ⟨_, rfl, Int.emod_nonneg _ (by omega), Int.emod_lt_of_pos _ hm, ⟨hjf, [], cs, sm, count + 1, ?_, hS, by simp, h2, h3, by omega, by omega⟩, keep_j⟩
    rw [List.getElem?_set_ne hjf]; exact hf
theorem pick (hT : T "_law_draw" = some ⟨2, 7, b_draw⟩) (hP : T "_law_pick" = some ⟨2, 2, b_pick⟩) {k : Nat} {S : Store} {j f n : Nat} (hJ : Jar S j f n) (hn : n < 1152921504606846976) {xs : List D} (h0 : xs ≠ []) (hl : xs.length ≤ 1000000) :
    Rw (callF G T (k + 2) "_law_pick" [.ref j, .lst xs] S) fun d S' => d ∈ xs ∧ Jar S' j f (n + 1) ∧ Keep S S' j f := by
  refine Rw_call hP rfl ?_
  show Ow (exec G _ b_pick [.val (.ref j), .val (.lst xs)] S) _
  unfold b_pick
  have hx : 0 < xs.length := List.length_pos_iff.mpr h0
  simp only [exec, den, dens, Ow_o, Ow_thn, Rw_bind, Rw_ok, List.getElem?_cons_zero, List.getElem?_cons_succ, ev_lenL]
  refine (draw hT hJ hn (many := (xs.length : Int)) (by omega) (by omega)).mono ?_
  rintro d S' ⟨i, rfl, i0, i1, hJ', hK⟩
  simp only [ev_ixL i0 i1, Ow_ret]
  exact ⟨List.getElem_mem _, hJ', hK⟩
theorem jar (hT : T "_law_jar" = some ⟨1, 5, b_jar⟩) {k : Nat} {ns : List Int} (hn : ns.length ≤ 63) :
    Rw (callF G T (k + 1) "_law_jar" [.ref 0] [.ro (ns.map .int)]) fun d S' => d = .ref 2 ∧ S'.length = 3 ∧ Jar S' 2 1 0 := by
  refine Rw_call hT rfl ?_
  show Ow (exec G _ b_jar [.val (.ref 0), .no, .no, .no, .no] [.ro (ns.map .int)]) _
  unfold b_jar
  have hsl : slD (.ref 0) none (some 63) [.ro (ns.map .int)] = .ok (.lst ((cut ns none (some 63)).map .int)) [.ro (ns.map .int)] := by
    rw [← cut_map]; rfl
  have hcl : (cut ns none (some 63)).length ≤ 63 := Nat.le_trans (cut_len _ _ _) hn
  have hlen : b1D .len (.ref 0) [.ro (ns.map .int)] = .ok (.int ((ns.map D.int).length : Nat)) [.ro (ns.map .int)] := rfl
  generalize hc0 : cut ns none (some 63) = c0 at hsl hcl
  simp only [exec, den, dens, itr, par, Ow_o, Ow_thn, Rw_bind, Rw_ok, List.getElem?_cons_zero, List.getElem?_cons_succ, hsl, slotsOf]
  refine Rw.eq (comp_map (fun i => .int (if 0 ≤ i then 2 * i else -2 * i - 1)) (fun i _ => Rw.toEq ?_) (by omega)) ?_
  · simp only [Rw_bind, asgN, Rw_ok, cnd, if_true, den, tst, wipeE, List.getElem?_cons_zero, List.getElem?_cons_succ, List.set_cons_succ, List.set_cons_zero, ev_ge, ev_bl, decide_eq_true_eq]
    refine Rw_if (fun h => ?_) (fun h => ?_)
    · simp only [ev_mulL (i := 2) (by omega) (by omega), Rw_bind, Rw_ok, if_pos h, and_self]
    · simp only [ev_mulL (i := -2) (by omega) (by omega), ev_sub, Rw_bind, Rw_ok, if_neg h, and_self]
  simp only [Rw_ok, hlen, ev_mulL (i := 5) (by omega) (by omega), ev_add, setPar, Ow_nx, List.set_cons_succ, List.set_cons_zero, List.getElem?_cons_zero, List.getElem?_cons_succ]
  generalize hcs : c0.map (fun i => if 0 ≤ i then 2 * i else -2 * i - 1) = cs
  have hcs' : c0.map (fun i => D.int (if 0 ≤ i then 2 * i else -2 * i - 1)) = cs.map D.int := by rw [← hcs, List.map_map]; rfl
  have hcl' : cs.length ≤ 63 := by rw [← hcs, List.length_map]; exact hcl
  rw [hcs']
  refine Ow_for (fun _ v S => ∃ (sm : Int) (s3 : Slot), v = [.val (.ref 0), .val (.lst (cs.map .int)), .val (.int sm), s3, .no] ∧ S = [.ro (ns.map .int)]) ⟨_, _, rfl, rfl⟩ ?_ ?_
  · rintro i d v S hd ⟨sm, s3, rfl, rfl⟩
    obtain ⟨x, rfl⟩ : ∃ x, d = .int x := by
      rw [List.getElem?_map] at hd
      cases h : cs[i]? with
      | none => rw [h] at hd; cases hd
      | some x => rw [h] at hd; cases hd; exact ⟨x, rfl⟩
    simp only [asgN, Rw_ok, exec, den, asgS, Ow_o, Ow_thn, Rw_bind, List.getElem?_cons_zero, List.getElem?_cons_succ, List.set_cons_succ, List.set_cons_zero, ev_mulR (j := 16807) (by omega) (by omega), ev_mulR (j := 3) (by omega) (by omega), ev_add, ev_intI, ev_mod (j := 4294967279) (by omega), Ow_nx]
    exact ⟨_, _, rfl, trivial⟩
  · rintro v S ⟨sm, s3, rfl, rfl⟩
    simp only [List.getElem?_cons_zero, List.getElem?_cons_succ, Rw_ok]
    refine Rw.eq (comp_filter (fun i => decide (10 ^ 18 ≤ i)) (fun i _ => Rw.toEq ?_) (by omega)) ?_
    · simp only [Rw_bind, asgN, Rw_ok, cnd, if_true, den, tst, wipeE, List.getElem?_cons_zero, List.getElem?_cons_succ, List.set_cons_succ, List.set_cons_zero, ev_pow (i := 10) (j := 18) (by omega) (by omega) (by omega) (by omega), ev_ge, ev_bl]
      by_cases h : (10 : Int) ^ 18 ≤ i
      · have : decide ((10 : Int) ^ (18 : Int).toNat ≤ i) = true := decide_eq_true h
        simp only [this, if_true, decide_eq_true h, Rw_bind, Rw_ok, and_self]
      · have : decide ((10 : Int) ^ (18 : Int).toNat ≤ i) = false := decide_eq_false h
        simp only [this, if_false, decide_eq_false h, Rw_bind, Rw_ok, and_self, Bool.false_eq_true]
    simp only [Rw_ok, asgS, Ow_nx, List.set_cons_succ, List.set_cons_zero, List.getElem?_cons_zero, List.getElem?_cons_succ, ev_lenL, ev_mulL (i := 7) (by omega) (by omega), ev_add]
    refine Rw_req (Nat.le_trans (by simp) line_big) ?_
    simp only [Rw_ok]
    rw [ev_addL (by rw [List.length_map]; simp; omega)]
    refine Rw_req ⟨rfl, by decide +kernel, by decide⟩ ?_
    simp only [Rw_ok, Ow_ret]
    refine ⟨rfl, rfl, by decide, cs.filter (fun i => decide (10 ^ 18 ≤ i)), cs ++ [7 * ((cs.map D.int).length : Int) + 3], sm, 0, rfl, ?_, ?_, by simp, by rw [List.length_append]; simp; omega, by omega, by omega⟩
    · show some (Cell.dic [(Sum.inr "far", .ref 1), (Sum.inr "cells", .lst (cs.map D.int ++ [D.int (7 * ((cs.map D.int).length : Int) + 3)])), (Sum.inr "seal", .int sm), (Sum.inr "count", .int 0)]) = _
      unfold jarD
      rw [List.map_append]; rfl
    · exact Nat.le_trans (List.length_filter_le _ _) (by omega)
end IL.A
/-! JE: what may be shown. -/
namespace IL
open PySem PySem.Spec PyProof.Rows L2

/-- d shows in at most n signs, m deep -/
def Sh (n m : Nat) (d : D) : Prop := ∃ p, toP d = some p ∧ p.showable = true ∧ p.depth ≤ m ∧ p.shown.length ≤ n
theorem Sh.mono {n m n' m' : Nat} {d : D} (h : Sh n m d) (hn : n ≤ n') (hm : m ≤ m') : Sh n' m' d := by
  obtain ⟨p, h1, h2, h4, h5⟩ := h
  exact ⟨p, h1, h2, Nat.le_trans h4 hm, Nat.le_trans h5 hn⟩
theorem Sh.non : Sh 4 0 .non := ⟨.none, rfl, rfl, by decide +kernel, by decide +kernel⟩
theorem Sh.bl (b : Bool) : Sh 5 0 (.bl b) := ⟨.bool b, rfl, rfl, by cases b <;> decide +kernel, by cases b <;> decide +kernel⟩
theorem pow_1900 : 10 ^ 570 < 2 ^ 1900 := by decide +kernel
theorem Sh.int {i : Int} {k : Nat} (h0 : 0 < k) (hk : k ≤ 570) (h : i.natAbs < 10 ^ k) : Sh (k + 1) 0 (.int i) := by
  refine ⟨.int i, rfl, ?_, by simp [PyData.depth], ?_⟩
  · show decide (i.natAbs.log2 < 1920) = true
    rw [decide_eq_true_eq]
    by_cases hz : i.natAbs = 0
    · rw [hz]; decide
    · rw [Nat.log2_lt hz]
      have h1 : 10 ^ k ≤ 10 ^ 570 := Nat.pow_le_pow_right (by decide) hk
      have h2 : 2 ^ 1900 ≤ 2 ^ 1920 := Nat.pow_le_pow_right (by decide) (by decide)
      have := pow_1900
      omega
  · show (Str.ofString (toString i)).length ≤ k + 1
    rw [PySem.ofString_length]
    exact int_text_length_le10 h0 h
theorem Sh.str {x : Str} {n : Nat} (h : (PyData.shown (.str x)).length ≤ n) : Sh n 0 (.str x) := ⟨.str x, rfl, rfl, by simp [PyData.depth], h⟩
theorem sh_all {n m : Nat} : ∀ {xs : List D}, (∀ x ∈ xs, Sh n m x) → ∃ ps, toP.toPs xs = some ps ∧ PyData.showableAll ps = true ∧ PyData.depthAll ps ≤ m ∧ ((PyData.shownAll ps).map (·.length)).sum ≤ xs.length * n ∧ ps.length = xs.length
  | [], _ => ⟨[], rfl, by simp [PyData.showableAll], by simp [PyData.depthAll], by simp [PyData.shownAll], rfl⟩
  | x :: xs, h => by
    obtain ⟨p, h1, h2, h4, h5⟩ := h x List.mem_cons_self
    obtain ⟨ps, g1, g2, g4, g5, g6⟩ := sh_all fun y hy => h y (List.mem_cons_of_mem _ hy)
    refine ⟨p :: ps, ?_, ?_, ?_, ?_, by rw [List.length_cons, List.length_cons, g6]⟩
    · unfold toP.toPs; rw [h1, g1]
    · simp [PyData.showableAll, h2, g2]
    · simp only [PyData.depthAll]; omega
    · simp only [PyData.shownAll, List.map_cons, List.sum_cons, List.length_cons, Nat.add_mul, Nat.one_mul]; omega
theorem shownAll_len (ps : List PyData) : (PyData.shownAll ps).length = ps.length := by
  induction ps with
  | nil => simp [PyData.shownAll]
  | cons p ps ih => simp [PyData.shownAll, ih]
theorem Sh.tup {n m : Nat} {xs : List D} (h : ∀ x ∈ xs, Sh n m x) : Sh (xs.length * n + 2 * xs.length + 3) (m + 1) (.tup xs) := by
  obtain ⟨ps, g1, g2, g4, g5, g6⟩ := sh_all h
  refine ⟨.tuple ps, by unfold toP; rw [g1]; rfl, by simp [PyData.showable, g2], by simp [PyData.depth]; exact g4, ?_⟩
  have := tupleText_len_le (PyData.shownAll ps)
  rw [shownAll_len, g6] at this
  simp only [PyData.shown]
  omega
theorem Sh.lst {n m : Nat} {xs : List D} (h : ∀ x ∈ xs, Sh n m x) : Sh (xs.length * n + 2 * xs.length + 3) (m + 1) (.lst xs) := by
  obtain ⟨ps, g1, g2, g4, g5, g6⟩ := sh_all h
  refine ⟨.list ps, by unfold toP; rw [g1]; rfl, by simp [PyData.showable, g2], by simp [PyData.depth]; exact g4, ?_⟩
  have := listText_len_le (PyData.shownAll ps)
  rw [shownAll_len, g6] at this
  simp only [PyData.shown]
  omega
/-- what repr gives -/
def Rp (d : D) : Prop := ∃ x, ∀ S, b1D .repr d S = .ok (.str x) S
theorem Sh.rp {n m : Nat} {d : D} (h : Sh n m d) (hn : n ≤ 1000000) (hm : m ≤ 64) : Rp d := by
  obtain ⟨p, h1, h2, h4, h5⟩ := h
  have hs : showP p = true := by
    unfold showP
    simp only [h2, Bool.true_and, Bool.and_eq_true, decide_eq_true_eq]
    exact ⟨Nat.le_trans h4 hm, Nat.le_trans (Nat.le_trans h5 hn) line_big⟩
  refine ⟨p.shown, fun S => ?_⟩
  have hp : toPS d S = some p := by
    cases d with
    | ref n => unfold toP at h1; cases h1
    | _ => exact h1
  show reprD d S = _
  unfold reprD
  rw [hp]
  show (if showP p = true then _ else _) = _
  rw [if_pos hs]
theorem Sh.dic : Sh 2 1 (.dic [] []) := ⟨.dict [], rfl, by decide +kernel, by decide +kernel, by decide +kernel⟩
theorem rp_dic : Rp (.dic [] []) := Sh.dic.rp (by omega) (by omega)
theorem ev_rp {d : D} {x : Str} (h : ∀ S, b1D .repr d S = .ok (.str x) S) {Q : D → Store → Prop} {S : Store} : Rw (b1D .repr d S) Q ↔ Q (.str x) S := by rw [h S]; exact Rw_ok
end IL
namespace IL
open PySem PySem.Spec PyProof.Rows L2
/-- flat, and it shows -/
def okLeaf : D → Bool
  | .non => true
  | .bl _ => true
  | .int i => decide (i.natAbs < 10 ^ 570)
  | .str x => decide ((PyData.shown (.str x)).length ≤ 571)
  | .dic [] [] => true
  | _ => false
def okShow : D → Bool
  | .tup xs => xs.all okLeaf && decide (xs.length ≤ 1000)
  | .lst xs => xs.all okLeaf && decide (xs.length ≤ 1000)
  | d => okLeaf d
theorem okLeaf_sh {d : D} (h : okLeaf d = true) : Sh 571 1 d := by
  cases d with
  | non => exact Sh.non.mono (by omega) (by omega)
  | bl b => exact (Sh.bl b).mono (by omega) (by omega)
  | int i => exact (Sh.int (k := 570) (by omega) (by omega) (of_decide_eq_true h)).mono (by omega) (by omega)
  | str x => exact (Sh.str (of_decide_eq_true h)).mono (by omega) (by omega)
  | dic ks xs =>
    cases ks with
    | nil =>
      cases xs with
      | nil => exact Sh.dic.mono (by omega) (by omega)
      | cons _ _ => cases h
    | cons _ _ => cases xs <;> cases h
  | _ => cases h
theorem okShow_rp {d : D} (h : okShow d = true) : Rp d := by
  cases d with
  | tup xs =>
    have h : (xs.all okLeaf && decide (xs.length ≤ 1000)) = true := h
    rw [Bool.and_eq_true, decide_eq_true_eq] at h
    exact (Sh.tup (n := 571) (m := 1) fun x hx => okLeaf_sh (List.all_eq_true.mp h.1 x hx)).rp (by omega) (by omega)
  | lst xs =>
    have h : (xs.all okLeaf && decide (xs.length ≤ 1000)) = true := h
    rw [Bool.and_eq_true, decide_eq_true_eq] at h
    exact (Sh.lst (n := 571) (m := 1) fun x hx => okLeaf_sh (List.all_eq_true.mp h.1 x hx)).rp (by omega) (by omega)
  | dic ks xs => exact (okLeaf_sh (d := .dic ks xs) h).rp (by omega) (by omega)
  | ref n => cases h
  | non => exact (okLeaf_sh (d := .non) h).rp (by omega) (by omega)
  | bl b => exact (okLeaf_sh (d := .bl b) h).rp (by omega) (by omega)
  | int i => exact (okLeaf_sh (d := .int i) h).rp (by omega) (by omega)
  | str x => exact (okLeaf_sh (d := .str x) h).rp (by omega) (by omega)
end IL
/-! JF: slices, sums of tuples, walks by place. -/
namespace IL
open PySem PySem.Spec PyProof.Rows L2
section
variable {α : Type} {xs ys : List α} {i : Int}
theorem sIx_int {n d : Nat} (h0 : 0 ≤ i) (h1 : i ≤ n) : HT.sIx n d (some i) = i.toNat := by
  show (if i < 0 then (i + (n : Int)).toNat else min i.toNat n) = i.toNat
  rw [if_neg (by omega), Nat.min_eq_left (by omega)]
theorem cut_to (h0 : 0 ≤ i) (h1 : i ≤ xs.length) : cut xs none (some i) = xs.take i.toNat := by
  unfold cut
  rw [sIx_int h0 h1, HT.sIx_none, List.drop_zero, Nat.sub_zero]
theorem cut_from (h0 : 0 ≤ i) (h1 : i ≤ xs.length) : cut xs (some i) none = xs.drop i.toNat := by
  unfold cut
  rw [sIx_int h0 h1, HT.sIx_none]
  exact List.take_of_length_le (by rw [List.length_drop]; exact Nat.le_refl _)
end
section
variable {S : Store} {Q : D → Store → Prop} {xs ys : List D} {k : Int} {lo hi : Option Int}
theorem ev_addT (h : xs.length + ys.length ≤ 1000000) : Rw (binD .Add (.tup xs) (.tup ys) S) Q ↔ Q (.tup (xs ++ ys)) S := by
  show Rw (if xs.length + ys.length ≤ sizeLine then _ else _) Q ↔ _
  rw [if_pos (Nat.le_trans h line_big)]; exact Rw_ok
theorem ev_repT (h0 : xs ≠ []) (h1 : 2 ≤ k) (h2 : k ≤ 1000) (h3 : xs.length ≤ 1000) : Rw (binD .Mult (.tup xs) (.int k) S) Q ↔ Q (.tup (rep k.toNat xs)) S := by
  show Rw (if xs ≠ [] ∧ 2 ≤ k ∧ k ≤ 1000 ∧ xs.length ≤ 1000 then _ else _) Q ↔ _
  rw [if_pos ⟨h0, h1, h2, h3⟩]; exact Rw_ok
theorem ev_repL (h1 : 0 ≤ k) (h2 : k ≤ 1000) (h3 : xs.length ≤ 1000) : Rw (binD .Mult (.lst xs) (.int k) S) Q ↔ Q (.lst (rep k.toNat xs)) S := by
  show Rw (if -(2 ^ 63) ≤ k ∧ k < 2 ^ 63 ∧ xs.length * k.toNat ≤ sizeLine then _ else _) Q ↔ _
  have : xs.length * k.toNat ≤ 1000 * 1000 := Nat.mul_le_mul h3 (by omega)
  rw [if_pos ⟨by omega, by omega, Nat.le_trans this line_big⟩]; exact Rw_ok
theorem sl_t : slD (.tup xs) lo hi S = .ok (.tup (cut xs lo hi)) S := rfl
theorem sl_l : slD (.lst xs) lo hi S = .ok (.lst (cut xs lo hi)) S := rfl
theorem ev_tupL : Rw (b1D .tup (.lst xs) S) Q ↔ Q (.tup xs) S := Rw_ok
theorem ev_tupT : Rw (b1D .tup (.tup xs) S) Q ↔ Q (.tup xs) S := Rw_ok
theorem ev_lstL : Rw (b1D .lst (.lst xs) S) Q ↔ Q (.lst xs) S := Rw_ok
theorem ev_lstT : Rw (b1D .lst (.tup xs) S) Q ↔ Q (.lst xs) S := Rw_ok
theorem rep_mem {α : Type} {n : Nat} {xs : List α} {x : α} (h : x ∈ rep n xs) : x ∈ xs := by
  unfold rep at h
  rw [List.mem_flatten] at h
  obtain ⟨l, h1, h2⟩ := h
  rw [List.eq_of_mem_replicate h1] at h2
  exact h2
theorem rep_len {α : Type} (n : Nat) (xs : List α) : (rep n xs).length = n * xs.length := by
  unfold rep
  rw [List.length_flatten, List.map_replicate, List.sum_replicate_nat]
end
theorem rngOk_of {n : Int} (h0 : 0 ≤ n) (h1 : n ≤ 1000000) : rngOk 0 n := ⟨by omega, by omega, by omega, by omega⟩
theorem rngD_len (a b : Int) : (rngD a b).length = (b - a).toNat := by unfold rngD; rw [List.length_map, List.length_range]
end IL
namespace IL
open PySem PySem.Spec PyProof.Rows L2
theorem addT {S : Store} {xs ys : List D} (h : xs.length + ys.length ≤ 1000000) : binD .Add (.tup xs) (.tup ys) S = .ok (.tup (xs ++ ys)) S := by
  show (if xs.length + ys.length ≤ sizeLine then _ else _) = _
  rw [if_pos (Nat.le_trans h line_big)]
theorem repT {S : Store} {xs : List D} {k : Int} (h0 : xs ≠ []) (h1 : 2 ≤ k) (h2 : k ≤ 1000) (h3 : xs.length ≤ 1000) : binD .Mult (.tup xs) (.int k) S = .ok (.tup (rep k.toNat xs)) S := by
  show (if xs ≠ [] ∧ 2 ≤ k ∧ k ≤ 1000 ∧ xs.length ≤ 1000 then _ else _) = _
  rw [if_pos ⟨h0, h1, h2, h3⟩]
end IL
/-! JG: items that are tried; lists that are compared; cells that are popped from. -/
namespace IL
open PySem PySem.Spec PyProof.Rows L2
/-! ### what may be compared -/
def Lay (m : Nat) (d : D) : Prop := ∃ p, toP d = some p ∧ p.canLay0 = true ∧ p.depth ≤ m
theorem Lay.int {i : Int} : Lay 0 (.int i) := ⟨.int i, rfl, by simp [PyData.canLay0], by simp [PyData.depth]⟩
theorem Lay.mono {m m' : Nat} {d : D} (h : Lay m d) (hm : m ≤ m') : Lay m' d := by
  obtain ⟨p, h1, h2, h3⟩ := h
  exact ⟨p, h1, h2, Nat.le_trans h3 hm⟩
theorem lay_all {m : Nat} : ∀ {xs : List D}, (∀ x ∈ xs, Lay m x) → ∃ ps, toP.toPs xs = some ps ∧ PyData.canLayAll0 ps = true ∧ PyData.depthAll ps ≤ m ∧ ps.length = xs.length
  | [], _ => ⟨[], rfl, by simp [PyData.canLayAll0], by simp [PyData.depthAll], rfl⟩
  | x :: xs, h => by
    obtain ⟨p, h1, h2, h3⟩ := h x List.mem_cons_self
    obtain ⟨ps, g1, g2, g3, g4⟩ := lay_all fun y hy => h y (List.mem_cons_of_mem _ hy)
    refine ⟨p :: ps, ?_, by simp [PyData.canLayAll0, h2, g2], by simp only [PyData.depthAll]; omega, by rw [List.length_cons, List.length_cons, g4]⟩
    unfold toP.toPs; rw [h1, g1]
theorem Lay.tup {m : Nat} {xs : List D} (h : ∀ x ∈ xs, Lay m x) : Lay (m + 1) (.tup xs) := by
  obtain ⟨ps, g1, g2, g3, _⟩ := lay_all h
  exact ⟨.tuple ps, by unfold toP; rw [g1]; rfl, by simp [PyData.canLay0, g2], by simp only [PyData.depth]; omega⟩
theorem Lay.tup2 {i j : Int} : Lay 1 (.tup [.int i, .int j]) := Lay.tup fun x hx => by
  simp only [List.mem_cons, List.not_mem_nil, or_false] at hx
  rcases hx with rfl | rfl <;> exact Lay.int
theorem neC {S : Store} {n : Nat} {xs : List D} (h : S[n]? = some (.lst xs)) : cmpD .NotEq (.ref n) (.lst []) S = .ok (.bl (!decide (xs = []))) S := by
  show (match eqD (.ref n) (.lst []) S with | some c => R.ok (D.bl (!c)) S | none => .bad) = _
  rw [eqD_cell h]
theorem eqC {S : Store} {n : Nat} {xs : List D} (h : S[n]? = some (.lst xs)) : cmpD .Eq (.ref n) (.lst []) S = .ok (.bl (decide (xs = []))) S := by
  show (match eqD (.ref n) (.lst []) S with | some c => R.ok (D.bl c) S | none => .bad) = _
  rw [eqD_cell h]
theorem eqD_nilL {S : Store} {xs : List D} : eqD (.lst xs) (.lst []) S = some (decide (xs = [])) := eqD_empty (by
  unfold emptyD itemsD
  simp only [Option.map_some, isE])
theorem eqD_nilT {S : Store} {xs : List D} : eqD (.tup xs) (.tup []) S = some (decide (xs = [])) := eqD_empty (by
  unfold emptyD
  simp only [isE])
theorem neL {S : Store} {xs : List D} : cmpD .NotEq (.lst xs) (.lst []) S = .ok (.bl (!decide (xs = []))) S := by
  show (match eqD (.lst xs) (.lst []) S with | some c => R.ok (D.bl (!c)) S | none => .bad) = _
  rw [eqD_nilL]
theorem eqL {S : Store} {xs : List D} : cmpD .Eq (.lst xs) (.lst []) S = .ok (.bl (decide (xs = []))) S := by
  show (match eqD (.lst xs) (.lst []) S with | some c => R.ok (D.bl c) S | none => .bad) = _
  rw [eqD_nilL]
theorem neT {S : Store} {xs : List D} : cmpD .NotEq (.tup xs) (.tup []) S = .ok (.bl (!decide (xs = []))) S := by
  show (match eqD (.tup xs) (.tup []) S with | some c => R.ok (D.bl (!c)) S | none => .bad) = _
  rw [eqD_nilT]
theorem eqT {S : Store} {xs : List D} : cmpD .Eq (.tup xs) (.tup []) S = .ok (.bl (decide (xs = []))) S := by
  show (match eqD (.tup xs) (.tup []) S with | some c => R.ok (D.bl c) S | none => .bad) = _
  rw [eqD_nilT]
/-! ### cells -/
theorem lenC {S : Store} {n : Nat} {xs : List D} (h : S[n]? = some (.lst xs)) : b1D .len (.ref n) S = .ok (.int xs.length) S := by
  show lenD (.ref n) S = _
  unfold lenD itemsD
  simp only [h]
theorem popC {S : Store} {n : Nat} {xs : List D} {i : Int} (h : S[n]? = some (.lst xs)) (h0 : 0 ≤ i) (h1 : i < xs.length) (hl : xs.length ≤ 1000000) : popiD (.ref n) (.int i) S = .ok (xs[i.toNat]'(by omega)) (S.set n (.lst (xs.eraseIdx i.toNat))) := by
  have e : seqIndex? i xs.length = some i.toNat := (ixN_seq (n := xs.length) (i := i) (j := i.toNat) (by unfold ixN; rw [if_pos h0, if_pos h1])).1
  unfold popiD setCell
  simp only [h, e]
  rw [if_pos (by omega)]
  simp only [Option.bind_some, List.getElem?_eq_getElem (show i.toNat < xs.length by omega), Option.map_some]
  rw [if_pos]
  rw [List.length_eraseIdx]
  split
  · exact Nat.le_trans (by omega) line_big
  · exact Nat.le_trans hl line_big
theorem cut_from' {α : Type} {xs : List α} {i : Int} (h0 : 0 ≤ i) : cut xs (some i) none = xs.drop i.toNat := by
  by_cases h : i ≤ xs.length
  · exact cut_from h0 h
  · unfold cut
    have e : HT.sIx xs.length 0 (some i) = xs.length := by
      show (if i < 0 then (i + (xs.length : Int)).toNat else min i.toNat xs.length) = _
      rw [if_neg (by omega), Nat.min_eq_right (by omega)]
    rw [e, List.drop_length, List.take_nil, List.drop_eq_nil_of_le (by omega)]
/-! ### items that are tried -/
/-- no cell -/
def nr : D → Bool
  | .ref _ => false
  | _ => true
def isInt : D → Bool
  | .int _ => true
  | _ => false
theorem isInt_of {x : D} (h : isInt x = true) : ∃ i, x = .int i := by
  cases x <;> first | exact ⟨_, rfl⟩ | cases h
/-- no cell at two depths -/
def okV : D → Bool
  | .tup xs => xs.all nr
  | .ref _ => false
  | _ => true
structure Item (d : D) : Prop where
  ok : okV d = true
  sh : Sh 2000 2 d
  it : ∀ xs, d = .tup xs → (∀ x ∈ xs, okV x = true) ∧ xs.length ≤ 1000
theorem okLeaf_ok {d : D} (h : okLeaf d = true) : okV d = true := by
  cases d <;> first | rfl | cases h
theorem okLeaf_nr {d : D} (h : okLeaf d = true) : nr d = true := by
  cases d <;> first | rfl | cases h
/-- flat or of three flat ones at most -/
def okI : D → Bool
  | .tup xs => xs.all okLeaf && decide (xs.length ≤ 3)
  | .lst xs => xs.all okLeaf && decide (xs.length ≤ 3)
  | .ref _ => false
  | d => okLeaf d
theorem okI_item {d : D} (h : okI d = true) : Item d := by
  cases d with
  | tup xs =>
    have h : (xs.all okLeaf && decide (xs.length ≤ 3)) = true := h
    simp only [Bool.and_eq_true, decide_eq_true_eq] at h
    exact ⟨List.all_eq_true.mpr fun x hx => okLeaf_nr (List.all_eq_true.mp h.1 x hx), (Sh.tup (n := 571) (m := 1) fun x hx => okLeaf_sh (List.all_eq_true.mp h.1 x hx)).mono (by omega) (by omega), fun ys q => by cases q; exact ⟨fun x hx => okLeaf_ok (List.all_eq_true.mp h.1 x hx), by omega⟩⟩
  | lst xs =>
    have h : (xs.all okLeaf && decide (xs.length ≤ 3)) = true := h
    simp only [Bool.and_eq_true, decide_eq_true_eq] at h
    exact ⟨rfl, (Sh.lst (n := 571) (m := 1) fun x hx => okLeaf_sh (List.all_eq_true.mp h.1 x hx)).mono (by omega) (by omega), fun ys q => by cases q⟩
  | ref n => cases h
  | non => exact ⟨rfl, (okLeaf_sh (d := .non) h).mono (by omega) (by omega), fun ys q => by cases q⟩
  | bl b => exact ⟨rfl, (okLeaf_sh (d := .bl b) h).mono (by omega) (by omega), fun ys q => by cases q⟩
  | int i => exact ⟨rfl, (okLeaf_sh (d := .int i) h).mono (by omega) (by omega), fun ys q => by cases q⟩
  | str x => exact ⟨rfl, (okLeaf_sh (d := .str x) h).mono (by omega) (by omega), fun ys q => by cases q⟩
  | dic ks xs => exact ⟨rfl, (okLeaf_sh (d := .dic ks xs) h).mono (by omega) (by omega), fun ys q => by cases q⟩
theorem okLeaf_int {i : Int} (h : i.natAbs < 10 ^ 40) : okLeaf (.int i) = true := by
  have : (10 : Nat) ^ 40 ≤ 10 ^ 570 := Nat.pow_le_pow_right (by decide) (by decide)
  exact decide_eq_true (Nat.lt_of_lt_of_le h this)
theorem item2 {a b : D} (h1 : okLeaf a = true) (h2 : okLeaf b = true) : Item (.tup [a, b]) := okI_item (by
  show ([a, b].all okLeaf && decide (2 ≤ 3)) = true
  simp [h1, h2])
theorem Item.nr {d : D} (h : Item d) : nr d = true := by
  have := h.ok
  cases d <;> first | rfl | cases this
theorem okV_tup {xs : List D} (h : ∀ x ∈ xs, Item x) : okV (.tup xs) = true := List.all_eq_true.mpr fun x hx => (h x hx).nr
theorem rp_tup {xs : List D} {n m : Nat} (h : ∀ x ∈ xs, Sh n m x) (hl : xs.length * n + 2 * xs.length + 3 ≤ 1000000) (hm : m ≤ 60) : Rp (.tup xs) := (Sh.tup h).rp hl (by omega)
theorem rp_lst {xs : List D} {n m : Nat} (h : ∀ x ∈ xs, Sh n m x) (hl : xs.length * n + 2 * xs.length + 3 ≤ 1000000) (hm : m ≤ 60) : Rp (.lst xs) := (Sh.lst h).rp hl (by omega)
end IL
/-! JH: the first family: items in a drawn order, all mixes, drawn rows. -/
namespace IL
open PySem PySem.Spec PyProof.Rows L2
theorem sx_ext {G : Str → Option D} {cal : Cal} {v : Env} {S : Store} {E : En} {i : Nat} {e : IL.E} (h : Rw (den G cal e v S) fun d S1 => Ow (match v[i]?, d with
    | some (.own xs), .lst ys => if xs.length + ys.length ≤ sizeLine then .nx (v.set i (.own (xs ++ ys))) S1 else .bad
    | _, _ => .bad) E) : Ow (exec G cal (.ext i e) v S) E := by
  show Ow ((den G cal e v S).o fun d S1 => _) E
  rw [Ow_o]; exact h
end IL
namespace IL.A
open PySem PySem.Spec PyProof.Rows L2 IL
def b_mixed : S := (.sq (.par [(2, false), (3, true)] (.cs (.cell (.b1 .lst (.var 1))) (.cs (.lst .nl) .nl))) (.sq (.whl (.cmp .NotEq (.var 2) (.lst .nl)) (.sq (.app 3 (.popi (.var 2) (.call "_law_draw" (.cs (.var 0) (.cs (.b1 .len (.var 2)) .nl))))) .nop)) (.sq (.reto 3) .nop)))
def b_pairs : S := (.sq (.seto 1 (.lst .nl)) (.sq (.for_ (.var 2) (.rng1 (.var 0)) (.sq (.ext 1 (.comp (.tup (.cs (.var 2) (.cs (.var 3) .nl))) (.var 3) (.rng2 (.bin .Add (.var 2) (.int (1))) (.var 0)) .nl)) .nop)) (.sq (.reto 1) .nop)))
def b_row : S := (.sq (.asg (.var 3) (.call "_law_mixed" (.cs (.var 0) (.cs (.call "_law_pairs" (.cs (.var 1) .nl)) .nl)))) (.sq (.asg (.var 4) (.ife (.cmp .Eq (.call "_law_draw" (.cs (.var 0) (.cs (.int (3)) .nl))) (.int (0))) (.sl (.var 3) .nl (.cs (.bin .Add (.int (1)) (.call "_law_draw" (.cs (.var 0) (.cs (.b1 .len (.var 3)) .nl)))) .nl)) (.var 3))) (.sq (.ret (.b1 .tup (.comp (.call "_law_pick" (.cs (.var 0) (.cs (.var 4) .nl))) (.var 5) (.rng1 (.var 2)) .nl))) .nop)))

variable {G : Str → Option D} {T : Str → Option Fn}
theorem jar_lt {S : Store} {j f n : Nat} (h : Jar S j f n) : j < S.length ∧ f < S.length := by
  obtain ⟨_, fs, cs, sm, count, h1, h2, _⟩ := h
  exact ⟨(List.getElem?_eq_some_iff.mp h2).1, (List.getElem?_eq_some_iff.mp h1).1⟩
theorem jar_app {S : Store} {j f n : Nat} {c : Cell} (h : Jar S j f n) : Jar (S ++ [c]) j f n := by
  obtain ⟨l1, l2⟩ := jar_lt h
  obtain ⟨h0, fs, cs, sm, count, h1, h2, h3⟩ := h
  exact ⟨h0, fs, cs, sm, count, by rw [List.getElem?_append_left l2]; exact h1, by rw [List.getElem?_append_left l1]; exact h2, h3⟩
theorem jar_set {S : Store} {j f n m : Nat} {c : Cell} (h : Jar S j f n) (hj : m ≠ j) (hf : m ≠ f) : Jar (S.set m c) j f n := by
  obtain ⟨h0, fs, cs, sm, count, h1, h2, h3⟩ := h
  exact ⟨h0, fs, cs, sm, count, by rw [List.getElem?_set_ne hf]; exact h1, by rw [List.getElem?_set_ne hj]; exact h2, h3⟩
/-- what stood ahead stands, but the jar's cells -/
def Keep' (S S' : Store) (j f : Nat) : Prop := S.length ≤ S'.length ∧ ∀ m, m < S.length → m ≠ j → m ≠ f → S'[m]? = S[m]?
theorem Keep.up {S S' : Store} {j f : Nat} (h : Keep S S' j f) : Keep' S S' j f := ⟨by rw [h.1]; exact Nat.le_refl _, fun m _ h1 h2 => h.2 m h1 h2⟩
theorem Keep'.refl {S : Store} {j f : Nat} : Keep' S S j f := ⟨Nat.le_refl _, fun _ _ _ _ => rfl⟩
theorem Keep'.trans {S S1 S2 : Store} {j f : Nat} (a : Keep' S S1 j f) (b : Keep' S1 S2 j f) : Keep' S S2 j f := ⟨Nat.le_trans a.1 b.1, fun m h0 h1 h2 => (b.2 m (Nat.lt_of_lt_of_le h0 a.1) h1 h2).trans (a.2 m h0 h1 h2)⟩
theorem keep_app {S : Store} {j f : Nat} {c : Cell} : Keep' S (S ++ [c]) j f := ⟨by rw [List.length_append]; omega, fun m h _ _ => List.getElem?_append_left h⟩
theorem keep_set {S S' : Store} {j f m : Nat} {c : Cell} (h : Keep' S S' j f) (hm : S.length ≤ m) : Keep' S (S'.set m c) j f := ⟨by rw [List.length_set]; exact h.1, fun i h0 h1 h2 => by rw [List.getElem?_set_ne (by omega)]; exact h.2 i h0 h1 h2⟩
/-- items in a drawn order -/
theorem mixed (dT : T "_law_draw" = some ⟨2, 7, b_draw⟩) (hT : T "_law_mixed" = some ⟨2, 4, b_mixed⟩) {k : Nat} {S : Store} {j f m : Nat} (hJ0 : Jar S j f m) {xs : List D} (hm : m + xs.length < 1000000) (hl : xs.length ≤ 10000) :
    Rw (callF G T (k + 2) "_law_mixed" [.ref j, .lst xs] S) fun d S' => (∃ ys, d = .lst ys ∧ ys.length = xs.length ∧ ∀ y ∈ ys, y ∈ xs) ∧ Jar S' j f (m + xs.length) ∧ Keep' S S' j f := by
  refine Rw_call hT rfl ?_
  show Ow (exec G _ b_mixed [.val (.ref j), .val (.lst xs), .no, .no] S) _
  unfold b_mixed
  obtain ⟨lj, lf⟩ := jar_lt hJ0
  iterate 24 (try (first | with_reducible refine sx_sq ?_ | with_reducible refine sx_nop ?_ | with_reducible refine sx_asgV ?_ | with_reducible refine sx_asgG ?_ | with_reducible refine sx_par ?_ | with_reducible refine sx_setO ?_ | with_reducible refine sx_app ?_ | with_reducible refine sx_expr ?_ | with_reducible refine sx_ife ?_ | with_reducible refine sx_ret ?_ | with_reducible refine sx_reto ?_ | with_reducible refine sx_retn ?_ | with_reducible refine sx_frz ?_ | with_reducible refine sx_brk ?_ | with_reducible refine sx_cnt ?_ | with_reducible refine sx_pas ?_ | with_reducible refine sx_for ?_ | with_reducible refine sx_whl ?_ | with_reducible refine sx_ext ?_ | (simp (disch := first | omega | (simp only [List.length_cons, List.length_nil, List.length_append, List.length_map]; omega)) only [den, dens, tst, cnd, par, itr, asgS, asgSs, asgN, asgNs, ownIx, setPar, slotsOf, wipeE, Ow_o, Ow_thn, Rw_bind, Rw_ok, Rw_bad, Ow_nx, Ow_ret, Ow_brk, Ow_cnt, Ow_bad, List.getElem?_cons_zero, List.getElem?_cons_succ, List.set_cons_succ, List.set_cons_zero, List.getElem_cons_zero, List.getElem_cons_succ, List.length_cons, List.length_nil, List.map_cons, List.map_nil, List.cons_append, List.nil_append, ev_mulL, ev_mulR, ev_add, ev_sub, ev_mod, ev_div, ev_intI, ev_intB, ev_lenL, ev_lenT, ev_lt, ev_le, ev_gt, ev_ge, ev_eqI, ev_neI, ev_eqS, ev_neS, ev_bl, ev_truB, ix_t0, ix_t1, ix_t2, ix_l0, ix_l1, ix_l2, ev_ixL, ev_ixT, le_line, ev_all2, ev_addL, ev_neg, ev_b2max, ev_b2min, ev_shl, ev_pow, ev_abs, ev_isNon, onT_t, onT_f, onF_t, onF_f, ia_non, ia_bl, ia_int, ia_str, ia_tup, ia_lst, ia_dic, decide_eq_true_eq, decide_eq_false_iff_not, Bool.not_eq_true', Bool.not_eq_true, Bool.not_eq_false', Bool.not_true, Bool.not_false, Bool.false_eq_true, Bool.and_eq_true, Bool.or_eq_true, if_true, if_false, not_true_eq_false, not_false_eq_true, decide_true, decide_false, reduceCtorEq, or_false, or_true, false_or, true_or, and_self, and_true, true_and, and_false, false_and, Nat.zero_add, Nat.reduceAdd, Nat.reduceLeDiff, Nat.reduceLT, Nat.reduceEqDiff, Int.reduceToNat, Int.reduceEq, Int.reduceLT, Int.reduceLE, Int.reduceNe, Int.reduceNeg, Int.reduceAdd, Int.reduceSub, Int.reduceMul, Int.reduceMod, Int.reduceDiv, Int.reducePow, Nat.reducePow, Int.toNat_zero, Int.toNat_one, Int.ofNat_one, Int.ofNat_zero, litN, ite_true, ite_false, eq_self, ev_lstL, setPar])))
  refine Ow_while (fun n v S1 => ∃ left ys : List D, v = [.val (.ref j), .val (.lst xs), .val (.ref S.length), .own ys] ∧ left.length = n ∧ n + ys.length = xs.length ∧ S1[S.length]? = some (.lst left) ∧ (∀ y ∈ left, y ∈ xs) ∧ (∀ y ∈ ys, y ∈ xs) ∧ Jar S1 j f (m + ys.length) ∧ Keep' S S1 j f) ?_ xs.length _ _ ⟨xs, [], rfl, rfl, by simp, by rw [List.getElem?_append_right (Nat.le_refl _), Nat.sub_self]; rfl, fun y h => h, (fun y h => by cases h), jar_app hJ0, keep_app⟩
  rintro n v S1 ⟨left, ys, rfl, h1, h2, h3, h4, h5, hJ1, hK1⟩
  have hne := neC h3
  iterate 24 (try (first | with_reducible refine sx_sq ?_ | with_reducible refine sx_nop ?_ | with_reducible refine sx_asgV ?_ | with_reducible refine sx_asgG ?_ | with_reducible refine sx_par ?_ | with_reducible refine sx_setO ?_ | with_reducible refine sx_app ?_ | with_reducible refine sx_expr ?_ | with_reducible refine sx_ife ?_ | with_reducible refine sx_ret ?_ | with_reducible refine sx_reto ?_ | with_reducible refine sx_retn ?_ | with_reducible refine sx_frz ?_ | with_reducible refine sx_brk ?_ | with_reducible refine sx_cnt ?_ | with_reducible refine sx_pas ?_ | with_reducible refine sx_for ?_ | with_reducible refine sx_whl ?_ | with_reducible refine sx_ext ?_ | (simp (disch := first | omega | (simp only [List.length_cons, List.length_nil, List.length_append, List.length_map]; omega)) only [den, dens, tst, cnd, par, itr, asgS, asgSs, asgN, asgNs, ownIx, setPar, slotsOf, wipeE, Ow_o, Ow_thn, Rw_bind, Rw_ok, Rw_bad, Ow_nx, Ow_ret, Ow_brk, Ow_cnt, Ow_bad, List.getElem?_cons_zero, List.getElem?_cons_succ, List.set_cons_succ, List.set_cons_zero, List.getElem_cons_zero, List.getElem_cons_succ, List.length_cons, List.length_nil, List.map_cons, List.map_nil, List.cons_append, List.nil_append, ev_mulL, ev_mulR, ev_add, ev_sub, ev_mod, ev_div, ev_intI, ev_intB, ev_lenL, ev_lenT, ev_lt, ev_le, ev_gt, ev_ge, ev_eqI, ev_neI, ev_eqS, ev_neS, ev_bl, ev_truB, ix_t0, ix_t1, ix_t2, ix_l0, ix_l1, ix_l2, ev_ixL, ev_ixT, le_line, ev_all2, ev_addL, ev_neg, ev_b2max, ev_b2min, ev_shl, ev_pow, ev_abs, ev_isNon, onT_t, onT_f, onF_t, onF_f, ia_non, ia_bl, ia_int, ia_str, ia_tup, ia_lst, ia_dic, decide_eq_true_eq, decide_eq_false_iff_not, Bool.not_eq_true', Bool.not_eq_true, Bool.not_eq_false', Bool.not_true, Bool.not_false, Bool.false_eq_true, Bool.and_eq_true, Bool.or_eq_true, if_true, if_false, not_true_eq_false, not_false_eq_true, decide_true, decide_false, reduceCtorEq, or_false, or_true, false_or, true_or, and_self, and_true, true_and, and_false, false_and, Nat.zero_add, Nat.reduceAdd, Nat.reduceLeDiff, Nat.reduceLT, Nat.reduceEqDiff, Int.reduceToNat, Int.reduceEq, Int.reduceLT, Int.reduceLE, Int.reduceNe, Int.reduceNeg, Int.reduceAdd, Int.reduceSub, Int.reduceMul, Int.reduceMod, Int.reduceDiv, Int.reducePow, Nat.reducePow, Int.toNat_zero, Int.toNat_one, Int.ofNat_one, Int.ofNat_zero, litN, ite_true, ite_false, eq_self, hne])))
  refine if_p (fun hq => ?_) (fun hq => ?_)
  · have hpos : 0 < left.length := List.length_pos_iff.mpr hq
    have hL := lenC h3
    have hi := isLst_of h3
    iterate 24 (try (first | with_reducible refine sx_sq ?_ | with_reducible refine sx_nop ?_ | with_reducible refine sx_asgV ?_ | with_reducible refine sx_asgG ?_ | with_reducible refine sx_par ?_ | with_reducible refine sx_setO ?_ | with_reducible refine sx_app ?_ | with_reducible refine sx_expr ?_ | with_reducible refine sx_ife ?_ | with_reducible refine sx_ret ?_ | with_reducible refine sx_reto ?_ | with_reducible refine sx_retn ?_ | with_reducible refine sx_frz ?_ | with_reducible refine sx_brk ?_ | with_reducible refine sx_cnt ?_ | with_reducible refine sx_pas ?_ | with_reducible refine sx_for ?_ | with_reducible refine sx_whl ?_ | with_reducible refine sx_ext ?_ | (simp (disch := first | omega | (simp only [List.length_cons, List.length_nil, List.length_append, List.length_map]; omega)) only [den, dens, tst, cnd, par, itr, asgS, asgSs, asgN, asgNs, ownIx, setPar, slotsOf, wipeE, Ow_o, Ow_thn, Rw_bind, Rw_ok, Rw_bad, Ow_nx, Ow_ret, Ow_brk, Ow_cnt, Ow_bad, List.getElem?_cons_zero, List.getElem?_cons_succ, List.set_cons_succ, List.set_cons_zero, List.getElem_cons_zero, List.getElem_cons_succ, List.length_cons, List.length_nil, List.map_cons, List.map_nil, List.cons_append, List.nil_append, ev_mulL, ev_mulR, ev_add, ev_sub, ev_mod, ev_div, ev_intI, ev_intB, ev_lenL, ev_lenT, ev_lt, ev_le, ev_gt, ev_ge, ev_eqI, ev_neI, ev_eqS, ev_neS, ev_bl, ev_truB, ix_t0, ix_t1, ix_t2, ix_l0, ix_l1, ix_l2, ev_ixL, ev_ixT, le_line, ev_all2, ev_addL, ev_neg, ev_b2max, ev_b2min, ev_shl, ev_pow, ev_abs, ev_isNon, onT_t, onT_f, onF_t, onF_f, ia_non, ia_bl, ia_int, ia_str, ia_tup, ia_lst, ia_dic, decide_eq_true_eq, decide_eq_false_iff_not, Bool.not_eq_true', Bool.not_eq_true, Bool.not_eq_false', Bool.not_true, Bool.not_false, Bool.false_eq_true, Bool.and_eq_true, Bool.or_eq_true, if_true, if_false, not_true_eq_false, not_false_eq_true, decide_true, decide_false, reduceCtorEq, or_false, or_true, false_or, true_or, and_self, and_true, true_and, and_false, false_and, Nat.zero_add, Nat.reduceAdd, Nat.reduceLeDiff, Nat.reduceLT, Nat.reduceEqDiff, Int.reduceToNat, Int.reduceEq, Int.reduceLT, Int.reduceLE, Int.reduceNe, Int.reduceNeg, Int.reduceAdd, Int.reduceSub, Int.reduceMul, Int.reduceMod, Int.reduceDiv, Int.reducePow, Nat.reducePow, Int.toNat_zero, Int.toNat_one, Int.ofNat_one, Int.ofNat_zero, litN, ite_true, ite_false, eq_self, hL, hi])))
    refine Rw.mono (draw dT hJ1 (by omega) (by omega) (by omega)) ?_
    rintro d S2 ⟨i, rfl, i0, i1, hJ2, hK2⟩
    have h3' : S2[S.length]? = some (.lst left) := (hK2.2 _ (by omega) (by omega)).trans h3
    have hp := popC h3' i0 (by omega) (by omega)
    have hlt : ys.length < sizeLine := Nat.lt_of_lt_of_le (show ys.length < 1000000 by omega) line_big
    iterate 24 (try (first | with_reducible refine sx_sq ?_ | with_reducible refine sx_nop ?_ | with_reducible refine sx_asgV ?_ | with_reducible refine sx_asgG ?_ | with_reducible refine sx_par ?_ | with_reducible refine sx_setO ?_ | with_reducible refine sx_app ?_ | with_reducible refine sx_expr ?_ | with_reducible refine sx_ife ?_ | with_reducible refine sx_ret ?_ | with_reducible refine sx_reto ?_ | with_reducible refine sx_retn ?_ | with_reducible refine sx_frz ?_ | with_reducible refine sx_brk ?_ | with_reducible refine sx_cnt ?_ | with_reducible refine sx_pas ?_ | with_reducible refine sx_for ?_ | with_reducible refine sx_whl ?_ | with_reducible refine sx_ext ?_ | (simp (disch := first | omega | (simp only [List.length_cons, List.length_nil, List.length_append, List.length_map]; omega)) only [den, dens, tst, cnd, par, itr, asgS, asgSs, asgN, asgNs, ownIx, setPar, slotsOf, wipeE, Ow_o, Ow_thn, Rw_bind, Rw_ok, Rw_bad, Ow_nx, Ow_ret, Ow_brk, Ow_cnt, Ow_bad, List.getElem?_cons_zero, List.getElem?_cons_succ, List.set_cons_succ, List.set_cons_zero, List.getElem_cons_zero, List.getElem_cons_succ, List.length_cons, List.length_nil, List.map_cons, List.map_nil, List.cons_append, List.nil_append, ev_mulL, ev_mulR, ev_add, ev_sub, ev_mod, ev_div, ev_intI, ev_intB, ev_lenL, ev_lenT, ev_lt, ev_le, ev_gt, ev_ge, ev_eqI, ev_neI, ev_eqS, ev_neS, ev_bl, ev_truB, ix_t0, ix_t1, ix_t2, ix_l0, ix_l1, ix_l2, ev_ixL, ev_ixT, le_line, ev_all2, ev_addL, ev_neg, ev_b2max, ev_b2min, ev_shl, ev_pow, ev_abs, ev_isNon, onT_t, onT_f, onF_t, onF_f, ia_non, ia_bl, ia_int, ia_str, ia_tup, ia_lst, ia_dic, decide_eq_true_eq, decide_eq_false_iff_not, Bool.not_eq_true', Bool.not_eq_true, Bool.not_eq_false', Bool.not_true, Bool.not_false, Bool.false_eq_true, Bool.and_eq_true, Bool.or_eq_true, if_true, if_false, not_true_eq_false, not_false_eq_true, decide_true, decide_false, reduceCtorEq, or_false, or_true, false_or, true_or, and_self, and_true, true_and, and_false, false_and, Nat.zero_add, Nat.reduceAdd, Nat.reduceLeDiff, Nat.reduceLT, Nat.reduceEqDiff, Int.reduceToNat, Int.reduceEq, Int.reduceLT, Int.reduceLE, Int.reduceNe, Int.reduceNeg, Int.reduceAdd, Int.reduceSub, Int.reduceMul, Int.reduceMod, Int.reduceDiv, Int.reducePow, Nat.reducePow, Int.toNat_zero, Int.toNat_one, Int.ofNat_one, Int.ofNat_zero, litN, ite_true, ite_false, eq_self, hp, hlt])))
    refine ⟨left.length - 1, by omega, left.eraseIdx i.toNat, ys ++ [left[i.toNat]'(by omega)], rfl, ?_, ?_, ?_, fun y h => h4 y (List.mem_of_mem_eraseIdx h), fun y h => ?_, ?_, ?_⟩
    · rw [List.length_eraseIdx, if_pos (by omega)]
    · rw [List.length_append, List.length_singleton]; omega
    · exact set_here h3'
    · rcases List.mem_append.mp h with h | h
      · exact h5 y h
      · rw [List.mem_singleton.mp h]; exact h4 _ (List.getElem_mem _)
    · rw [List.length_append, List.length_singleton]
      exact jar_set (jar_grow hJ2 (by omega)) (by omega) (by omega)
    · exact keep_set (hK1.trans hK2.up) (Nat.le_refl _)
  · have hq : left = [] := by simpa using hq
    subst hq
    iterate 24 (try (first | with_reducible refine sx_sq ?_ | with_reducible refine sx_nop ?_ | with_reducible refine sx_asgV ?_ | with_reducible refine sx_asgG ?_ | with_reducible refine sx_par ?_ | with_reducible refine sx_setO ?_ | with_reducible refine sx_app ?_ | with_reducible refine sx_expr ?_ | with_reducible refine sx_ife ?_ | with_reducible refine sx_ret ?_ | with_reducible refine sx_reto ?_ | with_reducible refine sx_retn ?_ | with_reducible refine sx_frz ?_ | with_reducible refine sx_brk ?_ | with_reducible refine sx_cnt ?_ | with_reducible refine sx_pas ?_ | with_reducible refine sx_for ?_ | with_reducible refine sx_whl ?_ | with_reducible refine sx_ext ?_ | (simp (disch := first | omega | (simp only [List.length_cons, List.length_nil, List.length_append, List.length_map]; omega)) only [den, dens, tst, cnd, par, itr, asgS, asgSs, asgN, asgNs, ownIx, setPar, slotsOf, wipeE, Ow_o, Ow_thn, Rw_bind, Rw_ok, Rw_bad, Ow_nx, Ow_ret, Ow_brk, Ow_cnt, Ow_bad, List.getElem?_cons_zero, List.getElem?_cons_succ, List.set_cons_succ, List.set_cons_zero, List.getElem_cons_zero, List.getElem_cons_succ, List.length_cons, List.length_nil, List.map_cons, List.map_nil, List.cons_append, List.nil_append, ev_mulL, ev_mulR, ev_add, ev_sub, ev_mod, ev_div, ev_intI, ev_intB, ev_lenL, ev_lenT, ev_lt, ev_le, ev_gt, ev_ge, ev_eqI, ev_neI, ev_eqS, ev_neS, ev_bl, ev_truB, ix_t0, ix_t1, ix_t2, ix_l0, ix_l1, ix_l2, ev_ixL, ev_ixT, le_line, ev_all2, ev_addL, ev_neg, ev_b2max, ev_b2min, ev_shl, ev_pow, ev_abs, ev_isNon, onT_t, onT_f, onF_t, onF_f, ia_non, ia_bl, ia_int, ia_str, ia_tup, ia_lst, ia_dic, decide_eq_true_eq, decide_eq_false_iff_not, Bool.not_eq_true', Bool.not_eq_true, Bool.not_eq_false', Bool.not_true, Bool.not_false, Bool.false_eq_true, Bool.and_eq_true, Bool.or_eq_true, if_true, if_false, not_true_eq_false, not_false_eq_true, decide_true, decide_false, reduceCtorEq, or_false, or_true, false_or, true_or, and_self, and_true, true_and, and_false, false_and, Nat.zero_add, Nat.reduceAdd, Nat.reduceLeDiff, Nat.reduceLT, Nat.reduceEqDiff, Int.reduceToNat, Int.reduceEq, Int.reduceLT, Int.reduceLE, Int.reduceNe, Int.reduceNeg, Int.reduceAdd, Int.reduceSub, Int.reduceMul, Int.reduceMod, Int.reduceDiv, Int.reducePow, Nat.reducePow, Int.toNat_zero, Int.toNat_one, Int.ofNat_one, Int.ofNat_zero, litN, ite_true, ite_false, eq_self])))
    have : ys.length = xs.length := by simp at h1; omega
    exact ⟨⟨ys, rfl, this, h5⟩, by rw [← this]; exact hJ1, hK1⟩
/-- a mix of n drops -/
def IsMix (n : Int) (d : D) : Prop := ∃ i j : Int, d = .tup [.int i, .int j] ∧ 0 ≤ i ∧ i < j ∧ j < n
theorem pairs (hT : T "_law_pairs" = some ⟨1, 4, b_pairs⟩) {k : Nat} {S : Store} {n : Int} (h0 : 0 ≤ n) (h1 : n ≤ 16) :
    Rw (callF G T (k + 1) "_law_pairs" [.int n] S) fun d S' => (∃ xs, d = .lst xs ∧ xs.length ≤ 256 ∧ (2 ≤ n → xs ≠ []) ∧ ∀ x ∈ xs, IsMix n x) ∧ S' = S := by
  refine Rw_call hT rfl ?_
  show Ow (exec G _ b_pairs [.val (.int n), .no, .no, .no] S) _
  unfold b_pairs
  iterate 24 (try (first | with_reducible refine sx_sq ?_ | with_reducible refine sx_nop ?_ | with_reducible refine sx_asgV ?_ | with_reducible refine sx_asgG ?_ | with_reducible refine sx_par ?_ | with_reducible refine sx_setO ?_ | with_reducible refine sx_app ?_ | with_reducible refine sx_expr ?_ | with_reducible refine sx_ife ?_ | with_reducible refine sx_ret ?_ | with_reducible refine sx_reto ?_ | with_reducible refine sx_retn ?_ | with_reducible refine sx_frz ?_ | with_reducible refine sx_brk ?_ | with_reducible refine sx_cnt ?_ | with_reducible refine sx_pas ?_ | with_reducible refine sx_for ?_ | with_reducible refine sx_whl ?_ | with_reducible refine sx_ext ?_ | (simp (disch := first | omega | (simp only [List.length_cons, List.length_nil, List.length_append, List.length_map]; omega)) only [den, dens, tst, cnd, par, itr, asgS, asgSs, asgN, asgNs, ownIx, setPar, slotsOf, wipeE, Ow_o, Ow_thn, Rw_bind, Rw_ok, Rw_bad, Ow_nx, Ow_ret, Ow_brk, Ow_cnt, Ow_bad, List.getElem?_cons_zero, List.getElem?_cons_succ, List.set_cons_succ, List.set_cons_zero, List.getElem_cons_zero, List.getElem_cons_succ, List.length_cons, List.length_nil, List.map_cons, List.map_nil, List.cons_append, List.nil_append, ev_mulL, ev_mulR, ev_add, ev_sub, ev_mod, ev_div, ev_intI, ev_intB, ev_lenL, ev_lenT, ev_lt, ev_le, ev_gt, ev_ge, ev_eqI, ev_neI, ev_eqS, ev_neS, ev_bl, ev_truB, ix_t0, ix_t1, ix_t2, ix_l0, ix_l1, ix_l2, ev_ixL, ev_ixT, le_line, ev_all2, ev_addL, ev_neg, ev_b2max, ev_b2min, ev_shl, ev_pow, ev_abs, ev_isNon, onT_t, onT_f, onF_t, onF_f, ia_non, ia_bl, ia_int, ia_str, ia_tup, ia_lst, ia_dic, decide_eq_true_eq, decide_eq_false_iff_not, Bool.not_eq_true', Bool.not_eq_true, Bool.not_eq_false', Bool.not_true, Bool.not_false, Bool.false_eq_true, Bool.and_eq_true, Bool.or_eq_true, if_true, if_false, not_true_eq_false, not_false_eq_true, decide_true, decide_false, reduceCtorEq, or_false, or_true, false_or, true_or, and_self, and_true, true_and, and_false, false_and, Nat.zero_add, Nat.reduceAdd, Nat.reduceLeDiff, Nat.reduceLT, Nat.reduceEqDiff, Int.reduceToNat, Int.reduceEq, Int.reduceLT, Int.reduceLE, Int.reduceNe, Int.reduceNeg, Int.reduceAdd, Int.reduceSub, Int.reduceMul, Int.reduceMod, Int.reduceDiv, Int.reducePow, Nat.reducePow, Int.toNat_zero, Int.toNat_one, Int.ofNat_one, Int.ofNat_zero, litN, ite_true, ite_false, eq_self])))
  refine Rw_req (rngOk_of (by omega) (by omega)) ?_
  iterate 24 (try (first | with_reducible refine sx_sq ?_ | with_reducible refine sx_nop ?_ | with_reducible refine sx_asgV ?_ | with_reducible refine sx_asgG ?_ | with_reducible refine sx_par ?_ | with_reducible refine sx_setO ?_ | with_reducible refine sx_app ?_ | with_reducible refine sx_expr ?_ | with_reducible refine sx_ife ?_ | with_reducible refine sx_ret ?_ | with_reducible refine sx_reto ?_ | with_reducible refine sx_retn ?_ | with_reducible refine sx_frz ?_ | with_reducible refine sx_brk ?_ | with_reducible refine sx_cnt ?_ | with_reducible refine sx_pas ?_ | with_reducible refine sx_for ?_ | with_reducible refine sx_whl ?_ | with_reducible refine sx_ext ?_ | (simp (disch := first | omega | (simp only [List.length_cons, List.length_nil, List.length_append, List.length_map]; omega)) only [den, dens, tst, cnd, par, itr, asgS, asgSs, asgN, asgNs, ownIx, setPar, slotsOf, wipeE, Ow_o, Ow_thn, Rw_bind, Rw_ok, Rw_bad, Ow_nx, Ow_ret, Ow_brk, Ow_cnt, Ow_bad, List.getElem?_cons_zero, List.getElem?_cons_succ, List.set_cons_succ, List.set_cons_zero, List.getElem_cons_zero, List.getElem_cons_succ, List.length_cons, List.length_nil, List.map_cons, List.map_nil, List.cons_append, List.nil_append, ev_mulL, ev_mulR, ev_add, ev_sub, ev_mod, ev_div, ev_intI, ev_intB, ev_lenL, ev_lenT, ev_lt, ev_le, ev_gt, ev_ge, ev_eqI, ev_neI, ev_eqS, ev_neS, ev_bl, ev_truB, ix_t0, ix_t1, ix_t2, ix_l0, ix_l1, ix_l2, ev_ixL, ev_ixT, le_line, ev_all2, ev_addL, ev_neg, ev_b2max, ev_b2min, ev_shl, ev_pow, ev_abs, ev_isNon, onT_t, onT_f, onF_t, onF_f, ia_non, ia_bl, ia_int, ia_str, ia_tup, ia_lst, ia_dic, decide_eq_true_eq, decide_eq_false_iff_not, Bool.not_eq_true', Bool.not_eq_true, Bool.not_eq_false', Bool.not_true, Bool.not_false, Bool.false_eq_true, Bool.and_eq_true, Bool.or_eq_true, if_true, if_false, not_true_eq_false, not_false_eq_true, decide_true, decide_false, reduceCtorEq, or_false, or_true, false_or, true_or, and_self, and_true, true_and, and_false, false_and, Nat.zero_add, Nat.reduceAdd, Nat.reduceLeDiff, Nat.reduceLT, Nat.reduceEqDiff, Int.reduceToNat, Int.reduceEq, Int.reduceLT, Int.reduceLE, Int.reduceNe, Int.reduceNeg, Int.reduceAdd, Int.reduceSub, Int.reduceMul, Int.reduceMod, Int.reduceDiv, Int.reducePow, Nat.reducePow, Int.toNat_zero, Int.toNat_one, Int.ofNat_one, Int.ofNat_zero, litN, ite_true, ite_false, eq_self])))
  refine Ow_for (fun a v S1 => ∃ (xs : List D) (s2 s3 : Slot), v = [.val (.int n), .own xs, s2, s3] ∧ xs.length ≤ 16 * a ∧ (2 ≤ n → 0 < a → xs ≠ []) ∧ (∀ x ∈ xs, IsMix n x) ∧ S1 = S) ⟨[], _, _, rfl, by simp, fun _ h => absurd h (by omega), (fun x h => by cases h), rfl⟩ ?_ ?_
  · rintro a d v S1 hd ⟨xs, s2, s3, rfl, g1, g2, g3, rfl⟩
    obtain ⟨ha, rfl⟩ := rngD_get hd
    iterate 24 (try (first | with_reducible refine sx_sq ?_ | with_reducible refine sx_nop ?_ | with_reducible refine sx_asgV ?_ | with_reducible refine sx_asgG ?_ | with_reducible refine sx_par ?_ | with_reducible refine sx_setO ?_ | with_reducible refine sx_app ?_ | with_reducible refine sx_expr ?_ | with_reducible refine sx_ife ?_ | with_reducible refine sx_ret ?_ | with_reducible refine sx_reto ?_ | with_reducible refine sx_retn ?_ | with_reducible refine sx_frz ?_ | with_reducible refine sx_brk ?_ | with_reducible refine sx_cnt ?_ | with_reducible refine sx_pas ?_ | with_reducible refine sx_for ?_ | with_reducible refine sx_whl ?_ | with_reducible refine sx_ext ?_ | (simp (disch := first | omega | (simp only [List.length_cons, List.length_nil, List.length_append, List.length_map]; omega)) only [den, dens, tst, cnd, par, itr, asgS, asgSs, asgN, asgNs, ownIx, setPar, slotsOf, wipeE, Ow_o, Ow_thn, Rw_bind, Rw_ok, Rw_bad, Ow_nx, Ow_ret, Ow_brk, Ow_cnt, Ow_bad, List.getElem?_cons_zero, List.getElem?_cons_succ, List.set_cons_succ, List.set_cons_zero, List.getElem_cons_zero, List.getElem_cons_succ, List.length_cons, List.length_nil, List.map_cons, List.map_nil, List.cons_append, List.nil_append, ev_mulL, ev_mulR, ev_add, ev_sub, ev_mod, ev_div, ev_intI, ev_intB, ev_lenL, ev_lenT, ev_lt, ev_le, ev_gt, ev_ge, ev_eqI, ev_neI, ev_eqS, ev_neS, ev_bl, ev_truB, ix_t0, ix_t1, ix_t2, ix_l0, ix_l1, ix_l2, ev_ixL, ev_ixT, le_line, ev_all2, ev_addL, ev_neg, ev_b2max, ev_b2min, ev_shl, ev_pow, ev_abs, ev_isNon, onT_t, onT_f, onF_t, onF_f, ia_non, ia_bl, ia_int, ia_str, ia_tup, ia_lst, ia_dic, decide_eq_true_eq, decide_eq_false_iff_not, Bool.not_eq_true', Bool.not_eq_true, Bool.not_eq_false', Bool.not_true, Bool.not_false, Bool.false_eq_true, Bool.and_eq_true, Bool.or_eq_true, if_true, if_false, not_true_eq_false, not_false_eq_true, decide_true, decide_false, reduceCtorEq, or_false, or_true, false_or, true_or, and_self, and_true, true_and, and_false, false_and, Nat.zero_add, Nat.reduceAdd, Nat.reduceLeDiff, Nat.reduceLT, Nat.reduceEqDiff, Int.reduceToNat, Int.reduceEq, Int.reduceLT, Int.reduceLE, Int.reduceNe, Int.reduceNeg, Int.reduceAdd, Int.reduceSub, Int.reduceMul, Int.reduceMod, Int.reduceDiv, Int.reducePow, Nat.reducePow, Int.toNat_zero, Int.toNat_one, Int.ofNat_one, Int.ofNat_zero, litN, ite_true, ite_false, eq_self])))
    refine Rw_req (show rngOk (0 + (a : Int) + 1) n from ⟨by omega, by omega, by omega, by omega⟩) ?_
    iterate 24 (try (first | with_reducible refine sx_sq ?_ | with_reducible refine sx_nop ?_ | with_reducible refine sx_asgV ?_ | with_reducible refine sx_asgG ?_ | with_reducible refine sx_par ?_ | with_reducible refine sx_setO ?_ | with_reducible refine sx_app ?_ | with_reducible refine sx_expr ?_ | with_reducible refine sx_ife ?_ | with_reducible refine sx_ret ?_ | with_reducible refine sx_reto ?_ | with_reducible refine sx_retn ?_ | with_reducible refine sx_frz ?_ | with_reducible refine sx_brk ?_ | with_reducible refine sx_cnt ?_ | with_reducible refine sx_pas ?_ | with_reducible refine sx_for ?_ | with_reducible refine sx_whl ?_ | with_reducible refine sx_ext ?_ | (simp (disch := first | omega | (simp only [List.length_cons, List.length_nil, List.length_append, List.length_map]; omega)) only [den, dens, tst, cnd, par, itr, asgS, asgSs, asgN, asgNs, ownIx, setPar, slotsOf, wipeE, Ow_o, Ow_thn, Rw_bind, Rw_ok, Rw_bad, Ow_nx, Ow_ret, Ow_brk, Ow_cnt, Ow_bad, List.getElem?_cons_zero, List.getElem?_cons_succ, List.set_cons_succ, List.set_cons_zero, List.getElem_cons_zero, List.getElem_cons_succ, List.length_cons, List.length_nil, List.map_cons, List.map_nil, List.cons_append, List.nil_append, ev_mulL, ev_mulR, ev_add, ev_sub, ev_mod, ev_div, ev_intI, ev_intB, ev_lenL, ev_lenT, ev_lt, ev_le, ev_gt, ev_ge, ev_eqI, ev_neI, ev_eqS, ev_neS, ev_bl, ev_truB, ix_t0, ix_t1, ix_t2, ix_l0, ix_l1, ix_l2, ev_ixL, ev_ixT, le_line, ev_all2, ev_addL, ev_neg, ev_b2max, ev_b2min, ev_shl, ev_pow, ev_abs, ev_isNon, onT_t, onT_f, onF_t, onF_f, ia_non, ia_bl, ia_int, ia_str, ia_tup, ia_lst, ia_dic, decide_eq_true_eq, decide_eq_false_iff_not, Bool.not_eq_true', Bool.not_eq_true, Bool.not_eq_false', Bool.not_true, Bool.not_false, Bool.false_eq_true, Bool.and_eq_true, Bool.or_eq_true, if_true, if_false, not_true_eq_false, not_false_eq_true, decide_true, decide_false, reduceCtorEq, or_false, or_true, false_or, true_or, and_self, and_true, true_and, and_false, false_and, Nat.zero_add, Nat.reduceAdd, Nat.reduceLeDiff, Nat.reduceLT, Nat.reduceEqDiff, Int.reduceToNat, Int.reduceEq, Int.reduceLT, Int.reduceLE, Int.reduceNe, Int.reduceNeg, Int.reduceAdd, Int.reduceSub, Int.reduceMul, Int.reduceMod, Int.reduceDiv, Int.reducePow, Nat.reducePow, Int.toNat_zero, Int.toNat_one, Int.ofNat_one, Int.ofNat_zero, litN, ite_true, ite_false, eq_self])))
    refine Rw_comp (fun b acc S2 => acc.length = b ∧ (∀ x ∈ acc, IsMix n x) ∧ S2 = S1) ⟨rfl, (fun x h => by cases h), rfl⟩ ?_ ?_
    · rintro b d acc S2 hd2 ⟨e1, e2, rfl⟩
      obtain ⟨hb, rfl⟩ := rngD_get hd2
      iterate 24 (try (first | with_reducible refine sx_sq ?_ | with_reducible refine sx_nop ?_ | with_reducible refine sx_asgV ?_ | with_reducible refine sx_asgG ?_ | with_reducible refine sx_par ?_ | with_reducible refine sx_setO ?_ | with_reducible refine sx_app ?_ | with_reducible refine sx_expr ?_ | with_reducible refine sx_ife ?_ | with_reducible refine sx_ret ?_ | with_reducible refine sx_reto ?_ | with_reducible refine sx_retn ?_ | with_reducible refine sx_frz ?_ | with_reducible refine sx_brk ?_ | with_reducible refine sx_cnt ?_ | with_reducible refine sx_pas ?_ | with_reducible refine sx_for ?_ | with_reducible refine sx_whl ?_ | with_reducible refine sx_ext ?_ | (simp (disch := first | omega | (simp only [List.length_cons, List.length_nil, List.length_append, List.length_map]; omega)) only [den, dens, tst, cnd, par, itr, asgS, asgSs, asgN, asgNs, ownIx, setPar, slotsOf, wipeE, Ow_o, Ow_thn, Rw_bind, Rw_ok, Rw_bad, Ow_nx, Ow_ret, Ow_brk, Ow_cnt, Ow_bad, List.getElem?_cons_zero, List.getElem?_cons_succ, List.set_cons_succ, List.set_cons_zero, List.getElem_cons_zero, List.getElem_cons_succ, List.length_cons, List.length_nil, List.map_cons, List.map_nil, List.cons_append, List.nil_append, ev_mulL, ev_mulR, ev_add, ev_sub, ev_mod, ev_div, ev_intI, ev_intB, ev_lenL, ev_lenT, ev_lt, ev_le, ev_gt, ev_ge, ev_eqI, ev_neI, ev_eqS, ev_neS, ev_bl, ev_truB, ix_t0, ix_t1, ix_t2, ix_l0, ix_l1, ix_l2, ev_ixL, ev_ixT, le_line, ev_all2, ev_addL, ev_neg, ev_b2max, ev_b2min, ev_shl, ev_pow, ev_abs, ev_isNon, onT_t, onT_f, onF_t, onF_f, ia_non, ia_bl, ia_int, ia_str, ia_tup, ia_lst, ia_dic, decide_eq_true_eq, decide_eq_false_iff_not, Bool.not_eq_true', Bool.not_eq_true, Bool.not_eq_false', Bool.not_true, Bool.not_false, Bool.false_eq_true, Bool.and_eq_true, Bool.or_eq_true, if_true, if_false, not_true_eq_false, not_false_eq_true, decide_true, decide_false, reduceCtorEq, or_false, or_true, false_or, true_or, and_self, and_true, true_and, and_false, false_and, Nat.zero_add, Nat.reduceAdd, Nat.reduceLeDiff, Nat.reduceLT, Nat.reduceEqDiff, Int.reduceToNat, Int.reduceEq, Int.reduceLT, Int.reduceLE, Int.reduceNe, Int.reduceNeg, Int.reduceAdd, Int.reduceSub, Int.reduceMul, Int.reduceMod, Int.reduceDiv, Int.reducePow, Nat.reducePow, Int.toNat_zero, Int.toNat_one, Int.ofNat_one, Int.ofNat_zero, litN, ite_true, ite_false, eq_self])))
      refine ⟨by simp [e1], fun x hx => ?_⟩
      rcases List.mem_append.mp hx with hx | hx
      · exact e2 x hx
      · rw [List.mem_singleton.mp hx]; exact ⟨_, _, rfl, by omega, by omega, by omega⟩
    · rintro acc S2 ⟨e1, e2, rfl⟩
      rw [rngD_len] at e1
      refine ⟨Nat.le_trans (by omega) line_big, ?_⟩
      have e : (xs ++ acc).length ≤ sizeLine := Nat.le_trans (by rw [List.length_append]; omega) line_big
      have e' : xs.length + acc.length ≤ sizeLine := by rw [List.length_append] at e; exact e
      iterate 24 (try (first | with_reducible refine sx_sq ?_ | with_reducible refine sx_nop ?_ | with_reducible refine sx_asgV ?_ | with_reducible refine sx_asgG ?_ | with_reducible refine sx_par ?_ | with_reducible refine sx_setO ?_ | with_reducible refine sx_app ?_ | with_reducible refine sx_expr ?_ | with_reducible refine sx_ife ?_ | with_reducible refine sx_ret ?_ | with_reducible refine sx_reto ?_ | with_reducible refine sx_retn ?_ | with_reducible refine sx_frz ?_ | with_reducible refine sx_brk ?_ | with_reducible refine sx_cnt ?_ | with_reducible refine sx_pas ?_ | with_reducible refine sx_for ?_ | with_reducible refine sx_whl ?_ | with_reducible refine sx_ext ?_ | (simp (disch := first | omega | (simp only [List.length_cons, List.length_nil, List.length_append, List.length_map]; omega)) only [den, dens, tst, cnd, par, itr, asgS, asgSs, asgN, asgNs, ownIx, setPar, slotsOf, wipeE, Ow_o, Ow_thn, Rw_bind, Rw_ok, Rw_bad, Ow_nx, Ow_ret, Ow_brk, Ow_cnt, Ow_bad, List.getElem?_cons_zero, List.getElem?_cons_succ, List.set_cons_succ, List.set_cons_zero, List.getElem_cons_zero, List.getElem_cons_succ, List.length_cons, List.length_nil, List.map_cons, List.map_nil, List.cons_append, List.nil_append, ev_mulL, ev_mulR, ev_add, ev_sub, ev_mod, ev_div, ev_intI, ev_intB, ev_lenL, ev_lenT, ev_lt, ev_le, ev_gt, ev_ge, ev_eqI, ev_neI, ev_eqS, ev_neS, ev_bl, ev_truB, ix_t0, ix_t1, ix_t2, ix_l0, ix_l1, ix_l2, ev_ixL, ev_ixT, le_line, ev_all2, ev_addL, ev_neg, ev_b2max, ev_b2min, ev_shl, ev_pow, ev_abs, ev_isNon, onT_t, onT_f, onF_t, onF_f, ia_non, ia_bl, ia_int, ia_str, ia_tup, ia_lst, ia_dic, decide_eq_true_eq, decide_eq_false_iff_not, Bool.not_eq_true', Bool.not_eq_true, Bool.not_eq_false', Bool.not_true, Bool.not_false, Bool.false_eq_true, Bool.and_eq_true, Bool.or_eq_true, if_true, if_false, not_true_eq_false, not_false_eq_true, decide_true, decide_false, reduceCtorEq, or_false, or_true, false_or, true_or, and_self, and_true, true_and, and_false, false_and, Nat.zero_add, Nat.reduceAdd, Nat.reduceLeDiff, Nat.reduceLT, Nat.reduceEqDiff, Int.reduceToNat, Int.reduceEq, Int.reduceLT, Int.reduceLE, Int.reduceNe, Int.reduceNeg, Int.reduceAdd, Int.reduceSub, Int.reduceMul, Int.reduceMod, Int.reduceDiv, Int.reducePow, Nat.reducePow, Int.toNat_zero, Int.toNat_one, Int.ofNat_one, Int.ofNat_zero, litN, ite_true, ite_false, eq_self, e, e'])))
      refine ⟨_, _, _, rfl, by rw [List.length_append]; omega, fun h2 _ q => ?_, fun x hx => ?_⟩
      · have q' := List.append_eq_nil_iff.mp q
        rcases Nat.eq_zero_or_pos a with rfl | ha0
        · rw [q'.2, List.length_nil] at e1
          omega
        · exact g2 h2 ha0 q'.1
      · rcases List.mem_append.mp hx with hx | hx
        · exact g3 x hx
        · exact e2 x hx
  · rintro v S1 ⟨xs, s2, s3, rfl, g1, g2, g3, rfl⟩
    have hr : (rngD 0 n).length = n.toNat := by rw [rngD_len, Int.sub_zero]
    rw [hr] at g1 g2
    iterate 24 (try (first | with_reducible refine sx_sq ?_ | with_reducible refine sx_nop ?_ | with_reducible refine sx_asgV ?_ | with_reducible refine sx_asgG ?_ | with_reducible refine sx_par ?_ | with_reducible refine sx_setO ?_ | with_reducible refine sx_app ?_ | with_reducible refine sx_expr ?_ | with_reducible refine sx_ife ?_ | with_reducible refine sx_ret ?_ | with_reducible refine sx_reto ?_ | with_reducible refine sx_retn ?_ | with_reducible refine sx_frz ?_ | with_reducible refine sx_brk ?_ | with_reducible refine sx_cnt ?_ | with_reducible refine sx_pas ?_ | with_reducible refine sx_for ?_ | with_reducible refine sx_whl ?_ | with_reducible refine sx_ext ?_ | (simp (disch := first | omega | (simp only [List.length_cons, List.length_nil, List.length_append, List.length_map]; omega)) only [den, dens, tst, cnd, par, itr, asgS, asgSs, asgN, asgNs, ownIx, setPar, slotsOf, wipeE, Ow_o, Ow_thn, Rw_bind, Rw_ok, Rw_bad, Ow_nx, Ow_ret, Ow_brk, Ow_cnt, Ow_bad, List.getElem?_cons_zero, List.getElem?_cons_succ, List.set_cons_succ, List.set_cons_zero, List.getElem_cons_zero, List.getElem_cons_succ, List.length_cons, List.length_nil, List.map_cons, List.map_nil, List.cons_append, List.nil_append, ev_mulL, ev_mulR, ev_add, ev_sub, ev_mod, ev_div, ev_intI, ev_intB, ev_lenL, ev_lenT, ev_lt, ev_le, ev_gt, ev_ge, ev_eqI, ev_neI, ev_eqS, ev_neS, ev_bl, ev_truB, ix_t0, ix_t1, ix_t2, ix_l0, ix_l1, ix_l2, ev_ixL, ev_ixT, le_line, ev_all2, ev_addL, ev_neg, ev_b2max, ev_b2min, ev_shl, ev_pow, ev_abs, ev_isNon, onT_t, onT_f, onF_t, onF_f, ia_non, ia_bl, ia_int, ia_str, ia_tup, ia_lst, ia_dic, decide_eq_true_eq, decide_eq_false_iff_not, Bool.not_eq_true', Bool.not_eq_true, Bool.not_eq_false', Bool.not_true, Bool.not_false, Bool.false_eq_true, Bool.and_eq_true, Bool.or_eq_true, if_true, if_false, not_true_eq_false, not_false_eq_true, decide_true, decide_false, reduceCtorEq, or_false, or_true, false_or, true_or, and_self, and_true, true_and, and_false, false_and, Nat.zero_add, Nat.reduceAdd, Nat.reduceLeDiff, Nat.reduceLT, Nat.reduceEqDiff, Int.reduceToNat, Int.reduceEq, Int.reduceLT, Int.reduceLE, Int.reduceNe, Int.reduceNeg, Int.reduceAdd, Int.reduceSub, Int.reduceMul, Int.reduceMod, Int.reduceDiv, Int.reducePow, Nat.reducePow, Int.toNat_zero, Int.toNat_one, Int.ofNat_one, Int.ofNat_zero, litN, ite_true, ite_false, eq_self])))
    exact ⟨_, rfl, by omega, fun h => g2 h (by omega), g3⟩
theorem IsMix.lay {n : Int} {d : D} (h : IsMix n d) : Lay 1 d := by
  obtain ⟨i, j, rfl, _⟩ := h
  exact Lay.tup2
theorem row (dT : T "_law_draw" = some ⟨2, 7, b_draw⟩) (pT : T "_law_pick" = some ⟨2, 2, b_pick⟩) (hM : T "_law_mixed" = some ⟨2, 4, b_mixed⟩) (hP : T "_law_pairs" = some ⟨1, 4, b_pairs⟩) (hT : T "_law_row" = some ⟨3, 6, b_row⟩)
    {k : Nat} {S : Store} {j f m : Nat} {n many : Int} (hJ0 : Jar S j f m) (h0 : 2 ≤ n) (h1 : n ≤ 16) (g0 : 0 ≤ many) (g1 : many ≤ 10000) (hm : m < 900000) :
    Rw (callF G T (k + 3) "_law_row" [.ref j, .int n, .int many] S) fun d S' => (∃ xs, d = .tup xs ∧ xs.length = many.toNat ∧ ∀ x ∈ xs, IsMix n x) ∧ Jar S' j f (m + 300 + many.toNat) ∧ Keep' S S' j f := by
  refine Rw_call hT rfl ?_
  show Ow (exec G _ b_row [.val (.ref j), .val (.int n), .val (.int many), .no, .no, .no] S) _
  unfold b_row
  iterate 24 (try (first | with_reducible refine sx_sq ?_ | with_reducible refine sx_nop ?_ | with_reducible refine sx_asgV ?_ | with_reducible refine sx_asgG ?_ | with_reducible refine sx_par ?_ | with_reducible refine sx_setO ?_ | with_reducible refine sx_app ?_ | with_reducible refine sx_expr ?_ | with_reducible refine sx_ife ?_ | with_reducible refine sx_ret ?_ | with_reducible refine sx_reto ?_ | with_reducible refine sx_retn ?_ | with_reducible refine sx_frz ?_ | with_reducible refine sx_brk ?_ | with_reducible refine sx_cnt ?_ | with_reducible refine sx_pas ?_ | with_reducible refine sx_for ?_ | with_reducible refine sx_whl ?_ | with_reducible refine sx_ext ?_ | (simp (disch := first | omega | (simp only [List.length_cons, List.length_nil, List.length_append, List.length_map]; omega)) only [den, dens, tst, cnd, par, itr, asgS, asgSs, asgN, asgNs, ownIx, setPar, slotsOf, wipeE, Ow_o, Ow_thn, Rw_bind, Rw_ok, Rw_bad, Ow_nx, Ow_ret, Ow_brk, Ow_cnt, Ow_bad, List.getElem?_cons_zero, List.getElem?_cons_succ, List.set_cons_succ, List.set_cons_zero, List.getElem_cons_zero, List.getElem_cons_succ, List.length_cons, List.length_nil, List.map_cons, List.map_nil, List.cons_append, List.nil_append, ev_mulL, ev_mulR, ev_add, ev_sub, ev_mod, ev_div, ev_intI, ev_intB, ev_lenL, ev_lenT, ev_lt, ev_le, ev_gt, ev_ge, ev_eqI, ev_neI, ev_eqS, ev_neS, ev_bl, ev_truB, ix_t0, ix_t1, ix_t2, ix_l0, ix_l1, ix_l2, ev_ixL, ev_ixT, le_line, ev_all2, ev_addL, ev_neg, ev_b2max, ev_b2min, ev_shl, ev_pow, ev_abs, ev_isNon, onT_t, onT_f, onF_t, onF_f, ia_non, ia_bl, ia_int, ia_str, ia_tup, ia_lst, ia_dic, decide_eq_true_eq, decide_eq_false_iff_not, Bool.not_eq_true', Bool.not_eq_true, Bool.not_eq_false', Bool.not_true, Bool.not_false, Bool.false_eq_true, Bool.and_eq_true, Bool.or_eq_true, if_true, if_false, not_true_eq_false, not_false_eq_true, decide_true, decide_false, reduceCtorEq, or_false, or_true, false_or, true_or, and_self, and_true, true_and, and_false, false_and, Nat.zero_add, Nat.reduceAdd, Nat.reduceLeDiff, Nat.reduceLT, Nat.reduceEqDiff, Int.reduceToNat, Int.reduceEq, Int.reduceLT, Int.reduceLE, Int.reduceNe, Int.reduceNeg, Int.reduceAdd, Int.reduceSub, Int.reduceMul, Int.reduceMod, Int.reduceDiv, Int.reducePow, Nat.reducePow, Int.toNat_zero, Int.toNat_one, Int.ofNat_one, Int.ofNat_zero, litN, ite_true, ite_false, eq_self])))
  refine Rw.mono (pairs (k := k + 1) hP (by omega) h1) ?_
  rintro d S0 ⟨⟨xs, rfl, x1, x2, x3⟩, rfl⟩
  have x2 := x2 h0
  iterate 24 (try (first | with_reducible refine sx_sq ?_ | with_reducible refine sx_nop ?_ | with_reducible refine sx_asgV ?_ | with_reducible refine sx_asgG ?_ | with_reducible refine sx_par ?_ | with_reducible refine sx_setO ?_ | with_reducible refine sx_app ?_ | with_reducible refine sx_expr ?_ | with_reducible refine sx_ife ?_ | with_reducible refine sx_ret ?_ | with_reducible refine sx_reto ?_ | with_reducible refine sx_retn ?_ | with_reducible refine sx_frz ?_ | with_reducible refine sx_brk ?_ | with_reducible refine sx_cnt ?_ | with_reducible refine sx_pas ?_ | with_reducible refine sx_for ?_ | with_reducible refine sx_whl ?_ | with_reducible refine sx_ext ?_ | (simp (disch := first | omega | (simp only [List.length_cons, List.length_nil, List.length_append, List.length_map]; omega)) only [den, dens, tst, cnd, par, itr, asgS, asgSs, asgN, asgNs, ownIx, setPar, slotsOf, wipeE, Ow_o, Ow_thn, Rw_bind, Rw_ok, Rw_bad, Ow_nx, Ow_ret, Ow_brk, Ow_cnt, Ow_bad, List.getElem?_cons_zero, List.getElem?_cons_succ, List.set_cons_succ, List.set_cons_zero, List.getElem_cons_zero, List.getElem_cons_succ, List.length_cons, List.length_nil, List.map_cons, List.map_nil, List.cons_append, List.nil_append, ev_mulL, ev_mulR, ev_add, ev_sub, ev_mod, ev_div, ev_intI, ev_intB, ev_lenL, ev_lenT, ev_lt, ev_le, ev_gt, ev_ge, ev_eqI, ev_neI, ev_eqS, ev_neS, ev_bl, ev_truB, ix_t0, ix_t1, ix_t2, ix_l0, ix_l1, ix_l2, ev_ixL, ev_ixT, le_line, ev_all2, ev_addL, ev_neg, ev_b2max, ev_b2min, ev_shl, ev_pow, ev_abs, ev_isNon, onT_t, onT_f, onF_t, onF_f, ia_non, ia_bl, ia_int, ia_str, ia_tup, ia_lst, ia_dic, decide_eq_true_eq, decide_eq_false_iff_not, Bool.not_eq_true', Bool.not_eq_true, Bool.not_eq_false', Bool.not_true, Bool.not_false, Bool.false_eq_true, Bool.and_eq_true, Bool.or_eq_true, if_true, if_false, not_true_eq_false, not_false_eq_true, decide_true, decide_false, reduceCtorEq, or_false, or_true, false_or, true_or, and_self, and_true, true_and, and_false, false_and, Nat.zero_add, Nat.reduceAdd, Nat.reduceLeDiff, Nat.reduceLT, Nat.reduceEqDiff, Int.reduceToNat, Int.reduceEq, Int.reduceLT, Int.reduceLE, Int.reduceNe, Int.reduceNeg, Int.reduceAdd, Int.reduceSub, Int.reduceMul, Int.reduceMod, Int.reduceDiv, Int.reducePow, Nat.reducePow, Int.toNat_zero, Int.toNat_one, Int.ofNat_one, Int.ofNat_zero, litN, ite_true, ite_false, eq_self])))
  refine Rw.mono (mixed (k := k) dT hM hJ0 (by omega) (by omega)) ?_
  rintro d S1 ⟨⟨ys, rfl, y1, y2⟩, hJ1, hK1⟩
  have hys : ys ≠ [] := fun q => x2 (by rw [q] at y1; exact List.length_eq_zero_iff.mp y1.symm)
  have hyl : 0 < ys.length := List.length_pos_iff.mpr hys
  iterate 24 (try (first | with_reducible refine sx_sq ?_ | with_reducible refine sx_nop ?_ | with_reducible refine sx_asgV ?_ | with_reducible refine sx_asgG ?_ | with_reducible refine sx_par ?_ | with_reducible refine sx_setO ?_ | with_reducible refine sx_app ?_ | with_reducible refine sx_expr ?_ | with_reducible refine sx_ife ?_ | with_reducible refine sx_ret ?_ | with_reducible refine sx_reto ?_ | with_reducible refine sx_retn ?_ | with_reducible refine sx_frz ?_ | with_reducible refine sx_brk ?_ | with_reducible refine sx_cnt ?_ | with_reducible refine sx_pas ?_ | with_reducible refine sx_for ?_ | with_reducible refine sx_whl ?_ | with_reducible refine sx_ext ?_ | (simp (disch := first | omega | (simp only [List.length_cons, List.length_nil, List.length_append, List.length_map]; omega)) only [den, dens, tst, cnd, par, itr, asgS, asgSs, asgN, asgNs, ownIx, setPar, slotsOf, wipeE, Ow_o, Ow_thn, Rw_bind, Rw_ok, Rw_bad, Ow_nx, Ow_ret, Ow_brk, Ow_cnt, Ow_bad, List.getElem?_cons_zero, List.getElem?_cons_succ, List.set_cons_succ, List.set_cons_zero, List.getElem_cons_zero, List.getElem_cons_succ, List.length_cons, List.length_nil, List.map_cons, List.map_nil, List.cons_append, List.nil_append, ev_mulL, ev_mulR, ev_add, ev_sub, ev_mod, ev_div, ev_intI, ev_intB, ev_lenL, ev_lenT, ev_lt, ev_le, ev_gt, ev_ge, ev_eqI, ev_neI, ev_eqS, ev_neS, ev_bl, ev_truB, ix_t0, ix_t1, ix_t2, ix_l0, ix_l1, ix_l2, ev_ixL, ev_ixT, le_line, ev_all2, ev_addL, ev_neg, ev_b2max, ev_b2min, ev_shl, ev_pow, ev_abs, ev_isNon, onT_t, onT_f, onF_t, onF_f, ia_non, ia_bl, ia_int, ia_str, ia_tup, ia_lst, ia_dic, decide_eq_true_eq, decide_eq_false_iff_not, Bool.not_eq_true', Bool.not_eq_true, Bool.not_eq_false', Bool.not_true, Bool.not_false, Bool.false_eq_true, Bool.and_eq_true, Bool.or_eq_true, if_true, if_false, not_true_eq_false, not_false_eq_true, decide_true, decide_false, reduceCtorEq, or_false, or_true, false_or, true_or, and_self, and_true, true_and, and_false, false_and, Nat.zero_add, Nat.reduceAdd, Nat.reduceLeDiff, Nat.reduceLT, Nat.reduceEqDiff, Int.reduceToNat, Int.reduceEq, Int.reduceLT, Int.reduceLE, Int.reduceNe, Int.reduceNeg, Int.reduceAdd, Int.reduceSub, Int.reduceMul, Int.reduceMod, Int.reduceDiv, Int.reducePow, Nat.reducePow, Int.toNat_zero, Int.toNat_one, Int.ofNat_one, Int.ofNat_zero, litN, ite_true, ite_false, eq_self])))
  refine Rw.mono (draw dT hJ1 (by omega) (by omega) (by omega)) ?_
  rintro d S2 ⟨i2, rfl, p2, q2, hJ2, hK2⟩
  iterate 24 (try (first | with_reducible refine sx_sq ?_ | with_reducible refine sx_nop ?_ | with_reducible refine sx_asgV ?_ | with_reducible refine sx_asgG ?_ | with_reducible refine sx_par ?_ | with_reducible refine sx_setO ?_ | with_reducible refine sx_app ?_ | with_reducible refine sx_expr ?_ | with_reducible refine sx_ife ?_ | with_reducible refine sx_ret ?_ | with_reducible refine sx_reto ?_ | with_reducible refine sx_retn ?_ | with_reducible refine sx_frz ?_ | with_reducible refine sx_brk ?_ | with_reducible refine sx_cnt ?_ | with_reducible refine sx_pas ?_ | with_reducible refine sx_for ?_ | with_reducible refine sx_whl ?_ | with_reducible refine sx_ext ?_ | (simp (disch := first | omega | (simp only [List.length_cons, List.length_nil, List.length_append, List.length_map]; omega)) only [den, dens, tst, cnd, par, itr, asgS, asgSs, asgN, asgNs, ownIx, setPar, slotsOf, wipeE, Ow_o, Ow_thn, Rw_bind, Rw_ok, Rw_bad, Ow_nx, Ow_ret, Ow_brk, Ow_cnt, Ow_bad, List.getElem?_cons_zero, List.getElem?_cons_succ, List.set_cons_succ, List.set_cons_zero, List.getElem_cons_zero, List.getElem_cons_succ, List.length_cons, List.length_nil, List.map_cons, List.map_nil, List.cons_append, List.nil_append, ev_mulL, ev_mulR, ev_add, ev_sub, ev_mod, ev_div, ev_intI, ev_intB, ev_lenL, ev_lenT, ev_lt, ev_le, ev_gt, ev_ge, ev_eqI, ev_neI, ev_eqS, ev_neS, ev_bl, ev_truB, ix_t0, ix_t1, ix_t2, ix_l0, ix_l1, ix_l2, ev_ixL, ev_ixT, le_line, ev_all2, ev_addL, ev_neg, ev_b2max, ev_b2min, ev_shl, ev_pow, ev_abs, ev_isNon, onT_t, onT_f, onF_t, onF_f, ia_non, ia_bl, ia_int, ia_str, ia_tup, ia_lst, ia_dic, decide_eq_true_eq, decide_eq_false_iff_not, Bool.not_eq_true', Bool.not_eq_true, Bool.not_eq_false', Bool.not_true, Bool.not_false, Bool.false_eq_true, Bool.and_eq_true, Bool.or_eq_true, if_true, if_false, not_true_eq_false, not_false_eq_true, decide_true, decide_false, reduceCtorEq, or_false, or_true, false_or, true_or, and_self, and_true, true_and, and_false, false_and, Nat.zero_add, Nat.reduceAdd, Nat.reduceLeDiff, Nat.reduceLT, Nat.reduceEqDiff, Int.reduceToNat, Int.reduceEq, Int.reduceLT, Int.reduceLE, Int.reduceNe, Int.reduceNeg, Int.reduceAdd, Int.reduceSub, Int.reduceMul, Int.reduceMod, Int.reduceDiv, Int.reducePow, Nat.reducePow, Int.toNat_zero, Int.toNat_one, Int.ofNat_one, Int.ofNat_zero, litN, ite_true, ite_false, eq_self])))
  refine Rw.mono (Q1 := fun d S' => (∃ zs, d = .lst zs ∧ zs ≠ [] ∧ zs.length ≤ 256 ∧ ∀ z ∈ zs, IsMix n z) ∧ Jar S' j f (m + xs.length + 2) ∧ Keep' S0 S' j f) (Rw_if (fun _ => ?_) (fun _ => ?_)) ?_
  · iterate 24 (try (first | with_reducible refine sx_sq ?_ | with_reducible refine sx_nop ?_ | with_reducible refine sx_asgV ?_ | with_reducible refine sx_asgG ?_ | with_reducible refine sx_par ?_ | with_reducible refine sx_setO ?_ | with_reducible refine sx_app ?_ | with_reducible refine sx_expr ?_ | with_reducible refine sx_ife ?_ | with_reducible refine sx_ret ?_ | with_reducible refine sx_reto ?_ | with_reducible refine sx_retn ?_ | with_reducible refine sx_frz ?_ | with_reducible refine sx_brk ?_ | with_reducible refine sx_cnt ?_ | with_reducible refine sx_pas ?_ | with_reducible refine sx_for ?_ | with_reducible refine sx_whl ?_ | with_reducible refine sx_ext ?_ | (simp (disch := first | omega | (simp only [List.length_cons, List.length_nil, List.length_append, List.length_map]; omega)) only [den, dens, tst, cnd, par, itr, asgS, asgSs, asgN, asgNs, ownIx, setPar, slotsOf, wipeE, Ow_o, Ow_thn, Rw_bind, Rw_ok, Rw_bad, Ow_nx, Ow_ret, Ow_brk, Ow_cnt, Ow_bad, List.getElem?_cons_zero, List.getElem?_cons_succ, List.set_cons_succ, List.set_cons_zero, List.getElem_cons_zero, List.getElem_cons_succ, List.length_cons, List.length_nil, List.map_cons, List.map_nil, List.cons_append, List.nil_append, ev_mulL, ev_mulR, ev_add, ev_sub, ev_mod, ev_div, ev_intI, ev_intB, ev_lenL, ev_lenT, ev_lt, ev_le, ev_gt, ev_ge, ev_eqI, ev_neI, ev_eqS, ev_neS, ev_bl, ev_truB, ix_t0, ix_t1, ix_t2, ix_l0, ix_l1, ix_l2, ev_ixL, ev_ixT, le_line, ev_all2, ev_addL, ev_neg, ev_b2max, ev_b2min, ev_shl, ev_pow, ev_abs, ev_isNon, onT_t, onT_f, onF_t, onF_f, ia_non, ia_bl, ia_int, ia_str, ia_tup, ia_lst, ia_dic, decide_eq_true_eq, decide_eq_false_iff_not, Bool.not_eq_true', Bool.not_eq_true, Bool.not_eq_false', Bool.not_true, Bool.not_false, Bool.false_eq_true, Bool.and_eq_true, Bool.or_eq_true, if_true, if_false, not_true_eq_false, not_false_eq_true, decide_true, decide_false, reduceCtorEq, or_false, or_true, false_or, true_or, and_self, and_true, true_and, and_false, false_and, Nat.zero_add, Nat.reduceAdd, Nat.reduceLeDiff, Nat.reduceLT, Nat.reduceEqDiff, Int.reduceToNat, Int.reduceEq, Int.reduceLT, Int.reduceLE, Int.reduceNe, Int.reduceNeg, Int.reduceAdd, Int.reduceSub, Int.reduceMul, Int.reduceMod, Int.reduceDiv, Int.reducePow, Nat.reducePow, Int.toNat_zero, Int.toNat_one, Int.ofNat_one, Int.ofNat_zero, litN, ite_true, ite_false, eq_self])))
    refine Rw.mono (draw dT hJ2 (by omega) (by omega) (by omega)) ?_
    rintro d S3 ⟨i3, rfl, p3, q3, hJ3, hK3⟩
    have c1 : cut ys none (some (1 + i3)) = ys.take (1 + i3).toNat := cut_to (by omega) (by omega)
    iterate 24 (try (first | with_reducible refine sx_sq ?_ | with_reducible refine sx_nop ?_ | with_reducible refine sx_asgV ?_ | with_reducible refine sx_asgG ?_ | with_reducible refine sx_par ?_ | with_reducible refine sx_setO ?_ | with_reducible refine sx_app ?_ | with_reducible refine sx_expr ?_ | with_reducible refine sx_ife ?_ | with_reducible refine sx_ret ?_ | with_reducible refine sx_reto ?_ | with_reducible refine sx_retn ?_ | with_reducible refine sx_frz ?_ | with_reducible refine sx_brk ?_ | with_reducible refine sx_cnt ?_ | with_reducible refine sx_pas ?_ | with_reducible refine sx_for ?_ | with_reducible refine sx_whl ?_ | with_reducible refine sx_ext ?_ | (simp (disch := first | omega | (simp only [List.length_cons, List.length_nil, List.length_append, List.length_map]; omega)) only [den, dens, tst, cnd, par, itr, asgS, asgSs, asgN, asgNs, ownIx, setPar, slotsOf, wipeE, Ow_o, Ow_thn, Rw_bind, Rw_ok, Rw_bad, Ow_nx, Ow_ret, Ow_brk, Ow_cnt, Ow_bad, List.getElem?_cons_zero, List.getElem?_cons_succ, List.set_cons_succ, List.set_cons_zero, List.getElem_cons_zero, List.getElem_cons_succ, List.length_cons, List.length_nil, List.map_cons, List.map_nil, List.cons_append, List.nil_append, ev_mulL, ev_mulR, ev_add, ev_sub, ev_mod, ev_div, ev_intI, ev_intB, ev_lenL, ev_lenT, ev_lt, ev_le, ev_gt, ev_ge, ev_eqI, ev_neI, ev_eqS, ev_neS, ev_bl, ev_truB, ix_t0, ix_t1, ix_t2, ix_l0, ix_l1, ix_l2, ev_ixL, ev_ixT, le_line, ev_all2, ev_addL, ev_neg, ev_b2max, ev_b2min, ev_shl, ev_pow, ev_abs, ev_isNon, onT_t, onT_f, onF_t, onF_f, ia_non, ia_bl, ia_int, ia_str, ia_tup, ia_lst, ia_dic, decide_eq_true_eq, decide_eq_false_iff_not, Bool.not_eq_true', Bool.not_eq_true, Bool.not_eq_false', Bool.not_true, Bool.not_false, Bool.false_eq_true, Bool.and_eq_true, Bool.or_eq_true, if_true, if_false, not_true_eq_false, not_false_eq_true, decide_true, decide_false, reduceCtorEq, or_false, or_true, false_or, true_or, and_self, and_true, true_and, and_false, false_and, Nat.zero_add, Nat.reduceAdd, Nat.reduceLeDiff, Nat.reduceLT, Nat.reduceEqDiff, Int.reduceToNat, Int.reduceEq, Int.reduceLT, Int.reduceLE, Int.reduceNe, Int.reduceNeg, Int.reduceAdd, Int.reduceSub, Int.reduceMul, Int.reduceMod, Int.reduceDiv, Int.reducePow, Nat.reducePow, Int.toNat_zero, Int.toNat_one, Int.ofNat_one, Int.ofNat_zero, litN, ite_true, ite_false, eq_self, sl_l, c1])))
    refine ⟨⟨_, rfl, fun q => ?_, by rw [List.length_take]; omega, fun z hz => x3 z (y2 z (List.mem_of_mem_take hz))⟩, hJ3, (hK1.trans hK2.up).trans hK3.up⟩
    have := congrArg List.length q
    rw [List.length_take, List.length_nil] at this
    omega
  · iterate 24 (try (first | with_reducible refine sx_sq ?_ | with_reducible refine sx_nop ?_ | with_reducible refine sx_asgV ?_ | with_reducible refine sx_asgG ?_ | with_reducible refine sx_par ?_ | with_reducible refine sx_setO ?_ | with_reducible refine sx_app ?_ | with_reducible refine sx_expr ?_ | with_reducible refine sx_ife ?_ | with_reducible refine sx_ret ?_ | with_reducible refine sx_reto ?_ | with_reducible refine sx_retn ?_ | with_reducible refine sx_frz ?_ | with_reducible refine sx_brk ?_ | with_reducible refine sx_cnt ?_ | with_reducible refine sx_pas ?_ | with_reducible refine sx_for ?_ | with_reducible refine sx_whl ?_ | with_reducible refine sx_ext ?_ | (simp (disch := first | omega | (simp only [List.length_cons, List.length_nil, List.length_append, List.length_map]; omega)) only [den, dens, tst, cnd, par, itr, asgS, asgSs, asgN, asgNs, ownIx, setPar, slotsOf, wipeE, Ow_o, Ow_thn, Rw_bind, Rw_ok, Rw_bad, Ow_nx, Ow_ret, Ow_brk, Ow_cnt, Ow_bad, List.getElem?_cons_zero, List.getElem?_cons_succ, List.set_cons_succ, List.set_cons_zero, List.getElem_cons_zero, List.getElem_cons_succ, List.length_cons, List.length_nil, List.map_cons, List.map_nil, List.cons_append, List.nil_append, ev_mulL, ev_mulR, ev_add, ev_sub, ev_mod, ev_div, ev_intI, ev_intB, ev_lenL, ev_lenT, ev_lt, ev_le, ev_gt, ev_ge, ev_eqI, ev_neI, ev_eqS, ev_neS, ev_bl, ev_truB, ix_t0, ix_t1, ix_t2, ix_l0, ix_l1, ix_l2, ev_ixL, ev_ixT, le_line, ev_all2, ev_addL, ev_neg, ev_b2max, ev_b2min, ev_shl, ev_pow, ev_abs, ev_isNon, onT_t, onT_f, onF_t, onF_f, ia_non, ia_bl, ia_int, ia_str, ia_tup, ia_lst, ia_dic, decide_eq_true_eq, decide_eq_false_iff_not, Bool.not_eq_true', Bool.not_eq_true, Bool.not_eq_false', Bool.not_true, Bool.not_false, Bool.false_eq_true, Bool.and_eq_true, Bool.or_eq_true, if_true, if_false, not_true_eq_false, not_false_eq_true, decide_true, decide_false, reduceCtorEq, or_false, or_true, false_or, true_or, and_self, and_true, true_and, and_false, false_and, Nat.zero_add, Nat.reduceAdd, Nat.reduceLeDiff, Nat.reduceLT, Nat.reduceEqDiff, Int.reduceToNat, Int.reduceEq, Int.reduceLT, Int.reduceLE, Int.reduceNe, Int.reduceNeg, Int.reduceAdd, Int.reduceSub, Int.reduceMul, Int.reduceMod, Int.reduceDiv, Int.reducePow, Nat.reducePow, Int.toNat_zero, Int.toNat_one, Int.ofNat_one, Int.ofNat_zero, litN, ite_true, ite_false, eq_self])))
    exact ⟨⟨_, rfl, hys, by omega, fun z hz => x3 z (y2 z hz)⟩, jar_grow hJ2 (by omega), hK1.trans hK2.up⟩
  rintro d S3 ⟨⟨zs, rfl, z1, z2, z3⟩, hJ3, hK3⟩
  iterate 24 (try (first | with_reducible refine sx_sq ?_ | with_reducible refine sx_nop ?_ | with_reducible refine sx_asgV ?_ | with_reducible refine sx_asgG ?_ | with_reducible refine sx_par ?_ | with_reducible refine sx_setO ?_ | with_reducible refine sx_app ?_ | with_reducible refine sx_expr ?_ | with_reducible refine sx_ife ?_ | with_reducible refine sx_ret ?_ | with_reducible refine sx_reto ?_ | with_reducible refine sx_retn ?_ | with_reducible refine sx_frz ?_ | with_reducible refine sx_brk ?_ | with_reducible refine sx_cnt ?_ | with_reducible refine sx_pas ?_ | with_reducible refine sx_for ?_ | with_reducible refine sx_whl ?_ | with_reducible refine sx_ext ?_ | (simp (disch := first | omega | (simp only [List.length_cons, List.length_nil, List.length_append, List.length_map]; omega)) only [den, dens, tst, cnd, par, itr, asgS, asgSs, asgN, asgNs, ownIx, setPar, slotsOf, wipeE, Ow_o, Ow_thn, Rw_bind, Rw_ok, Rw_bad, Ow_nx, Ow_ret, Ow_brk, Ow_cnt, Ow_bad, List.getElem?_cons_zero, List.getElem?_cons_succ, List.set_cons_succ, List.set_cons_zero, List.getElem_cons_zero, List.getElem_cons_succ, List.length_cons, List.length_nil, List.map_cons, List.map_nil, List.cons_append, List.nil_append, ev_mulL, ev_mulR, ev_add, ev_sub, ev_mod, ev_div, ev_intI, ev_intB, ev_lenL, ev_lenT, ev_lt, ev_le, ev_gt, ev_ge, ev_eqI, ev_neI, ev_eqS, ev_neS, ev_bl, ev_truB, ix_t0, ix_t1, ix_t2, ix_l0, ix_l1, ix_l2, ev_ixL, ev_ixT, le_line, ev_all2, ev_addL, ev_neg, ev_b2max, ev_b2min, ev_shl, ev_pow, ev_abs, ev_isNon, onT_t, onT_f, onF_t, onF_f, ia_non, ia_bl, ia_int, ia_str, ia_tup, ia_lst, ia_dic, decide_eq_true_eq, decide_eq_false_iff_not, Bool.not_eq_true', Bool.not_eq_true, Bool.not_eq_false', Bool.not_true, Bool.not_false, Bool.false_eq_true, Bool.and_eq_true, Bool.or_eq_true, if_true, if_false, not_true_eq_false, not_false_eq_true, decide_true, decide_false, reduceCtorEq, or_false, or_true, false_or, true_or, and_self, and_true, true_and, and_false, false_and, Nat.zero_add, Nat.reduceAdd, Nat.reduceLeDiff, Nat.reduceLT, Nat.reduceEqDiff, Int.reduceToNat, Int.reduceEq, Int.reduceLT, Int.reduceLE, Int.reduceNe, Int.reduceNeg, Int.reduceAdd, Int.reduceSub, Int.reduceMul, Int.reduceMod, Int.reduceDiv, Int.reducePow, Nat.reducePow, Int.toNat_zero, Int.toNat_one, Int.ofNat_one, Int.ofNat_zero, litN, ite_true, ite_false, eq_self])))
  refine Rw_req (rngOk_of (by omega) (by omega)) ?_
  iterate 24 (try (first | with_reducible refine sx_sq ?_ | with_reducible refine sx_nop ?_ | with_reducible refine sx_asgV ?_ | with_reducible refine sx_asgG ?_ | with_reducible refine sx_par ?_ | with_reducible refine sx_setO ?_ | with_reducible refine sx_app ?_ | with_reducible refine sx_expr ?_ | with_reducible refine sx_ife ?_ | with_reducible refine sx_ret ?_ | with_reducible refine sx_reto ?_ | with_reducible refine sx_retn ?_ | with_reducible refine sx_frz ?_ | with_reducible refine sx_brk ?_ | with_reducible refine sx_cnt ?_ | with_reducible refine sx_pas ?_ | with_reducible refine sx_for ?_ | with_reducible refine sx_whl ?_ | with_reducible refine sx_ext ?_ | (simp (disch := first | omega | (simp only [List.length_cons, List.length_nil, List.length_append, List.length_map]; omega)) only [den, dens, tst, cnd, par, itr, asgS, asgSs, asgN, asgNs, ownIx, setPar, slotsOf, wipeE, Ow_o, Ow_thn, Rw_bind, Rw_ok, Rw_bad, Ow_nx, Ow_ret, Ow_brk, Ow_cnt, Ow_bad, List.getElem?_cons_zero, List.getElem?_cons_succ, List.set_cons_succ, List.set_cons_zero, List.getElem_cons_zero, List.getElem_cons_succ, List.length_cons, List.length_nil, List.map_cons, List.map_nil, List.cons_append, List.nil_append, ev_mulL, ev_mulR, ev_add, ev_sub, ev_mod, ev_div, ev_intI, ev_intB, ev_lenL, ev_lenT, ev_lt, ev_le, ev_gt, ev_ge, ev_eqI, ev_neI, ev_eqS, ev_neS, ev_bl, ev_truB, ix_t0, ix_t1, ix_t2, ix_l0, ix_l1, ix_l2, ev_ixL, ev_ixT, le_line, ev_all2, ev_addL, ev_neg, ev_b2max, ev_b2min, ev_shl, ev_pow, ev_abs, ev_isNon, onT_t, onT_f, onF_t, onF_f, ia_non, ia_bl, ia_int, ia_str, ia_tup, ia_lst, ia_dic, decide_eq_true_eq, decide_eq_false_iff_not, Bool.not_eq_true', Bool.not_eq_true, Bool.not_eq_false', Bool.not_true, Bool.not_false, Bool.false_eq_true, Bool.and_eq_true, Bool.or_eq_true, if_true, if_false, not_true_eq_false, not_false_eq_true, decide_true, decide_false, reduceCtorEq, or_false, or_true, false_or, true_or, and_self, and_true, true_and, and_false, false_and, Nat.zero_add, Nat.reduceAdd, Nat.reduceLeDiff, Nat.reduceLT, Nat.reduceEqDiff, Int.reduceToNat, Int.reduceEq, Int.reduceLT, Int.reduceLE, Int.reduceNe, Int.reduceNeg, Int.reduceAdd, Int.reduceSub, Int.reduceMul, Int.reduceMod, Int.reduceDiv, Int.reducePow, Nat.reducePow, Int.toNat_zero, Int.toNat_one, Int.ofNat_one, Int.ofNat_zero, litN, ite_true, ite_false, eq_self])))
  have hl2 : (rngD 0 many).length = many.toNat := by rw [rngD_len, Int.sub_zero]
  refine Rw_comp (fun i acc S' => acc.length = i ∧ (∀ x ∈ acc, IsMix n x) ∧ Jar S' j f (m + xs.length + 2 + i) ∧ Keep' S0 S' j f) ⟨rfl, (fun x hx => by cases hx), hJ3, hK3⟩ ?_ ?_
  · rintro i d acc S4 hd ⟨ha3, hI3, hJ4, hK4⟩
    obtain ⟨hi, rfl⟩ := rngD_get hd
    iterate 24 (try (first | with_reducible refine sx_sq ?_ | with_reducible refine sx_nop ?_ | with_reducible refine sx_asgV ?_ | with_reducible refine sx_asgG ?_ | with_reducible refine sx_par ?_ | with_reducible refine sx_setO ?_ | with_reducible refine sx_app ?_ | with_reducible refine sx_expr ?_ | with_reducible refine sx_ife ?_ | with_reducible refine sx_ret ?_ | with_reducible refine sx_reto ?_ | with_reducible refine sx_retn ?_ | with_reducible refine sx_frz ?_ | with_reducible refine sx_brk ?_ | with_reducible refine sx_cnt ?_ | with_reducible refine sx_pas ?_ | with_reducible refine sx_for ?_ | with_reducible refine sx_whl ?_ | with_reducible refine sx_ext ?_ | (simp (disch := first | omega | (simp only [List.length_cons, List.length_nil, List.length_append, List.length_map]; omega)) only [den, dens, tst, cnd, par, itr, asgS, asgSs, asgN, asgNs, ownIx, setPar, slotsOf, wipeE, Ow_o, Ow_thn, Rw_bind, Rw_ok, Rw_bad, Ow_nx, Ow_ret, Ow_brk, Ow_cnt, Ow_bad, List.getElem?_cons_zero, List.getElem?_cons_succ, List.set_cons_succ, List.set_cons_zero, List.getElem_cons_zero, List.getElem_cons_succ, List.length_cons, List.length_nil, List.map_cons, List.map_nil, List.cons_append, List.nil_append, ev_mulL, ev_mulR, ev_add, ev_sub, ev_mod, ev_div, ev_intI, ev_intB, ev_lenL, ev_lenT, ev_lt, ev_le, ev_gt, ev_ge, ev_eqI, ev_neI, ev_eqS, ev_neS, ev_bl, ev_truB, ix_t0, ix_t1, ix_t2, ix_l0, ix_l1, ix_l2, ev_ixL, ev_ixT, le_line, ev_all2, ev_addL, ev_neg, ev_b2max, ev_b2min, ev_shl, ev_pow, ev_abs, ev_isNon, onT_t, onT_f, onF_t, onF_f, ia_non, ia_bl, ia_int, ia_str, ia_tup, ia_lst, ia_dic, decide_eq_true_eq, decide_eq_false_iff_not, Bool.not_eq_true', Bool.not_eq_true, Bool.not_eq_false', Bool.not_true, Bool.not_false, Bool.false_eq_true, Bool.and_eq_true, Bool.or_eq_true, if_true, if_false, not_true_eq_false, not_false_eq_true, decide_true, decide_false, reduceCtorEq, or_false, or_true, false_or, true_or, and_self, and_true, true_and, and_false, false_and, Nat.zero_add, Nat.reduceAdd, Nat.reduceLeDiff, Nat.reduceLT, Nat.reduceEqDiff, Int.reduceToNat, Int.reduceEq, Int.reduceLT, Int.reduceLE, Int.reduceNe, Int.reduceNeg, Int.reduceAdd, Int.reduceSub, Int.reduceMul, Int.reduceMod, Int.reduceDiv, Int.reducePow, Nat.reducePow, Int.toNat_zero, Int.toNat_one, Int.ofNat_one, Int.ofNat_zero, litN, ite_true, ite_false, eq_self])))
    refine Rw.mono (pick (k := k) dT pT hJ4 (by omega) z1 (by omega)) ?_
    rintro d S5 ⟨hd5, hJ5, hK5⟩
    iterate 24 (try (first | with_reducible refine sx_sq ?_ | with_reducible refine sx_nop ?_ | with_reducible refine sx_asgV ?_ | with_reducible refine sx_asgG ?_ | with_reducible refine sx_par ?_ | with_reducible refine sx_setO ?_ | with_reducible refine sx_app ?_ | with_reducible refine sx_expr ?_ | with_reducible refine sx_ife ?_ | with_reducible refine sx_ret ?_ | with_reducible refine sx_reto ?_ | with_reducible refine sx_retn ?_ | with_reducible refine sx_frz ?_ | with_reducible refine sx_brk ?_ | with_reducible refine sx_cnt ?_ | with_reducible refine sx_pas ?_ | with_reducible refine sx_for ?_ | with_reducible refine sx_whl ?_ | with_reducible refine sx_ext ?_ | (simp (disch := first | omega | (simp only [List.length_cons, List.length_nil, List.length_append, List.length_map]; omega)) only [den, dens, tst, cnd, par, itr, asgS, asgSs, asgN, asgNs, ownIx, setPar, slotsOf, wipeE, Ow_o, Ow_thn, Rw_bind, Rw_ok, Rw_bad, Ow_nx, Ow_ret, Ow_brk, Ow_cnt, Ow_bad, List.getElem?_cons_zero, List.getElem?_cons_succ, List.set_cons_succ, List.set_cons_zero, List.getElem_cons_zero, List.getElem_cons_succ, List.length_cons, List.length_nil, List.map_cons, List.map_nil, List.cons_append, List.nil_append, ev_mulL, ev_mulR, ev_add, ev_sub, ev_mod, ev_div, ev_intI, ev_intB, ev_lenL, ev_lenT, ev_lt, ev_le, ev_gt, ev_ge, ev_eqI, ev_neI, ev_eqS, ev_neS, ev_bl, ev_truB, ix_t0, ix_t1, ix_t2, ix_l0, ix_l1, ix_l2, ev_ixL, ev_ixT, le_line, ev_all2, ev_addL, ev_neg, ev_b2max, ev_b2min, ev_shl, ev_pow, ev_abs, ev_isNon, onT_t, onT_f, onF_t, onF_f, ia_non, ia_bl, ia_int, ia_str, ia_tup, ia_lst, ia_dic, decide_eq_true_eq, decide_eq_false_iff_not, Bool.not_eq_true', Bool.not_eq_true, Bool.not_eq_false', Bool.not_true, Bool.not_false, Bool.false_eq_true, Bool.and_eq_true, Bool.or_eq_true, if_true, if_false, not_true_eq_false, not_false_eq_true, decide_true, decide_false, reduceCtorEq, or_false, or_true, false_or, true_or, and_self, and_true, true_and, and_false, false_and, Nat.zero_add, Nat.reduceAdd, Nat.reduceLeDiff, Nat.reduceLT, Nat.reduceEqDiff, Int.reduceToNat, Int.reduceEq, Int.reduceLT, Int.reduceLE, Int.reduceNe, Int.reduceNeg, Int.reduceAdd, Int.reduceSub, Int.reduceMul, Int.reduceMod, Int.reduceDiv, Int.reducePow, Nat.reducePow, Int.toNat_zero, Int.toNat_one, Int.ofNat_one, Int.ofNat_zero, litN, ite_true, ite_false, eq_self])))
    refine ⟨by simp [ha3], fun x hx => ?_, jar_grow hJ5 (by omega), hK4.trans hK5.up⟩
    rcases List.mem_append.mp hx with hx | hx
    · exact hI3 x hx
    · rw [List.mem_singleton.mp hx]; exact z3 d hd5
  · rintro acc S4 ⟨ha3, hI3, hJ4, hK4⟩
    rw [hl2] at ha3 hJ4
    refine ⟨Nat.le_trans (by omega) line_big, ?_⟩
    iterate 24 (try (first | with_reducible refine sx_sq ?_ | with_reducible refine sx_nop ?_ | with_reducible refine sx_asgV ?_ | with_reducible refine sx_asgG ?_ | with_reducible refine sx_par ?_ | with_reducible refine sx_setO ?_ | with_reducible refine sx_app ?_ | with_reducible refine sx_expr ?_ | with_reducible refine sx_ife ?_ | with_reducible refine sx_ret ?_ | with_reducible refine sx_reto ?_ | with_reducible refine sx_retn ?_ | with_reducible refine sx_frz ?_ | with_reducible refine sx_brk ?_ | with_reducible refine sx_cnt ?_ | with_reducible refine sx_pas ?_ | with_reducible refine sx_for ?_ | with_reducible refine sx_whl ?_ | with_reducible refine sx_ext ?_ | (simp (disch := first | omega | (simp only [List.length_cons, List.length_nil, List.length_append, List.length_map]; omega)) only [den, dens, tst, cnd, par, itr, asgS, asgSs, asgN, asgNs, ownIx, setPar, slotsOf, wipeE, Ow_o, Ow_thn, Rw_bind, Rw_ok, Rw_bad, Ow_nx, Ow_ret, Ow_brk, Ow_cnt, Ow_bad, List.getElem?_cons_zero, List.getElem?_cons_succ, List.set_cons_succ, List.set_cons_zero, List.getElem_cons_zero, List.getElem_cons_succ, List.length_cons, List.length_nil, List.map_cons, List.map_nil, List.cons_append, List.nil_append, ev_mulL, ev_mulR, ev_add, ev_sub, ev_mod, ev_div, ev_intI, ev_intB, ev_lenL, ev_lenT, ev_lt, ev_le, ev_gt, ev_ge, ev_eqI, ev_neI, ev_eqS, ev_neS, ev_bl, ev_truB, ix_t0, ix_t1, ix_t2, ix_l0, ix_l1, ix_l2, ev_ixL, ev_ixT, le_line, ev_all2, ev_addL, ev_neg, ev_b2max, ev_b2min, ev_shl, ev_pow, ev_abs, ev_isNon, onT_t, onT_f, onF_t, onF_f, ia_non, ia_bl, ia_int, ia_str, ia_tup, ia_lst, ia_dic, decide_eq_true_eq, decide_eq_false_iff_not, Bool.not_eq_true', Bool.not_eq_true, Bool.not_eq_false', Bool.not_true, Bool.not_false, Bool.false_eq_true, Bool.and_eq_true, Bool.or_eq_true, if_true, if_false, not_true_eq_false, not_false_eq_true, decide_true, decide_false, reduceCtorEq, or_false, or_true, false_or, true_or, and_self, and_true, true_and, and_false, false_and, Nat.zero_add, Nat.reduceAdd, Nat.reduceLeDiff, Nat.reduceLT, Nat.reduceEqDiff, Int.reduceToNat, Int.reduceEq, Int.reduceLT, Int.reduceLE, Int.reduceNe, Int.reduceNeg, Int.reduceAdd, Int.reduceSub, Int.reduceMul, Int.reduceMod, Int.reduceDiv, Int.reducePow, Nat.reducePow, Int.toNat_zero, Int.toNat_one, Int.ofNat_one, Int.ofNat_zero, litN, ite_true, ite_false, eq_self, ev_tupL])))
    exact ⟨⟨acc, rfl, ha3, hI3⟩, jar_grow hJ4 (by omega), hK4⟩
end IL.A
set_option hygiene false in
local macro_rules
  | `(tactic| rwa [$rs,*] at ⊢) => do
    let ts : Array (Lean.TSyntax `term) := rs.getElems.map fun r => ⟨r.raw.getArg 1⟩
    `(tactic| iterate 24 (try (first | with_reducible refine IL.sx_sq ?_ | with_reducible refine IL.sx_nop ?_ | with_reducible refine IL.sx_asgV ?_ | with_reducible refine IL.sx_asgG ?_ | with_reducible refine IL.sx_par ?_ | with_reducible refine IL.sx_setO ?_ | with_reducible refine IL.sx_app ?_ | with_reducible refine IL.sx_expr ?_ | with_reducible refine IL.sx_ife ?_ | with_reducible refine IL.sx_ret ?_ | with_reducible refine IL.sx_reto ?_ | with_reducible refine IL.sx_retn ?_ | with_reducible refine IL.sx_frz ?_ | with_reducible refine IL.sx_brk ?_ | with_reducible refine IL.sx_cnt ?_ | with_reducible refine IL.sx_pas ?_ | with_reducible refine IL.sx_for ?_ | with_reducible refine IL.sx_whl ?_ | with_reducible refine IL.sx_ext ?_ | (simp (disch := first | omega | (simp only [List.length_cons, List.length_nil, List.length_append, List.length_map]; omega)) only [IL.den, IL.dens, IL.tst, IL.cnd, IL.par, IL.itr, IL.itrC, IL.asgS, IL.asgSs, IL.asgN, IL.asgNs, IL.ownIx, IL.setPar, IL.slotsOf, IL.wipeE, IL.Ow_o, IL.Ow_thn, IL.Rw_bind, IL.Rw_ok, IL.Rw_bad, IL.Ow_nx, IL.Ow_ret, IL.Ow_brk, IL.Ow_cnt, IL.Ow_bad, List.getElem?_cons_zero, List.getElem?_cons_succ, List.set_cons_succ, List.set_cons_zero, List.getElem_cons_zero, List.getElem_cons_succ, List.length_cons, List.length_nil, List.map_cons, List.map_nil, List.cons_append, List.nil_append, IL.ev_mulL, IL.ev_mulR, IL.ev_add, IL.ev_sub, IL.ev_mod, IL.ev_div, IL.ev_intI, IL.ev_intB, IL.ev_lenL, IL.ev_lenT, IL.ev_lt, IL.ev_le, IL.ev_gt, IL.ev_ge, IL.ev_eqI, IL.ev_neI, IL.ev_eqS, IL.ev_neS, IL.ev_bl, IL.ev_truB, IL.ix_t0, IL.ix_t1, IL.ix_t2, IL.ix_l0, IL.ix_l1, IL.ix_l2, IL.ev_ixL, IL.ev_ixT, IL.le_line, IL.ev_all2, IL.ev_addL, IL.ev_neg, IL.ev_b2max, IL.ev_b2min, IL.ev_shl, IL.ev_pow, IL.ev_abs, IL.ev_isNon, IL.onT_t, IL.onT_f, IL.onF_t, IL.onF_f, IL.ia_non, IL.ia_bl, IL.ia_int, IL.ia_str, IL.ia_tup, IL.ia_lst, IL.ia_dic, decide_eq_true_eq, decide_eq_false_iff_not, Bool.not_eq_true', Bool.not_eq_true, Bool.not_eq_false', Bool.not_true, Bool.not_false, Bool.false_eq_true, Bool.and_eq_true, Bool.or_eq_true, if_true, if_false, not_true_eq_false, not_false_eq_true, decide_true, decide_false, reduceCtorEq, or_false, or_true, false_or, true_or, and_self, and_true, true_and, and_false, false_and, Nat.zero_add, Nat.reduceAdd, Nat.reduceLeDiff, Nat.reduceLT, Nat.reduceEqDiff, Int.reduceToNat, Int.reduceEq, Int.reduceLT, Int.reduceLE, Int.reduceNe, Int.reduceNeg, Int.reduceAdd, Int.reduceSub, Int.reduceMul, Int.reduceMod, Int.reduceDiv, Int.reducePow, Nat.reducePow, Int.toNat_zero, Int.toNat_one, Int.ofNat_one, Int.ofNat_zero, IL.litN, ite_true, ite_false, eq_self, $[$ts:term],*]))))
  | `(tactic| rwa [$rs,*] at *) => do
    let us : Array (Lean.TSyntax `term) := rs.getElems.map fun r => ⟨r.raw.getArg 1⟩
    let n : Lean.TSyntax `num := ⟨us[0]!.raw⟩
    let ts := us.extract 1 us.size
    `(tactic| iterate $n (all_goals (try (first | with_reducible refine IL.sx_sq ?_ | with_reducible refine IL.sx_nop ?_ | with_reducible refine IL.sx_asgV ?_ | with_reducible refine IL.sx_asgG ?_ | with_reducible refine IL.sx_par ?_ | with_reducible refine IL.sx_setO ?_ | with_reducible refine IL.sx_app ?_ | with_reducible refine IL.sx_expr ?_ | with_reducible refine IL.sx_ife ?_ | with_reducible refine IL.sx_ret ?_ | with_reducible refine IL.sx_reto ?_ | with_reducible refine IL.sx_retn ?_ | with_reducible refine IL.sx_frz ?_ | with_reducible refine IL.sx_brk ?_ | with_reducible refine IL.sx_cnt ?_ | with_reducible refine IL.sx_pas ?_ | with_reducible refine IL.sx_for ?_ | with_reducible refine IL.sx_whl ?_ | with_reducible refine IL.sx_ext ?_ | (simp (disch := first | omega | (simp only [List.length_cons, List.length_nil, List.length_append, List.length_map]; omega)) only [IL.den, IL.dens, IL.tst, IL.cnd, IL.par, IL.itr, IL.itrC, IL.asgS, IL.asgSs, IL.asgN, IL.asgNs, IL.ownIx, IL.setPar, IL.slotsOf, IL.wipeE, IL.Ow_o, IL.Ow_thn, IL.Rw_bind, IL.Rw_ok, IL.Rw_bad, IL.Ow_nx, IL.Ow_ret, IL.Ow_brk, IL.Ow_cnt, IL.Ow_bad, List.getElem?_cons_zero, List.getElem?_cons_succ, List.set_cons_succ, List.set_cons_zero, List.getElem_cons_zero, List.getElem_cons_succ, List.length_cons, List.length_nil, List.map_cons, List.map_nil, List.cons_append, List.nil_append, IL.ev_mulL, IL.ev_mulR, IL.ev_add, IL.ev_sub, IL.ev_mod, IL.ev_div, IL.ev_intI, IL.ev_intB, IL.ev_lenL, IL.ev_lenT, IL.ev_lt, IL.ev_le, IL.ev_gt, IL.ev_ge, IL.ev_eqI, IL.ev_neI, IL.ev_eqS, IL.ev_neS, IL.ev_bl, IL.ev_truB, IL.ix_t0, IL.ix_t1, IL.ix_t2, IL.ix_l0, IL.ix_l1, IL.ix_l2, IL.ev_ixL, IL.ev_ixT, IL.le_line, IL.ev_all2, IL.ev_addL, IL.ev_neg, IL.ev_b2max, IL.ev_b2min, IL.ev_shl, IL.ev_pow, IL.ev_abs, IL.ev_isNon, IL.onT_t, IL.onT_f, IL.onF_t, IL.onF_f, IL.ia_non, IL.ia_bl, IL.ia_int, IL.ia_str, IL.ia_tup, IL.ia_lst, IL.ia_dic, decide_eq_true_eq, decide_eq_false_iff_not, Bool.not_eq_true', Bool.not_eq_true, Bool.not_eq_false', Bool.not_true, Bool.not_false, Bool.false_eq_true, Bool.and_eq_true, Bool.or_eq_true, if_true, if_false, not_true_eq_false, not_false_eq_true, decide_true, decide_false, reduceCtorEq, or_false, or_true, false_or, true_or, and_self, and_true, true_and, and_false, false_and, Nat.zero_add, Nat.reduceAdd, Nat.reduceLeDiff, Nat.reduceLT, Nat.reduceEqDiff, Int.reduceToNat, Int.reduceEq, Int.reduceLT, Int.reduceLE, Int.reduceNe, Int.reduceNeg, Int.reduceAdd, Int.reduceSub, Int.reduceMul, Int.reduceMod, Int.reduceDiv, Int.reducePow, Nat.reducePow, Int.toNat_zero, Int.toNat_one, Int.ofNat_one, Int.ofNat_zero, IL.litN, ite_true, ite_false, eq_self, $[$ts:term],*]) | with_reducible refine IL.Rw_onT (fun _ => ?_) (fun _ => ?_) | with_reducible refine IL.Rw_onF (fun _ => ?_) (fun _ => ?_) | with_reducible refine IL.Rw_ifd (fun _ => ?_) (fun _ => ?_) | with_reducible refine IL.Ow_ifd (fun _ => ?_) (fun _ => ?_) | with_reducible refine IL.if_d (fun _ => ?_) (fun _ => ?_) | with_reducible refine IL.Rw_if (fun _ => ?_) (fun _ => ?_) | with_reducible refine IL.Ow_if (fun _ => ?_) (fun _ => ?_) | with_reducible refine IL.if_p (fun _ => ?_) (fun _ => ?_)))))
/-! JI: the third family's deck: draws. -/
namespace IL
open PySem PySem.Spec PyProof.Rows L2
theorem lt_line {n : Nat} (h : n < 1000000) : (n < sizeLine) = True := eq_true (Nat.lt_of_lt_of_le h line_big)
theorem compF_ok {g : D → Store → R (Option D)} (f : D → Option D) {S : Store} {ds : List D} (h : ∀ d ∈ ds, g d S = .ok (f d) S) (hl : ds.length ≤ 1000000) : compF g ds [] S = .ok (.lst (ds.filterMap f)) S := by
  rw [compF_pure f h, List.nil_append, if_pos (Nat.le_trans (Nat.le_trans (List.length_filterMap_le _ _) hl) line_big)]
end IL
namespace IL.B
open PySem PySem.Spec PyProof.Rows L2 IL
def b_deck (c0 : Int) : S := (.sq (.par [(1, false), (2, false)] (.cs (.comp (.ife (.cmp .GtE (.var 3) (.int (0))) (.bin .Mult (.int (2)) (.var 3)) (.bin .Sub (.bin .Mult (.neg (.int (2))) (.var 3)) (.int (1)))) (.var 3) (.cs (.sl (.var 0) .nl (.cs (.int (63)) .nl)) .nl) .nl) (.cs (.bin .Add (.int c0) (.b1 .len (.var 0))) .nl))) (.sq (.for_ (.var 3) (.cs (.var 1) .nl) (.sq (.asg (.var 2) (.bin .Mod (.b1 .int (.bin .Add (.bin .Mult (.var 2) (.int (48271))) (.var 3))) (.int (4294967291)))) .nop)) (.sq (.ret (.cell (.lst (.cs (.cell (.comp (.var 3) (.var 3) (.cs (.var 1) .nl) (.cs (.cmp .GtE (.var 3) (.bin .Pow (.int (10)) (.int (15)))) .nl))) (.cs (.var 2) (.cs (.int (0)) .nl)))))) .nop)))
def b_draw : S := (.sq (.ife (.cmp .NotEq (.ix (.var 0) (.int (0))) (.lst .nl)) (.sq (.asg (.var 3) (.ix (.ix (.var 0) (.int (0))) (.int (0)))) (.sq (.asg (.ix (.ix (.var 0) (.int (0))) (.int (0))) (.bin .FloorDiv (.var 3) (.var 1))) (.sq (.ife (.cmp .Lt (.var 3) (.var 1)) (.sq (.expr (.popi (.ix (.var 0) (.int (0))) (.int (0)))) .nop) .nop) (.sq (.ret (.bin .Mod (.b1 .int (.var 3)) (.var 1))) .nop)))) .nop) (.sq (.asg (.ix (.var 0) (.int (2))) (.bin .Add (.ix (.var 0) (.int (2))) (.int (1)))) (.sq (.asg (.var 2) (.bin .Mod (.b1 .int (.bin .Add (.ix (.var 0) (.int (1))) (.bin .Mult (.int (2654435761)) (.ix (.var 0) (.int (2)))))) (.int (4294967291)))) (.sq (.asg (.var 2) (.bin .Mod (.b1 .int (.bin .Add (.bin .Add (.bin .Mult (.var 2) (.var 2)) (.bin .Mult (.int (40503)) (.ix (.var 0) (.int (2))))) (.int (11)))) (.int (4294967279)))) (.sq (.asg (.var 2) (.bin .Mod (.b1 .int (.bin .Add (.bin .Mult (.var 2) (.var 2)) (.ix (.var 0) (.int (1))))) (.int (4294967231)))) (.sq (.ret (.bin .Mod (.b1 .int (.bin .FloorDiv (.var 2) (.int (64)))) (.var 1))) .nop))))))
def b_pick : S := (.sq (.ret (.ix (.var 1) (.call "_law_draw" (.cs (.var 0) (.cs (.b1 .len (.var 1)) .nl))))) .nop)

/-- the deck stands at j, its great ones at f; n: draws so far, at most -/
def Jar (S : Store) (j f n : Nat) : Prop := j ≠ f ∧ ∃ (fs : List Int) (st count : Int), S[f]? = some (.lst (fs.map .int)) ∧ S[j]? = some (.lst [.ref f, .int st, .int count]) ∧ fs.length ≤ 64 ∧ 0 ≤ count ∧ count ≤ n
variable {G : Str → Option D} {T : Str → Option Fn}
theorem jar_grow {S : Store} {j f n m : Nat} (h : Jar S j f n) (l : n ≤ m) : Jar S j f m := by
  obtain ⟨h0, fs, st, count, h1, h2, h3, h4, h5⟩ := h
  exact ⟨h0, fs, st, count, h1, h2, h3, h4, by omega⟩
theorem jar_lt {S : Store} {j f n : Nat} (h : Jar S j f n) : j < S.length ∧ f < S.length := by
  obtain ⟨_, fs, st, count, h1, h2, _⟩ := h
  exact ⟨(List.getElem?_eq_some_iff.mp h2).1, (List.getElem?_eq_some_iff.mp h1).1⟩
theorem jar_app {S : Store} {j f n : Nat} {c : Cell} (h : Jar S j f n) : Jar (S ++ [c]) j f n := by
  obtain ⟨l1, l2⟩ := jar_lt h
  obtain ⟨h0, fs, st, count, h1, h2, h3⟩ := h
  exact ⟨h0, fs, st, count, by rw [List.getElem?_append_left l2]; exact h1, by rw [List.getElem?_append_left l1]; exact h2, h3⟩
theorem jar_set {S : Store} {j f n m : Nat} {c : Cell} (h : Jar S j f n) (hj : m ≠ j) (hf : m ≠ f) : Jar (S.set m c) j f n := by
  obtain ⟨h0, fs, st, count, h1, h2, h3⟩ := h
  exact ⟨h0, fs, st, count, by rw [List.getElem?_set_ne hf]; exact h1, by rw [List.getElem?_set_ne hj]; exact h2, h3⟩
section
variable {S : Store} {j f : Nat} {st count : Int}
theorem get0 (h : S[j]? = some (.lst [.ref f, .int st, .int count])) : ixD (.ref j) (.int 0) S = .ok (.ref f) S := by
  simp only [ixD, itemsD, h]
  rfl
theorem get1 (h : S[j]? = some (.lst [.ref f, .int st, .int count])) : ixD (.ref j) (.int 1) S = .ok (.int st) S := by
  simp only [ixD, itemsD, h]
  rfl
theorem get2 (h : S[j]? = some (.lst [.ref f, .int st, .int count])) : ixD (.ref j) (.int 2) S = .ok (.int count) S := by
  simp only [ixD, itemsD, h]
  rfl
theorem put2 {c : Int} (h : S[j]? = some (.lst [.ref f, .int st, .int count])) : setIxD (.ref j) (.int 2) (.int c) S = .ok () (S.set j (.lst [.ref f, .int st, .int c])) := by
  unfold setIxD
  simp only [h]
  rfl
theorem head0 {x : Int} {xs : List Int} (h : S[f]? = some (.lst ((x :: xs).map .int))) : ixD (.ref f) (.int 0) S = .ok (.int x) S := by
  have e : atI ((x :: xs).map D.int) 0 = some (.int x) := by
    unfold atI ixN
    rw [if_pos (by omega), if_pos (by simp only [List.length_map, List.length_cons]; omega)]
    rfl
  simp only [ixD, itemsD, h, e]
theorem puth {x c : Int} {xs : List Int} (h : S[f]? = some (.lst ((x :: xs).map .int))) : setIxD (.ref f) (.int 0) (.int c) S = .ok () (S.set f (.lst ((c :: xs).map .int))) := by
  have e : ixN ((x :: xs).map D.int).length 0 = some 0 := by
    unfold ixN
    rw [if_pos (by omega), if_pos (by simp only [List.length_map, List.length_cons]; omega)]
    rfl
  unfold setIxD
  simp only [h, e]
  rfl
end
theorem draw (hT : T "_law_draw" = some ⟨2, 4, b_draw⟩) {k : Nat} {S : Store} {j f n : Nat} (hJ : Jar S j f n) (hn : n < 1000000000) {many : Int} (hm : 0 < many) (hm2 : many < 18446744073709551616) :
    Rw (callF G T (k + 1) "_law_draw" [.ref j, .int many] S) fun d S' => ∃ i : Int, d = .int i ∧ 0 ≤ i ∧ i < many ∧ Jar S' j f (n + 1) ∧ A.Keep S S' j f := by
  obtain ⟨hjf, fs, st, count, hf, hj, h1, h2, h3⟩ := hJ
  refine Rw_call hT rfl ?_
  show Ow (exec G _ b_draw [.val (.ref j), .val (.int many), .no, .no] S) _
  unfold b_draw
  have g0 := get0 hj
  have g1 := get1 hj
  have g2 := get2 hj
  have hne := neC hf
  cases fs with
  | cons x r =>
    have hd : (!decide ((x :: r).map D.int = [])) = true := by simp
    rw [hd] at hne
    have hd := head0 hf
    have hp : ∀ c, setIxD (.ref f) (.int 0) (.int c) S = .ok () (S.set f (.lst ((c :: r).map .int))) := fun c => puth hf
    have hS : ∀ c, (S.set f (.lst ((c :: r).map .int)))[f]? = some (.lst ((c :: r).map .int)) := fun c => A.set_here hf
    have hj' : ∀ c, (S.set f (.lst ((c :: r).map .int)))[j]? = some (.lst [.ref f, .int st, .int count]) := fun c => by rw [List.getElem?_set_ne (Ne.symm hjf)]; exact hj
    have hil : isLst (.ref f) (S.set f (.lst ((x / many :: r).map .int))) = true := isLst_of (hS _)
    have hg : ixD (.ref j) (.int 0) (S.set f (.lst ((x / many :: r).map .int))) = .ok (.ref f) (S.set f (.lst ((x / many :: r).map .int))) := get0 (hj' _)
    have hpo := popC (i := 0) (hS (x / many)) (by omega) (by simp only [List.length_map, List.length_cons]; omega) (by simp only [List.length_map, List.length_cons]; simp only [List.length_cons] at h1; omega)
    simp only [List.map_cons, List.getElem_cons_zero, List.eraseIdx_cons_zero, Int.toNat_zero] at hne hd hp hil hg hpo
    rwa [40, g0, hne, hd, hp, hil, hg, hpo] at *
    · refine ⟨_, rfl, Int.emod_nonneg _ (by omega), Int.emod_lt_of_pos _ hm, ⟨hjf, r, st, count, ?_, ?_, by rw [List.length_cons] at h1; omega, h2, by omega⟩, A.keep_f.trans A.keep_f⟩
      · exact A.set_here (hS (x / many))
      · rw [List.getElem?_set_ne (Ne.symm hjf)]; exact hj' _
    · refine ⟨_, rfl, Int.emod_nonneg _ (by omega), Int.emod_lt_of_pos _ hm, ⟨hjf, x / many :: r, st, count, hS _, hj' _, h1, h2, by omega⟩, A.keep_f⟩
  | nil =>
    have hd : (!decide (([] : List Int).map D.int = [])) = false := by simp
    rw [hd] at hne
    have hp : setIxD (.ref j) (.int 2) (.int (count + 1)) S = .ok () (S.set j (.lst [.ref f, .int st, .int (count + 1)])) := put2 hj
    have hS : (S.set j (.lst [.ref f, .int st, .int (count + 1)]))[j]? = some (.lst [.ref f, .int st, .int (count + 1)]) := A.set_here hj
    have k1 := get1 hS
    have k2 := get2 hS
    rwa [40, g0, g1, g2, hne, hp, k1, k2] at *
    refine ⟨_, rfl, Int.emod_nonneg _ (by omega), Int.emod_lt_of_pos _ hm, ⟨hjf, [], st, count + 1, ?_, hS, by simp, by omega, by omega⟩, A.keep_j⟩
    rw [List.getElem?_set_ne hjf]; exact hf
theorem pick (hT : T "_law_draw" = some ⟨2, 4, b_draw⟩) (hP : T "_law_pick" = some ⟨2, 2, b_pick⟩) {k : Nat} {S : Store} {j f n : Nat} (hJ : Jar S j f n) (hn : n < 1000000000) {xs : List D} (h0 : xs ≠ []) (hl : xs.length ≤ 1000000) :
    Rw (callF G T (k + 2) "_law_pick" [.ref j, .lst xs] S) fun d S' => d ∈ xs ∧ Jar S' j f (n + 1) ∧ A.Keep S S' j f := by
  refine Rw_call hP rfl ?_
  show Ow (exec G _ b_pick [.val (.ref j), .val (.lst xs)] S) _
  unfold b_pick
  have hx : 0 < xs.length := List.length_pos_iff.mpr h0
  rwa [] at ⊢
  refine Rw.mono (draw hT hJ hn (many := (xs.length : Int)) (by omega) (by omega)) ?_
  rintro d S' ⟨i, rfl, i0, i1, hJ', hK⟩
  simp only [ev_ixL i0 i1, Ow_ret]
  exact ⟨List.getElem_mem _, hJ', hK⟩
theorem jar {c00 : Int} (hT : T "_law_deck" = some ⟨1, 4, b_deck c00⟩) {k : Nat} {ns : List Int} (hn : ns.length ≤ 63) :
    Rw (callF G T (k + 1) "_law_deck" [.ref 0] [.ro (ns.map .int)]) fun d S' => d = .ref 2 ∧ S'.length = 3 ∧ Jar S' 2 1 0 := by
  refine Rw_call hT rfl ?_
  show Ow (exec G _ (b_deck c00) [.val (.ref 0), .no, .no, .no] [.ro (ns.map .int)]) _
  unfold b_deck
  have hsl : slD (.ref 0) none (some 63) [.ro (ns.map .int)] = .ok (.lst ((cut ns none (some 63)).map .int)) [.ro (ns.map .int)] := by
    rw [← cut_map]; rfl
  have hcl : (cut ns none (some 63)).length ≤ 63 := Nat.le_trans (cut_len _ _ _) hn
  have hlen : b1D .len (.ref 0) [.ro (ns.map .int)] = .ok (.int ((ns.map D.int).length : Nat)) [.ro (ns.map .int)] := rfl
  generalize hc0 : cut ns none (some 63) = c0 at hsl hcl
  simp only [exec, den, dens, itr, par, Ow_o, Ow_thn, Rw_bind, Rw_ok, List.getElem?_cons_zero, List.getElem?_cons_succ, hsl, slotsOf]
  refine Rw.eq (comp_map (fun i => .int (if 0 ≤ i then 2 * i else -2 * i - 1)) (fun i _ => Rw.toEq ?_) (by omega)) ?_
  · simp only [Rw_bind, asgN, Rw_ok, cnd, if_true, den, tst, wipeE, List.getElem?_cons_zero, List.getElem?_cons_succ, List.set_cons_succ, List.set_cons_zero, ev_ge, ev_bl, decide_eq_true_eq]
    refine Rw_if (fun h => ?_) (fun h => ?_)
    · simp only [ev_mulL (i := 2) (by omega) (by omega), Rw_bind, Rw_ok, if_pos h, and_self]
    · simp only [ev_mulL (i := -2) (by omega) (by omega), ev_sub, Rw_bind, Rw_ok, if_neg h, and_self]
  simp only [Rw_ok, hlen, ev_add, setPar, Ow_nx, List.set_cons_succ, List.set_cons_zero, List.getElem?_cons_zero, List.getElem?_cons_succ]
  generalize hcs : c0.map (fun i => if 0 ≤ i then 2 * i else -2 * i - 1) = cs
  have hcs' : c0.map (fun i => D.int (if 0 ≤ i then 2 * i else -2 * i - 1)) = cs.map D.int := by rw [← hcs, List.map_map]; rfl
  have hcl' : cs.length ≤ 63 := by rw [← hcs, List.length_map]; exact hcl
  rw [hcs']
  refine Ow_for (fun _ v S => ∃ (sm : Int) (s3 : Slot), v = [.val (.ref 0), .val (.lst (cs.map .int)), .val (.int sm), s3] ∧ S = [.ro (ns.map .int)]) ⟨_, _, rfl, rfl⟩ ?_ ?_
  · rintro i d v S hd ⟨sm, s3, rfl, rfl⟩
    obtain ⟨x, rfl⟩ : ∃ x, d = .int x := by
      rw [List.getElem?_map] at hd
      cases h : cs[i]? with
      | none => rw [h] at hd; cases hd
      | some x => rw [h] at hd; cases hd; exact ⟨x, rfl⟩
    simp only [asgN, Rw_ok, exec, den, asgS, Ow_o, Ow_thn, Rw_bind, List.getElem?_cons_zero, List.getElem?_cons_succ, List.set_cons_succ, List.set_cons_zero, ev_mulR (j := 48271) (by omega) (by omega), ev_add, ev_intI, ev_mod (j := 4294967291) (by omega), Ow_nx]
    exact ⟨_, _, rfl, trivial⟩
  · rintro v S ⟨sm, s3, rfl, rfl⟩
    simp only [List.getElem?_cons_zero, List.getElem?_cons_succ, Rw_ok]
    refine Rw.eq (comp_filter (fun i => decide (10 ^ 15 ≤ i)) (fun i _ => Rw.toEq ?_) (by omega)) ?_
    · simp only [Rw_bind, asgN, Rw_ok, cnd, if_true, den, tst, wipeE, List.getElem?_cons_zero, List.getElem?_cons_succ, List.set_cons_succ, List.set_cons_zero, ev_pow (i := 10) (j := 15) (by omega) (by omega) (by omega) (by omega), ev_ge, ev_bl]
      by_cases h : (10 : Int) ^ 15 ≤ i
      · have : decide ((10 : Int) ^ (15 : Int).toNat ≤ i) = true := decide_eq_true h
        simp only [this, if_true, decide_eq_true h, Rw_bind, Rw_ok, and_self]
      · have : decide ((10 : Int) ^ (15 : Int).toNat ≤ i) = false := decide_eq_false h
        simp only [this, if_false, decide_eq_false h, Rw_bind, Rw_ok, and_self, Bool.false_eq_true]
    simp only [Rw_ok, Ow_nx, List.set_cons_succ, List.set_cons_zero, List.getElem?_cons_zero, List.getElem?_cons_succ]
    refine Rw_req (Nat.le_trans (by simp) line_big) ?_
    simp only [Rw_ok, Ow_ret]
    refine ⟨rfl, rfl, by decide, cs.filter (fun i => decide (10 ^ 15 ≤ i)), sm, 0, rfl, rfl, Nat.le_trans (List.length_filter_le _ _) (by omega), by omega, by omega⟩
end IL.B
/-! JK: whole numbers over powers of two, in lowest terms; the package's halves. -/
namespace IL
open PySem PySem.Spec PyProof.Rows L2
/-- lowest terms of a over 2 to the power of f -/
def lo : Nat → Int → Int × Nat
  | 0, a => (a, 0)
  | f + 1, a => if a % 2 = 0 then lo f (a / 2) else (a, f + 1)
theorem lo_even {f : Nat} {a : Int} (h : a % 2 = 0) : lo (f + 1) a = lo f (a / 2) := by
  conv => lhs; unfold lo
  rw [if_pos h]
theorem lo_odd {f : Nat} {a : Int} (h : ¬ a % 2 = 0) : lo f a = (a, f) := by
  cases f with
  | zero => rfl
  | succ f => unfold lo; rw [if_neg h]
theorem lo_double {f : Nat} {a : Int} : lo (f + 1) (2 * a) = lo f a := by
  rw [lo_even (by omega)]
  congr 1
  omega
theorem lo_pow {f : Nat} {a : Int} : ∀ k : Nat, lo (f + k) (a * 2 ^ k) = lo f a
  | 0 => by rw [Int.pow_zero, Int.mul_one, Nat.add_zero]
  | k + 1 => by
    rw [show f + (k + 1) = (f + k) + 1 by omega, Int.pow_succ, show a * (2 ^ k * 2) = 2 * (a * 2 ^ k) by rw [← Int.mul_assoc, Int.mul_comm], lo_double]
    exact lo_pow k
theorem lo_eq {f g : Nat} {a b : Int} (h : a * 2 ^ g = b * 2 ^ f) : lo f a = lo g b := by
  rw [← lo_pow (f := f) (a := a) g, ← lo_pow (f := g) (a := b) f, h, Nat.add_comm]
/-- in lowest terms -/
def Can (p : Int × Nat) : Prop := p.2 = 0 ∨ p.1 % 2 = 1
theorem lo_spec : ∀ (f : Nat) (a : Int), (lo f a).2 ≤ f ∧ a = (lo f a).1 * 2 ^ (f - (lo f a).2) ∧ Can (lo f a)
  | 0, a => ⟨Nat.le_refl _, by unfold lo; simp, .inl rfl⟩
  | f + 1, a => by
    by_cases h : a % 2 = 0
    · rw [lo_even h]
      obtain ⟨h1, h2, h3⟩ := lo_spec f (a / 2)
      refine ⟨by omega, ?_, h3⟩
      rw [show f + 1 - (lo f (a / 2)).2 = (f - (lo f (a / 2)).2) + 1 by omega, Int.pow_succ, ← Int.mul_assoc, ← h2]
      omega
    · rw [lo_odd h]
      exact ⟨Nat.le_refl _, by simp, .inr (by show a % 2 = 1; omega)⟩
theorem lo_self {p : Int × Nat} (h : Can p) : lo p.2 p.1 = p := by
  rcases h with h | h
  · rw [h]; exact Prod.ext rfl h.symm
  · exact lo_odd (by omega)
theorem lo_zero : ∀ f : Nat, lo f 0 = (0, 0)
  | 0 => rfl
  | f + 1 => by rw [lo_even (by rfl)]; exact lo_zero f
theorem pow2_pos (k : Nat) : (0 : Int) < 2 ^ k := by
  have := Nat.two_pow_pos k
  have e : ((2 ^ k : Nat) : Int) = (2 : Int) ^ k := by rw [Int.natCast_pow]; rfl
  omega
theorem natAbs_pow2 (k : Nat) : ((2 : Int) ^ k).natAbs = 2 ^ k := by rw [Int.natAbs_pow]; rfl
/-- the sum's half over a common power -/
theorem lo_le (f : Nat) (a : Int) : (lo f a).1.natAbs ≤ a.natAbs := by
  obtain ⟨_, h2, _⟩ := lo_spec f a
  have h3 : a.natAbs = (lo f a).1.natAbs * 2 ^ (f - (lo f a).2) := by
    conv => lhs; rw [h2]
    rw [Int.natAbs_mul, natAbs_pow2]
  rw [h3]
  exact Nat.le_mul_of_pos_right _ (Nat.two_pow_pos _)
/-- the half in the middle -/
def mn (p q : Int × Nat) : Int × Nat := lo (max p.2 q.2 + 1) (p.1 * 2 ^ (max p.2 q.2 - p.2) + q.1 * 2 ^ (max p.2 q.2 - q.2))
def pl (p q : Int × Nat) : Int × Nat := lo (max p.2 q.2) (p.1 * 2 ^ (max p.2 q.2 - p.2) + q.1 * 2 ^ (max p.2 q.2 - q.2))
theorem sum_lo {f : Nat} {a b : Int} : a + b = ((lo f a).1 * 2 ^ (max (lo f a).2 (lo f b).2 - (lo f a).2) + (lo f b).1 * 2 ^ (max (lo f a).2 (lo f b).2 - (lo f b).2)) * 2 ^ (f - max (lo f a).2 (lo f b).2) ∧ max (lo f a).2 (lo f b).2 ≤ f := by
  obtain ⟨h1, h2, _⟩ := lo_spec f a
  obtain ⟨g1, g2, _⟩ := lo_spec f b
  generalize lo f a = p at h1 h2 ⊢
  generalize lo f b = q at g1 g2 ⊢
  have hm : max p.2 q.2 ≤ f := Nat.max_le.mpr ⟨h1, g1⟩
  refine ⟨?_, hm⟩
  have m1 : p.2 ≤ max p.2 q.2 := Nat.le_max_left _ _
  have m2 : q.2 ≤ max p.2 q.2 := Nat.le_max_right _ _
  rw [Int.add_mul, Int.mul_assoc, Int.mul_assoc, ← Int.pow_add, ← Int.pow_add]
  rw [show max p.2 q.2 - p.2 + (f - max p.2 q.2) = f - p.2 by omega, show max p.2 q.2 - q.2 + (f - max p.2 q.2) = f - q.2 by omega, ← h2, ← g2]
theorem mn_lo {f : Nat} {a b : Int} : mn (lo f a) (lo f b) = lo (f + 1) (a + b) := by
  obtain ⟨h1, h2⟩ := sum_lo (f := f) (a := a) (b := b)
  unfold mn
  rw [h1, show f + 1 = (max (lo f a).2 (lo f b).2 + 1) + (f - max (lo f a).2 (lo f b).2) by omega, lo_pow]
theorem pl_lo {f : Nat} {a b : Int} : pl (lo f a) (lo f b) = lo f (a + b) := by
  obtain ⟨h1, h2⟩ := sum_lo (f := f) (a := a) (b := b)
  unfold pl
  have e : max (lo f a).2 (lo f b).2 + (f - max (lo f a).2 (lo f b).2) = f := by omega
  have := lo_pow (f := max (lo f a).2 (lo f b).2) (a := (lo f a).1 * 2 ^ (max (lo f a).2 (lo f b).2 - (lo f a).2) + (lo f b).1 * 2 ^ (max (lo f a).2 (lo f b).2 - (lo f b).2)) (f - max (lo f a).2 (lo f b).2)
  rw [e, ← h1] at this
  exact this.symm
/-- a half as data -/
def hD (p : Int × Nat) : D := .tup [.int p.1, .int p.2]
/-- not too long -/
def Sz (m : Nat) (a : Int) : Prop := a.natAbs < 2 ^ m
theorem Sz.mono {m n : Nat} {a : Int} (h : Sz m a) (l : m ≤ n) : Sz n a := Nat.lt_of_lt_of_le h (Nat.pow_le_pow_right (by decide) l)
theorem Sz.add {m : Nat} {a b : Int} (h : Sz m a) (g : Sz m b) : Sz (m + 1) (a + b) := by
  unfold Sz at *
  rw [Nat.pow_succ]
  omega
theorem Sz.dbl {m : Nat} {a : Int} (h : Sz m a) : Sz (m + 1) (2 * a) := by
  unfold Sz at *
  rw [Nat.pow_succ]
  omega
theorem Sz.mulp {m : Nat} {a : Int} (h : Sz m a) (k : Nat) : Sz (m + k) (a * 2 ^ k) := by
  unfold Sz at *
  rw [Int.natAbs_mul, natAbs_pow2, Nat.pow_add]
  exact Nat.mul_lt_mul_of_pos_right h (Nat.two_pow_pos _)
theorem Sz.lo {m f : Nat} {a : Int} (h : Sz m a) : Sz m (lo f a).1 := Nat.lt_of_le_of_lt (lo_le f a) h
theorem Sz.pow (k : Nat) : Sz (k + 1) ((2 : Int) ^ k) := by
  unfold Sz
  rw [natAbs_pow2]
  exact Nat.pow_lt_pow_right (by decide) (by omega)
theorem bits_le {m : Nat} {a : Int} (h : Sz m a) : Builtin.Int.intBits a ≤ m + 1 := by
  unfold Builtin.Int.intBits
  split
  · omega
  · rename_i hz
    have hz : a.natAbs ≠ 0 := by simpa using hz
    have := (Nat.log2_lt hz).mpr h
    omega
theorem mulX {m n : Nat} {a b : Int} {S : Store} (h1 : Sz m a) (h2 : Sz n b) (hl : m + n ≤ 1000000) : binD .Mult (.int a) (.int b) S = .ok (.int (a * b)) S := by
  have c : CMulX a b := by
    have g1 := bits_le h1
    have g2 := bits_le h2
    show (Builtin.Int.intBits a : Int) + (Builtin.Int.intBits b : Int) ≤ 134217728
    omega
  show (if CMul a b ∨ CMulX a b then _ else _) = _
  rw [if_pos (.inr c)]
theorem divW {a b : Int} {S : Store} (h : CDivW a b) : binD .FloorDiv (.int a) (.int b) S = .ok (.int (a / b)) S := by
  show (if CDivW a b then R.ok (D.int (a / b)) S else R.bad) = _
  rw [if_pos h]
/-! ### the package's halves -/
namespace H
def b_half : S := (.sq (.ife (.cmp .Eq (.var 0) (.int (0))) (.sq (.ret (.tup (.cs (.int (0)) (.cs (.int (0)) .nl)))) .nop) .nop) (.sq (.whl (.and (.cmp .Gt (.var 1) (.int (63))) (.cmp .Eq (.bin .Mod (.var 0) (.bin .LShift (.int (1)) (.int (64)))) (.int (0)))) (.sq (.par [(0, false), (1, false)] (.cs (.bin .FloorDiv (.var 0) (.bin .LShift (.int (1)) (.int (64)))) (.cs (.bin .Sub (.var 1) (.int (64))) .nl))) .nop)) (.sq (.whl (.and (.cmp .Gt (.var 1) (.int (0))) (.cmp .Eq (.bin .Mod (.var 0) (.int (2))) (.int (0)))) (.sq (.par [(0, false), (1, false)] (.cs (.bin .FloorDiv (.var 0) (.int (2))) (.cs (.bin .Sub (.var 1) (.int (1))) .nl))) .nop)) (.sq (.ret (.tup (.cs (.var 0) (.cs (.var 1) .nl)))) .nop))))
def b_in_parts : S := (.sq (.ret (.bin .Mult (.ix (.var 0) (.int (0))) (.bin .LShift (.int (1)) (.bin .Sub (.var 1) (.ix (.var 0) (.int (1))))))) .nop)
def b_mean : S := (.sq (.asg (.var 2) (.b2 .max (.ix (.var 0) (.int (1))) (.ix (.var 1) (.int (1))))) (.sq (.ret (.call "half" (.cs (.bin .Add (.call "in_parts" (.cs (.var 0) (.cs (.var 2) .nl))) (.call "in_parts" (.cs (.var 1) (.cs (.var 2) .nl)))) (.cs (.bin .Add (.var 2) (.int (1))) .nl)))) .nop))
def b_run : S := (.sq (.seto 2 (.b1 .lst (.var 0))) (.sq (.for_ (.tup (.cs (.var 3) (.cs (.var 4) .nl))) (.cs (.var 1) .nl) (.sq (.asg (.var 5) (.call "mean" (.cs (.ix (.own 2) (.var 3)) (.cs (.ix (.own 2) (.var 4)) .nl)))) (.sq (.asg (.tup (.cs (.ix (.own 2) (.var 3)) (.cs (.ix (.own 2) (.var 4)) .nl))) (.tup (.cs (.var 5) (.cs (.var 5) .nl)))) .nop))) (.sq (.ret (.b1 .tup (.own 2))) .nop)))
variable {G : Str → Option D} {T : Str → Option Fn}
theorem p64 : (2 : Int) ^ 64 = 18446744073709551616 := by decide
theorem half (hT : T "half" = some ⟨2, 2, b_half⟩) {k : Nat} {S : Store} {a : Int} {f : Nat} : callF G T (k + 1) "half" [.int a, .int f] S = .ok (hD (lo f a)) S := by
  refine Rw.toEq (Rw_call hT rfl ?_)
  show Ow (exec G _ b_half [.val (.int a), .val (.int f)] S) _
  unfold b_half
  rwa [] at ⊢
  refine if_p (fun hz => ?_) (fun hz => ?_)
  · rwa [] at ⊢
    rw [hz, lo_zero]
    rfl
  · rwa [] at ⊢
    refine Ow_while (fun m v S0 => ∃ (a' : Int) (f' : Nat), v = [.val (.int a'), .val (.int f')] ∧ f' = m ∧ lo f a = lo f' a' ∧ S0 = S) ?_ f _ _ ⟨a, f, rfl, rfl, rfl, rfl⟩
    rintro m v S0 ⟨a', f', rfl, rfl, h0, rfl⟩
    have hdiv : ∀ S, binD .FloorDiv (.int a') (.int 18446744073709551616) S = .ok (.int (a' / 18446744073709551616)) S := fun S => divW ⟨by decide, by decide +kernel⟩
    rwa [30, setPar, hdiv] at *
    · rename_i h1 h2
      have hf : ∃ g, f' = g + 64 := ⟨f' - 64, by omega⟩
      obtain ⟨g, rfl⟩ := hf
      refine ⟨g, by omega, a' / 18446744073709551616, g, ?_, rfl, h0.trans ?_⟩
      · have : ((g + 64 : Nat) : Int) - 64 = (g : Int) := by omega
        rw [this]
      · have := lo_pow (f := g) (a := a' / 18446744073709551616) 64
        rw [p64] at this
        rw [← this]
        congr 1
        omega
    · refine Ow_while (fun m v S1 => ∃ (a2 : Int) (f2 : Nat), v = [.val (.int a2), .val (.int f2)] ∧ f2 = m ∧ lo f a = lo f2 a2 ∧ S1 = S0) ?_ f' _ _ ⟨a', f', rfl, rfl, h0, rfl⟩
      rintro m v S1 ⟨a2, f2, rfl, rfl, h0, rfl⟩
      rwa [30, setPar] at *
      · rename_i h1 h2
        obtain ⟨g, rfl⟩ : ∃ g, f2 = g + 1 := ⟨f2 - 1, by omega⟩
        refine ⟨g, by omega, a2 / 2, g, ?_, rfl, h0.trans (lo_even h2)⟩
        have : ((g + 1 : Nat) : Int) - 1 = (g : Int) := by omega
        rw [this]
      · rename_i h1 h2
        rw [h0, lo_odd h2]
        rfl
      · rename_i h1
        have : f2 = 0 := by omega
        subst this
        rw [h0]
        rfl
    · refine Ow_while (fun m v S1 => ∃ (a2 : Int) (f2 : Nat), v = [.val (.int a2), .val (.int f2)] ∧ f2 = m ∧ lo f a = lo f2 a2 ∧ S1 = S0) ?_ f' _ _ ⟨a', f', rfl, rfl, h0, rfl⟩
      rintro m v S1 ⟨a2, f2, rfl, rfl, h0, rfl⟩
      rwa [30, setPar] at *
      · rename_i h1 h2
        obtain ⟨g, rfl⟩ : ∃ g, f2 = g + 1 := ⟨f2 - 1, by omega⟩
        refine ⟨g, by omega, a2 / 2, g, ?_, rfl, h0.trans (lo_even h2)⟩
        have : ((g + 1 : Nat) : Int) - 1 = (g : Int) := by omega
        rw [this]
      · rename_i h1 h2
        rw [h0, lo_odd h2]
        rfl
      · rename_i h1
        have : f2 = 0 := by omega
        subst this
        rw [h0]
        rfl
theorem in_parts (hT : T "in_parts" = some ⟨2, 2, b_in_parts⟩) {k : Nat} {S : Store} {p : Int × Nat} {f m : Nat} (h1 : p.2 ≤ f) (h2 : f ≤ 100000) (h3 : Sz m p.1) (h4 : m ≤ 500000) : callF G T (k + 1) "in_parts" [hD p, .int f] S = .ok (.int (p.1 * 2 ^ (f - p.2))) S := by
  refine Rw.toEq (Rw_call hT rfl ?_)
  show Ow (exec G _ b_in_parts [.val (.tup [.int p.1, .int p.2]), .val (.int f)] S) _
  unfold b_in_parts
  have e : ((f : Int) - (p.2 : Int)).toNat = f - p.2 := by omega
  have hm : ∀ S, binD .Mult (.int p.1) (.int (1 * 2 ^ (f - p.2))) S = .ok (.int (p.1 * 2 ^ (f - p.2))) S := fun S => by
    rw [mulX (m := m) (n := f - p.2 + 1) h3 (by rw [Int.one_mul]; exact Sz.pow _) (by omega), Int.one_mul]
  rwa [e, hm] at ⊢
theorem mean (hH : T "half" = some ⟨2, 2, b_half⟩) (hI : T "in_parts" = some ⟨2, 2, b_in_parts⟩) (hT : T "mean" = some ⟨2, 3, b_mean⟩) {k : Nat} {S : Store} {p q : Int × Nat} {m : Nat} (h1 : p.2 ≤ 99999) (h2 : q.2 ≤ 99999) (h3 : Sz m p.1) (h4 : Sz m q.1) (h5 : m ≤ 300000) :
    callF G T (k + 2) "mean" [hD p, hD q] S = .ok (hD (mn p q)) S := by
  refine Rw.toEq (Rw_call hT rfl ?_)
  show Ow (exec G _ b_mean [.val (.tup [.int p.1, .int p.2]), .val (.tup [.int q.1, .int q.2]), .no] S) _
  unfold b_mean
  have m1 : p.2 ≤ max p.2 q.2 := Nat.le_max_left _ _
  have m2 : q.2 ≤ max p.2 q.2 := Nat.le_max_right _ _
  have m3 : max p.2 q.2 ≤ 99999 := Nat.max_le.mpr ⟨h1, h2⟩
  have e : (if (q.2 : Int) > (p.2 : Int) then (q.2 : Int) else (p.2 : Int)) = ((max p.2 q.2 : Nat) : Int) := by split <;> omega
  have k1 : ∀ S, callF G T (k + 1) "in_parts" [.tup [.int p.1, .int p.2], .int ((max p.2 q.2 : Nat) : Int)] S = .ok (.int (p.1 * 2 ^ (max p.2 q.2 - p.2))) S := fun S => in_parts hI (p := p) m1 (by omega) h3 (by omega)
  have k2 : ∀ S, callF G T (k + 1) "in_parts" [.tup [.int q.1, .int q.2], .int ((max p.2 q.2 : Nat) : Int)] S = .ok (.int (q.1 * 2 ^ (max p.2 q.2 - q.2))) S := fun S => in_parts hI (p := q) m2 (by omega) h4 (by omega)
  have k3 : ∀ a S, callF G T (k + 1) "half" [.int a, .int (((max p.2 q.2 : Nat) : Int) + 1)] S = .ok (hD (lo (max p.2 q.2 + 1) a)) S := fun a S => by
    have := half (G := G) hH (k := k) (S := S) (a := a) (f := max p.2 q.2 + 1)
    rw [show ((max p.2 q.2 + 1 : Nat) : Int) = ((max p.2 q.2 : Nat) : Int) + 1 by omega] at this
    exact this
  rwa [e, k1, k2, k3] at ⊢
  rfl
end H
end IL
/-! JL: rows of mixes over a common power of two; the package's run. -/
namespace IL
open PySem PySem.Spec PyProof.Rows L2
/-- one mix, all numbers doubled -/
def stepN (ns : List Int) (ij : Nat × Nat) : List Int := ((ns.map (2 * ·)).set ij.1 (ns.getD ij.1 0 + ns.getD ij.2 0)).set ij.2 (ns.getD ij.1 0 + ns.getD ij.2 0)
def runN (ns : List Int) (row : List (Nat × Nat)) : List Int := row.foldl stepN ns
theorem stepN_len {ns : List Int} {ij : Nat × Nat} : (stepN ns ij).length = ns.length := by
  unfold stepN
  rw [List.length_set, List.length_set, List.length_map]
theorem runN_len : ∀ {row : List (Nat × Nat)} {ns : List Int}, (runN ns row).length = ns.length
  | [], _ => rfl
  | ij :: row, ns => by
    show (runN (stepN ns ij) row).length = _
    rw [runN_len, stepN_len]
theorem runN_take {row : List (Nat × Nat)} {ns : List Int} {t : Nat} {ij : Nat × Nat} (h : row[t]? = some ij) : runN ns (row.take (t + 1)) = stepN (runN ns (row.take t)) ij := by
  obtain ⟨hl, rfl⟩ := List.getElem?_eq_some_iff.mp h
  rw [List.take_succ_eq_append_getElem hl]
  unfold runN
  rw [List.foldl_append]
  rfl
theorem getD_mem {ns : List Int} {i : Nat} : ns.getD i 0 = 0 ∨ ns.getD i 0 ∈ ns := by
  rw [List.getD_eq_getElem?_getD]
  cases h : ns[i]? with
  | none => left; rfl
  | some x => right; exact List.mem_of_getElem? h
theorem Sz.zero {m : Nat} : Sz m 0 := Nat.two_pow_pos m
theorem mem_set {α : Type} {xs : List α} {i : Nat} {a x : α} (h : x ∈ xs.set i a) : x ∈ xs ∨ x = a := by
  rcases List.mem_or_eq_of_mem_set h with h | h
  · exact .inl h
  · exact .inr h
theorem stepN_sz {m : Nat} {ns : List Int} {ij : Nat × Nat} (h : ∀ x ∈ ns, Sz m x) : ∀ x ∈ stepN ns ij, Sz (m + 1) x := by
  have hg : ∀ i, Sz m (ns.getD i 0) := fun i => by
    rcases getD_mem (ns := ns) (i := i) with q | q
    · rw [q]; exact Sz.zero
    · exact h _ q
  intro x hx
  unfold stepN at hx
  rcases mem_set hx with hx | rfl
  · rcases mem_set hx with hx | rfl
    · obtain ⟨y, hy, rfl⟩ := List.mem_map.mp hx
      exact (h y hy).dbl
    · exact (hg _).add (hg _)
  · exact (hg _).add (hg _)
theorem runN_sz : ∀ {row : List (Nat × Nat)} {m : Nat} {ns : List Int}, (∀ x ∈ ns, Sz m x) → ∀ x ∈ runN ns row, Sz (m + row.length) x
  | [], m, ns, h => h
  | ij :: row, m, ns, h => by
    have := runN_sz (row := row) (stepN_sz (ij := ij) h)
    rw [List.length_cons, show m + (row.length + 1) = m + 1 + row.length by omega]
    exact this
/-- a row as data -/
def rowD (row : List (Nat × Nat)) : List D := row.map fun ij => D.tup [.int (ij.1 : Int), .int (ij.2 : Int)]
/-- of n drops -/
def OkRow (n : Nat) (row : List (Nat × Nat)) : Prop := ∀ ij ∈ row, ij.1 < n ∧ ij.2 < n
/-- a plate as data -/
def plD (f : Nat) (ns : List Int) : List D := ns.map fun a => hD (lo f a)
theorem plD_len {f : Nat} {ns : List Int} : (plD f ns).length = ns.length := List.length_map ..
theorem plD_step {f : Nat} {ns : List Int} {ij : Nat × Nat} : plD (f + 1) (stepN ns ij) = ((plD f ns).set ij.1 (hD (lo (f + 1) (ns.getD ij.1 0 + ns.getD ij.2 0)))).set ij.2 (hD (lo (f + 1) (ns.getD ij.1 0 + ns.getD ij.2 0))) := by
  unfold plD stepN
  rw [List.map_set, List.map_set, List.map_map]
  congr 2
  apply List.map_congr_left
  intro a _
  show hD (lo (f + 1) (2 * a)) = _
  rw [lo_double]
theorem ixN_nat {n i : Nat} (h : i < n) : ixN n (i : Int) = some i := by
  unfold ixN
  rw [if_pos (by omega), if_pos (by omega), Int.toNat_natCast]
theorem ix_pl {f : Nat} {ns : List Int} {i : Nat} {S : Store} (h : i < ns.length) : ixD (.lst (plD f ns)) (.int i) S = .ok (hD (lo f (ns.getD i 0))) S := by
  have e : atI (plD f ns) (i : Int) = some (hD (lo f (ns.getD i 0))) := by
    unfold atI
    rw [plD_len, ixN_nat h, Option.bind_some]
    unfold plD
    rw [List.getElem?_map, List.getElem?_eq_getElem h, List.getD_eq_getElem?_getD, List.getElem?_eq_getElem h]
    rfl
  show (match atI (plD f ns) (i : Int) with | some d => R.ok d S | none => .bad) = _
  rw [e]
namespace H
variable {G : Str → Option D} {T : Str → Option Fn}
theorem run (hH : T "half" = some ⟨2, 2, b_half⟩) (hI : T "in_parts" = some ⟨2, 2, b_in_parts⟩) (hM : T "mean" = some ⟨2, 3, b_mean⟩) (hT : T "run" = some ⟨2, 6, b_run⟩) {k : Nat} {S : Store} {f m : Nat} {ns : List Int} {row : List (Nat × Nat)}
    (h1 : ∀ x ∈ ns, Sz m x) (h2 : OkRow ns.length row) (h3 : f + row.length ≤ 90000) (h4 : m + row.length ≤ 200000) (h5 : ns.length ≤ 1000) :
    callF G T (k + 3) "run" [.tup (plD f ns), .tup (rowD row)] S = .ok (.tup (plD (f + row.length) (runN ns row))) S := by
  refine Rw.toEq (Rw_call hT rfl ?_)
  show Ow (exec G _ b_run [.val (.tup (plD f ns)), .val (.tup (rowD row)), .no, .no, .no, .no] S) _
  unfold b_run
  rwa [ev_lstT] at ⊢
  refine Ow_for (fun t v S1 => ∃ s3 s4 s5 : Slot, v = [.val (.tup (plD f ns)), .val (.tup (rowD row)), .own (plD (f + t) (runN ns (row.take t))), s3, s4, s5] ∧ S1 = S) ⟨_, _, _, rfl, rfl⟩ ?_ ?_
  · rintro t d v S1 hd ⟨s3, s4, s5, rfl, rfl⟩
    unfold rowD at hd
    rw [List.getElem?_map] at hd
    obtain ⟨⟨i, j⟩, hij, rfl⟩ := Option.map_eq_some_iff.mp hd
    have ht : t < row.length := (List.getElem?_eq_some_iff.mp hij).1
    obtain ⟨hi, hj⟩ := h2 _ (List.mem_of_getElem? hij)
    have hs := runN_sz (row := row.take t) h1
    rw [List.length_take, Nat.min_eq_left (by omega)] at hs
    rw [runN_take hij, show f + (t + 1) = (f + t) + 1 by omega, plD_step]
    have hl : (runN ns (row.take t)).length = ns.length := runN_len
    generalize runN ns (row.take t) = cur at hs hl
    have hg : ∀ i, Sz (m + t) (cur.getD i 0) := fun i => by
      rcases getD_mem (ns := cur) (i := i) with q | q
      · rw [q]; exact Sz.zero
      · exact hs _ q
    have e1 : ∀ S, ixD (.lst (plD (f + t) cur)) (.int i) S = .ok (hD (lo (f + t) (cur.getD i 0))) S := fun S => ix_pl (by show i < _; rw [hl]; exact hi)
    have e2 : ∀ S, ixD (.lst (plD (f + t) cur)) (.int j) S = .ok (hD (lo (f + t) (cur.getD j 0))) S := fun S => ix_pl (by show j < _; rw [hl]; exact hj)
    have e3 : ∀ S, callF G T (k + 2) "mean" [hD (lo (f + t) (cur.getD i 0)), hD (lo (f + t) (cur.getD j 0))] S = .ok (hD (lo (f + t + 1) (cur.getD i 0 + cur.getD j 0))) S := fun S => by
      rw [mean hH hI hM (m := m + t) (by have := (lo_spec (f + t) (cur.getD i 0)).1; omega) (by have := (lo_spec (f + t) (cur.getD j 0)).1; omega) (hg i).lo (hg j).lo (by omega), mn_lo]
    have x1 : ixN (plD (f + t) cur).length (i : Int) = some i := ixN_nat (by rw [plD_len, hl]; exact hi)
    have x2 : ∀ d, ixN ((plD (f + t) cur).set i d).length (j : Int) = some j := fun d => ixN_nat (by rw [List.length_set, plD_len, hl]; exact hj)
    rwa [e1, e2, e3, setOwnD, x1, x2] at ⊢
    exact ⟨_, _, _, rfl⟩
  · rintro v S1 ⟨s3, s4, s5, rfl, rfl⟩
    have e : (rowD row).length = row.length := List.length_map ..
    rw [e, List.take_length]
    rwa [ev_tupL] at ⊢
end H
/-! ### drops of several dyes -/
def sumV (Ns : List (List Int)) (ij : Nat × Nat) : List Int := List.zipWith (· + ·) (Ns.getD ij.1 []) (Ns.getD ij.2 [])
def stepV (Ns : List (List Int)) (ij : Nat × Nat) : List (List Int) := ((Ns.map fun r => r.map (2 * ·)).set ij.1 (sumV Ns ij)).set ij.2 (sumV Ns ij)
def runV (Ns : List (List Int)) (row : List (Nat × Nat)) : List (List Int) := row.foldl stepV Ns
theorem stepV_len {ns : List (List Int)} {ij : Nat × Nat} : (stepV ns ij).length = ns.length := by
  unfold stepV
  rw [List.length_set, List.length_set, List.length_map]
theorem runV_len : ∀ {row : List (Nat × Nat)} {ns : List (List Int)}, (runV ns row).length = ns.length
  | [], _ => rfl
  | ij :: row, ns => by
    show (runV (stepV ns ij) row).length = _
    rw [runV_len, stepV_len]
theorem runV_take {row : List (Nat × Nat)} {ns : List (List Int)} {t : Nat} {ij : Nat × Nat} (h : row[t]? = some ij) : runV ns (row.take (t + 1)) = stepV (runV ns (row.take t)) ij := by
  obtain ⟨hl, rfl⟩ := List.getElem?_eq_some_iff.mp h
  rw [List.take_succ_eq_append_getElem hl]
  unfold runV
  rw [List.foldl_append]
  rfl
theorem runV_app {Ns : List (List Int)} {a b : List (Nat × Nat)} : runV Ns (a ++ b) = runV (runV Ns a) b := by unfold runV; rw [List.foldl_append]
theorem runN_app {ns : List Int} {a b : List (Nat × Nat)} : runN ns (a ++ b) = runN (runN ns a) b := by unfold runN; rw [List.foldl_append]
/-- all drops of k dyes -/
def Wd (k : Nat) (Ns : List (List Int)) : Prop := ∀ r ∈ Ns, r.length = k
theorem getDV {k : Nat} {Ns : List (List Int)} (h : Wd k Ns) {i : Nat} (hi : i < Ns.length) : (Ns.getD i []).length = k := by
  rw [List.getD_eq_getElem?_getD, List.getElem?_eq_getElem hi]
  exact h _ (List.getElem_mem _)
theorem sumV_len {k : Nat} {Ns : List (List Int)} (h : Wd k Ns) {ij : Nat × Nat} (hi : ij.1 < Ns.length) (hj : ij.2 < Ns.length) : (sumV Ns ij).length = k := by
  unfold sumV
  rw [List.length_zipWith, getDV h hi, getDV h hj, Nat.min_self]
theorem stepV_wd {k : Nat} {Ns : List (List Int)} (h : Wd k Ns) {ij : Nat × Nat} (hi : ij.1 < Ns.length) (hj : ij.2 < Ns.length) : Wd k (stepV Ns ij) := by
  intro r hr
  unfold stepV at hr
  rcases mem_set hr with hr | rfl
  · rcases mem_set hr with hr | rfl
    · obtain ⟨y, hy, rfl⟩ := List.mem_map.mp hr
      rw [List.length_map]; exact h y hy
    · exact sumV_len h hi hj
  · exact sumV_len h hi hj
theorem runV_wd {k : Nat} : ∀ {row : List (Nat × Nat)} {Ns : List (List Int)}, Wd k Ns → OkRow Ns.length row → Wd k (runV Ns row)
  | [], _, h, _ => h
  | ij :: row, Ns, h, hr => by
    have h0 := hr ij List.mem_cons_self
    exact runV_wd (row := row) (stepV_wd h h0.1 h0.2) (by rw [stepV_len]; exact fun q hq => hr q (List.mem_cons_of_mem _ hq))
theorem stepV_col {k c : Nat} {Ns : List (List Int)} (h : Wd k Ns) (hc : c < k) {ij : Nat × Nat} (hi : ij.1 < Ns.length) (hj : ij.2 < Ns.length) : (stepV Ns ij).map (·.getD c 0) = stepN (Ns.map (·.getD c 0)) ij := by
  have e : ∀ i, i < Ns.length → (Ns.map (·.getD c 0)).getD i 0 = (Ns.getD i []).getD c 0 := fun i hi => by
    rw [List.getD_eq_getElem?_getD, List.getElem?_map, List.getD_eq_getElem?_getD (l := Ns), List.getElem?_eq_getElem hi]
    rfl
  have es : (sumV Ns ij).getD c 0 = (Ns.getD ij.1 []).getD c 0 + (Ns.getD ij.2 []).getD c 0 := by
    have l1 := getDV h hi
    have l2 := getDV h hj
    unfold sumV
    generalize Ns.getD ij.1 [] = u at l1 ⊢
    generalize Ns.getD ij.2 [] = w at l2 ⊢
    rw [List.getD_eq_getElem?_getD, List.getD_eq_getElem?_getD, List.getD_eq_getElem?_getD, List.getElem?_zipWith, List.getElem?_eq_getElem (by omega : c < u.length), List.getElem?_eq_getElem (by omega : c < w.length)]
    rfl
  unfold stepV stepN
  rw [List.map_set, List.map_set, es, e _ hi, e _ hj, List.map_map, List.map_map]
  congr 2
  apply List.map_congr_left
  intro r hr
  show (r.map (2 * ·)).getD c 0 = 2 * r.getD c 0
  rw [List.getD_eq_getElem?_getD, List.getD_eq_getElem?_getD, List.getElem?_map]
  cases r[c]? <;> rfl
theorem runV_col {k c : Nat} (hc : c < k) : ∀ {row : List (Nat × Nat)} {Ns : List (List Int)}, Wd k Ns → OkRow Ns.length row → (runV Ns row).map (·.getD c 0) = runN (Ns.map (·.getD c 0)) row
  | [], _, _, _ => rfl
  | ij :: row, Ns, h, hr => by
    have h0 := hr ij List.mem_cons_self
    show (runV (stepV Ns ij) row).map _ = runN (stepN _ ij) row
    rw [runV_col hc (stepV_wd h h0.1 h0.2) (by rw [stepV_len]; exact fun q hq => hr q (List.mem_cons_of_mem _ hq)), stepV_col h hc h0.1 h0.2]
def SzV (m : Nat) (Ns : List (List Int)) : Prop := ∀ r ∈ Ns, ∀ x ∈ r, Sz m x
theorem getD_szV {m : Nat} {Ns : List (List Int)} (h : SzV m Ns) (i : Nat) : ∀ x ∈ Ns.getD i [], Sz m x := fun x hx => by
  rw [List.getD_eq_getElem?_getD] at hx
  cases q : Ns[i]? with
  | none => rw [q] at hx; cases hx
  | some r => rw [q] at hx; exact h r (List.mem_of_getElem? q) x hx
theorem zipAdd_sz {m : Nat} : ∀ {u w : List Int}, (∀ x ∈ u, Sz m x) → (∀ x ∈ w, Sz m x) → ∀ x ∈ List.zipWith (· + ·) u w, Sz (m + 1) x
  | [], _, _, _, x, hx => by simp at hx
  | _ :: _, [], _, _, x, hx => by simp at hx
  | a :: u, b :: w, h, g, x, hx => by
    rw [List.zipWith_cons_cons] at hx
    rcases List.mem_cons.mp hx with rfl | hx
    · exact (h a List.mem_cons_self).add (g b List.mem_cons_self)
    · exact zipAdd_sz (fun y hy => h y (List.mem_cons_of_mem _ hy)) (fun y hy => g y (List.mem_cons_of_mem _ hy)) x hx
theorem stepV_sz {m : Nat} {Ns : List (List Int)} {ij : Nat × Nat} (h : SzV m Ns) : SzV (m + 1) (stepV Ns ij) := by
  have hs : ∀ x ∈ sumV Ns ij, Sz (m + 1) x := zipAdd_sz (getD_szV h _) (getD_szV h _)
  intro r hr
  unfold stepV at hr
  rcases mem_set hr with hr | rfl
  · rcases mem_set hr with hr | rfl
    · obtain ⟨y, hy, rfl⟩ := List.mem_map.mp hr
      intro x hx
      obtain ⟨z, hz, rfl⟩ := List.mem_map.mp hx
      exact (h y hy z hz).dbl
    · exact hs
  · exact hs
theorem runV_sz : ∀ {row : List (Nat × Nat)} {m : Nat} {Ns : List (List Int)}, SzV m Ns → SzV (m + row.length) (runV Ns row)
  | [], m, Ns, h => h
  | ij :: row, m, Ns, h => by
    have := runV_sz (row := row) (stepV_sz (ij := ij) h)
    rw [List.length_cons, show m + (row.length + 1) = m + 1 + row.length by omega]
    exact this
/-- a dyed plate as data -/
def dyD (f : Nat) (Ns : List (List Int)) : List D := Ns.map fun r => D.tup (plD f r)
theorem dyD_len {f : Nat} {ns : List (List Int)} : (dyD f ns).length = ns.length := List.length_map ..
theorem plD_dbl {f : Nat} {r : List Int} : plD (f + 1) (r.map (2 * ·)) = plD f r := by
  unfold plD
  rw [List.map_map]
  apply List.map_congr_left
  intro a _
  show hD (lo (f + 1) (2 * a)) = _
  rw [lo_double]
theorem dyD_step {f : Nat} {Ns : List (List Int)} {ij : Nat × Nat} : dyD (f + 1) (stepV Ns ij) = ((dyD f Ns).set ij.1 (.tup (plD (f + 1) (sumV Ns ij)))).set ij.2 (.tup (plD (f + 1) (sumV Ns ij))) := by
  unfold dyD stepV
  rw [List.map_set, List.map_set, List.map_map]
  congr 2
  apply List.map_congr_left
  intro r _
  show D.tup (plD (f + 1) (r.map (2 * ·))) = _
  rw [plD_dbl]
theorem ix_dy {f : Nat} {ns : List (List Int)} {i : Nat} {S : Store} (h : i < ns.length) : ixD (.lst (dyD f ns)) (.int i) S = .ok (.tup (plD f (ns.getD i []))) S := by
  have e : atI (dyD f ns) (i : Int) = some (.tup (plD f (ns.getD i []))) := by
    unfold atI
    rw [dyD_len, ixN_nat h, Option.bind_some]
    unfold dyD
    rw [List.getElem?_map, List.getElem?_eq_getElem h, List.getD_eq_getElem?_getD, List.getElem?_eq_getElem h]
    rfl
  show (match atI (dyD f ns) (i : Int) with | some d => R.ok d S | none => .bad) = _
  rw [e]
theorem zipD_pl {f : Nat} : ∀ {u w : List Int}, zipD (plD f u) (plD f w) = (u.zip w).map fun p => D.tup [hD (lo f p.1), hD (lo f p.2)]
  | [], _ => by simp [plD, zipD]
  | _ :: _, [] => by simp [plD, zipD]
  | a :: u, b :: w => by
    have := zipD_pl (f := f) (u := u) (w := w)
    unfold plD at this ⊢
    rw [List.map_cons, List.map_cons, zipD, this, List.zip_cons_cons, List.map_cons]
theorem zip_sum {f : Nat} : ∀ {u w : List Int}, ((u.zip w).map fun p => hD (lo f (p.1 + p.2))) = plD f (List.zipWith (· + ·) u w)
  | [], _ => by simp [plD]
  | _ :: _, [] => by simp [plD]
  | a :: u, b :: w => by
    rw [List.zip_cons_cons, List.map_cons, zip_sum, List.zipWith_cons_cons]
    rfl
theorem compF_okL {g : D → Store → R (Option D)} {α : Type} (u : α → D) (f : α → D) {S : Store} {ds : List α} (h : ∀ d ∈ ds, g (u d) S = .ok (some (f d)) S) (hl : ds.length ≤ 1000000) : compF g (ds.map u) [] S = .ok (.lst (ds.map f)) S := by
  have go : ∀ (ds : List α) (acc : List D), (∀ d ∈ ds, g (u d) S = .ok (some (f d)) S) → acc.length + ds.length ≤ 1000000 → compF g (ds.map u) acc S = .ok (.lst (acc ++ ds.map f)) S := by
    intro ds
    induction ds with
    | nil =>
      intro acc _ hl
      rw [List.map_nil, List.map_nil, List.append_nil]
      unfold compF
      rw [if_pos (Nat.le_trans (by simpa using hl) line_big)]
    | cons d ds ih =>
      intro acc h hl
      rw [List.length_cons] at hl
      rw [List.map_cons]
      unfold compF
      rw [h d List.mem_cons_self]
      show compF g (ds.map u) (acc ++ [f d]) S = _
      rw [ih _ (fun e he => h e (List.mem_cons_of_mem _ he)) (by rw [List.length_append, List.length_singleton]; omega), List.append_assoc]
      rfl
  exact go ds [] h (by simpa using hl)
namespace H
def b_dyed_run : S := (.sq (.seto 2 (.b1 .lst (.var 0))) (.sq (.for_ (.tup (.cs (.var 3) (.cs (.var 4) .nl))) (.cs (.var 1) .nl) (.sq (.asg (.var 5) (.b1 .tup (.comp (.call "mean" (.cs (.var 6) (.cs (.var 7) .nl))) (.tup (.cs (.var 6) (.cs (.var 7) .nl))) (.zip (.ix (.own 2) (.var 3)) (.ix (.own 2) (.var 4))) .nl))) (.sq (.asg (.tup (.cs (.ix (.own 2) (.var 3)) (.cs (.ix (.own 2) (.var 4)) .nl))) (.tup (.cs (.var 5) (.cs (.var 5) .nl)))) .nop))) (.sq (.ret (.b1 .tup (.own 2))) .nop)))
variable {G : Str → Option D} {T : Str → Option Fn}
theorem dyed_run (hH : T "half" = some ⟨2, 2, b_half⟩) (hI : T "in_parts" = some ⟨2, 2, b_in_parts⟩) (hM : T "mean" = some ⟨2, 3, b_mean⟩) (hT : T "dyed_run" = some ⟨2, 8, b_dyed_run⟩) {k : Nat} {S : Store} {f m w : Nat} {Ns : List (List Int)} {row : List (Nat × Nat)}
    (hw : Wd w Ns) (h1 : SzV m Ns) (h2 : OkRow Ns.length row) (h3 : f + row.length ≤ 90000) (h4 : m + row.length ≤ 200000) (h5 : Ns.length ≤ 1000) (h6 : w ≤ 1000) :
    callF G T (k + 3) "dyed_run" [.tup (dyD f Ns), .tup (rowD row)] S = .ok (.tup (dyD (f + row.length) (runV Ns row))) S := by
  refine Rw.toEq (Rw_call hT rfl ?_)
  show Ow (exec G _ b_dyed_run [.val (.tup (dyD f Ns)), .val (.tup (rowD row)), .no, .no, .no, .no, .no, .no] S) _
  unfold b_dyed_run
  rwa [ev_lstT] at ⊢
  refine Ow_for (fun t v S1 => ∃ s3 s4 s5 s6 s7 : Slot, v = [.val (.tup (dyD f Ns)), .val (.tup (rowD row)), .own (dyD (f + t) (runV Ns (row.take t))), s3, s4, s5, s6, s7] ∧ S1 = S) ⟨_, _, _, _, _, rfl, rfl⟩ ?_ ?_
  · rintro t d v S1 hd ⟨s3, s4, s5, s6, s7, rfl, rfl⟩
    unfold rowD at hd
    rw [List.getElem?_map] at hd
    obtain ⟨⟨i, j⟩, hij, rfl⟩ := Option.map_eq_some_iff.mp hd
    have ht : t < row.length := (List.getElem?_eq_some_iff.mp hij).1
    obtain ⟨hi, hj⟩ := h2 _ (List.mem_of_getElem? hij)
    have hs := runV_sz (row := row.take t) h1
    rw [List.length_take, Nat.min_eq_left (by omega)] at hs
    have hwd := runV_wd (row := row.take t) hw (fun q hq => h2 q (List.mem_of_mem_take hq))
    rw [runV_take hij, show f + (t + 1) = (f + t) + 1 by omega, dyD_step]
    have hl : (runV Ns (row.take t)).length = Ns.length := runV_len
    generalize runV Ns (row.take t) = cur at hs hl hwd
    have e1 : ∀ S, ixD (.lst (dyD (f + t) cur)) (.int i) S = .ok (.tup (plD (f + t) (cur.getD i []))) S := fun S => ix_dy (by show i < _; rw [hl]; exact hi)
    have e2 : ∀ S, ixD (.lst (dyD (f + t) cur)) (.int j) S = .ok (.tup (plD (f + t) (cur.getD j []))) S := fun S => ix_dy (by show j < _; rw [hl]; exact hj)
    have x1 : ixN (dyD (f + t) cur).length (i : Int) = some i := ixN_nat (by rw [dyD_len, hl]; exact hi)
    have x2 : ∀ d, ixN ((dyD (f + t) cur).set i d).length (j : Int) = some j := fun d => ixN_nat (by rw [List.length_set, dyD_len, hl]; exact hj)
    have z1 := getD_szV hs i
    have z2 := getD_szV hs j
    have l1 : (cur.getD i []).length = w := getDV hwd (by rw [hl]; exact hi)
    rwa [e1, e2] at ⊢
    rw [zipD_pl]
    refine Rw.eq (compF_okL (fun p : Int × Int => D.tup [hD (lo (f + t) p.1), hD (lo (f + t) p.2)]) (fun p => hD (lo (f + t + 1) (p.1 + p.2))) (fun p hp => ?_) (by rw [List.length_zip]; omega)) ?_
    · have q1 := z1 _ (List.of_mem_zip hp).1
      have q2 := z2 _ (List.of_mem_zip hp).2
      have e3 : ∀ S, callF G T (k + 2) "mean" [hD (lo (f + t) p.1), hD (lo (f + t) p.2)] S = .ok (hD (lo (f + t + 1) (p.1 + p.2))) S := fun S => by
        rw [mean hH hI hM (m := m + t) (by have := (lo_spec (f + t) p.1).1; omega) (by have := (lo_spec (f + t) p.2).1; omega) q1.lo q2.lo (by omega), mn_lo]
      refine Rw.toEq ?_
      rwa [e3] at ⊢
    · rw [zip_sum]
      rwa [ev_tupL, setOwnD, x1, x2] at ⊢
      exact ⟨_, _, _, _, _, rfl⟩
  · rintro v S1 ⟨s3, s4, s5, s6, s7, rfl, rfl⟩
    have e : (rowD row).length = row.length := List.length_map ..
    rw [e, List.take_length]
    rwa [ev_tupL] at ⊢
end H
end IL
/-! JM: cells that are walked, read, written; stores that only grow. -/
namespace IL
open PySem PySem.Spec PyProof.Rows L2
/-- what stood stands -/
def Grow (S S' : Store) : Prop := S.length ≤ S'.length ∧ ∀ m, m < S.length → S'[m]? = S[m]?
theorem Grow.refl {S : Store} : Grow S S := ⟨Nat.le_refl _, fun _ _ => rfl⟩
theorem Grow.trans {S S1 S2 : Store} (a : Grow S S1) (b : Grow S1 S2) : Grow S S2 := ⟨Nat.le_trans a.1 b.1, fun m h => (b.2 m (Nat.lt_of_lt_of_le h a.1)).trans (a.2 m h)⟩
theorem Grow.app {S : Store} {c : Cell} : Grow S (S ++ [c]) := ⟨by rw [List.length_append]; omega, fun m h => List.getElem?_append_left h⟩
theorem Grow.set {S S' : Store} {n : Nat} {c : Cell} (h : Grow S S') (hn : S.length ≤ n) : Grow S (S'.set n c) := ⟨by rw [List.length_set]; exact h.1, fun m hm => by rw [List.getElem?_set_ne (by omega)]; exact h.2 m hm⟩
theorem Grow.get {S S' : Store} {n : Nat} {c : Cell} (h : Grow S S') (hn : S[n]? = some c) : S'[n]? = some c := by rw [h.2 n (List.getElem?_eq_some_iff.mp hn).1]; exact hn
theorem new_here {S : Store} {c : Cell} : (S ++ [c])[S.length]? = some c := by
  rw [List.getElem?_append_right (Nat.le_refl _), Nat.sub_self]; rfl
theorem jarB_grow {S S' : Store} {j f n : Nat} (h : B.Jar S j f n) (g : Grow S S') : B.Jar S' j f n := by
  obtain ⟨h0, fs, st, count, h1, h2, h3⟩ := h
  exact ⟨h0, fs, st, count, g.get h1, g.get h2, h3⟩
theorem jarA_grow {S S' : Store} {j f n : Nat} (h : A.Jar S j f n) (g : Grow S S') : A.Jar S' j f n := by
  obtain ⟨h0, fs, cs, sm, count, h1, h2, h3⟩ := h
  exact ⟨h0, fs, cs, sm, count, g.get h1, g.get h2, h3⟩
section
variable {S : Store} {n : Nat} {xs : List D}
theorem lsC (h : S[n]? = some (.lst xs)) : lsI (.ref n) S = some (cellI n xs.length, [(n, xs.length)]) := by
  unfold lsI
  simp only [h]
theorem endsC (h : S[n]? = some (.lst xs)) : endsOk [(n, xs.length)] S = true := by
  unfold endsOk
  simp [h]
/-- a comprehension over a cell that stands -/
theorem compC_ok {g : D → Store → R (Option D)} {α : Type} (u f : α → D) {ds : List α} (hS : S[n]? = some (.lst (ds.map u))) (h : ∀ d ∈ ds, g (u d) S = .ok (some (f d)) S) (hl : ds.length ≤ 1000000) :
    compC g [(n, (ds.map u).length)] (cellI n (ds.map u).length) [] S = .ok (.lst (ds.map f)) S := by
  have go : ∀ (k : Nat) (its : List It1) (i : Nat) (acc : List D), its = (cellI n (ds.map u).length).drop i → i + k = ds.length → its.length = k → acc = (ds.take i).map f → compC g [(n, (ds.map u).length)] its acc S = .ok (.lst (ds.map f)) S := by
    intro k
    induction k with
    | zero =>
      intro its i acc h1 h2 h3 h4
      have : its = [] := List.length_eq_zero_iff.mp h3
      subst this
      unfold compC
      have e : i = ds.length := by omega
      rw [h4, e, List.take_length, if_pos ⟨endsC hS, by rw [List.length_map]; exact Nat.le_trans hl line_big⟩]
    | succ k ih =>
      intro its i acc h1 h2 h3 h4
      have hi : i < ds.length := by omega
      have hd : (cellI n (ds.map u).length).drop i = It1.at n i (ds.map u).length :: (cellI n (ds.map u).length).drop (i + 1) := by
        have hl : i < (cellI n (ds.map u).length).length := by unfold cellI; rw [List.length_map, List.length_range, List.length_map]; exact hi
        rw [List.drop_eq_getElem_cons hl]
        congr 1
        unfold cellI
        simp
      rw [h1, hd]
      unfold compC
      have hr : rdI (.at n i (ds.map u).length) S = some (u ds[i]) := by
        unfold rdI
        simp only [hS, if_true]
        rw [List.getElem?_map, List.getElem?_eq_getElem hi]
        rfl
      rw [hr]
      show (g (u ds[i]) S).bind _ = _
      rw [h _ (List.getElem_mem _)]
      show compC g _ _ (acc ++ [f ds[i]]) S = _
      refine ih _ (i + 1) _ rfl (by omega) ?_ ?_
      · have : its.length = ((cellI n (ds.map u).length).drop i).length := by rw [h1]
        rw [hd, List.length_cons] at this
        omega
      · rw [h4, List.take_succ_eq_append_getElem hi, List.map_append]
        rfl
  have h0 : (cellI n (ds.map u).length).length = ds.length := by unfold cellI; rw [List.length_map, List.length_range, List.length_map]
  exact go ds.length _ 0 [] (by rw [List.drop_zero]) (by omega) h0 rfl
theorem ixC {i : Nat} {d : D} (h : S[n]? = some (.lst xs)) (hd : xs[i]? = some d) : ixD (.ref n) (.int i) S = .ok d S := by
  have hi : i < xs.length := (List.getElem?_eq_some_iff.mp hd).1
  have e : atI xs (i : Int) = some d := by
    unfold atI
    rw [ixN_nat hi, Option.bind_some, hd]
  simp only [ixD, itemsD, h, e]
theorem setC {i : Nat} {d : D} (h : S[n]? = some (.lst xs)) (hi : i < xs.length) : setIxD (.ref n) (.int i) d S = .ok () (S.set n (.lst (xs.set i d))) := by
  unfold setIxD
  simp only [h, ixN_nat hi]
theorem intsD_map : ∀ ns : List Int, intsD (ns.map D.int) = some ns
  | [] => rfl
  | n :: ns => by
    rw [List.map_cons]
    unfold intsD
    rw [intsD_map ns]
theorem sumC {ns : List Int} (h : S[n]? = some (.lst (ns.map .int))) : b1D .sum (.ref n) S = .ok (.int ns.sum) S := by
  show (match (itemsD (.ref n) S).bind intsD with | some ns => R.ok (D.int ns.sum) S | none => .bad) = _
  unfold itemsD
  simp only [h, Option.bind_some, intsD_map]
theorem maxL {ns : List Int} (h : ns ≠ []) : b1D .max (.lst (ns.map .int)) S = .ok (.int (maxI ns)) S := by
  show (match (itemsD (.lst (ns.map .int)) S).bind intsD with | some ns => if ns ≠ [] then R.ok (D.int (maxI ns)) S else .bad | none => .bad) = _
  unfold itemsD
  simp only [Option.bind_some, intsD_map]
  rw [if_pos h]
end
/-- the most halvings -/
def most (ps : List (Int × Nat)) : Nat := (ps.map (·.2)).foldl max 0
theorem foldl_max_le {b : Nat} : ∀ {fs : List Nat} {a : Nat}, a ≤ b → (∀ f ∈ fs, f ≤ b) → fs.foldl max a ≤ b
  | [], _, h, _ => h
  | f :: fs, a, h, g => foldl_max_le (fs := fs) (Nat.max_le.mpr ⟨h, g f List.mem_cons_self⟩) fun x hx => g x (List.mem_cons_of_mem _ hx)
theorem le_foldl_max : ∀ {fs : List Nat} {a : Nat}, a ≤ fs.foldl max a ∧ ∀ f ∈ fs, f ≤ fs.foldl max a
  | [], a => ⟨Nat.le_refl _, fun f h => by cases h⟩
  | f :: fs, a => by
    obtain ⟨h1, h2⟩ := le_foldl_max (fs := fs) (a := max a f)
    have m1 := Nat.le_max_left a f
    have m2 := Nat.le_max_right a f
    refine ⟨Nat.le_trans m1 h1, fun g hg => ?_⟩
    rcases List.mem_cons.mp hg with rfl | hg
    · exact Nat.le_trans m2 h1
    · exact h2 g hg
theorem most_le {ps : List (Int × Nat)} {b : Nat} (h : ∀ p ∈ ps, p.2 ≤ b) : most ps ≤ b := foldl_max_le (Nat.zero_le _) fun f hf => by
  obtain ⟨p, hp, rfl⟩ := List.mem_map.mp hf
  exact h p hp
theorem le_most {ps : List (Int × Nat)} {p : Int × Nat} (h : p ∈ ps) : p.2 ≤ most ps := le_foldl_max.2 _ (List.mem_map.mpr ⟨p, h, rfl⟩)
theorem maxI_nat : ∀ (fs : List Nat) (a : Nat), (fs.map fun f => ((f : Nat) : Int)).foldl max (a : Int) = ((fs.foldl max a : Nat) : Int)
  | [], _ => rfl
  | f :: fs, a => by
    rw [List.map_cons, List.foldl_cons, List.foldl_cons, ← maxI_nat fs (max a f)]
    congr 1
    omega
theorem maxI_most {ps : List (Int × Nat)} : maxI ((0 : Int) :: ps.map fun p => ((p.2 : Nat) : Int)) = ((most ps : Nat) : Int) := by
  show (ps.map fun p => ((p.2 : Nat) : Int)).foldl max 0 = _
  have := maxI_nat (ps.map (·.2)) 0
  rw [List.map_map] at this
  exact this
end IL
/-! JN: the first family's own halves, rows done by them. -/
namespace IL
open PySem PySem.Spec PyProof.Rows L2
theorem lo_up {f : Nat} {a : Int} : lo ((lo f a).2 + 1) (lo f a).1 = lo (f + 1) a := by
  obtain ⟨h1, h2, _⟩ := lo_spec f a
  have := lo_pow (f := (lo f a).2 + 1) (a := (lo f a).1) (f - (lo f a).2)
  rw [show (lo f a).2 + 1 + (f - (lo f a).2) = f + 1 by omega, ← h2] at this
  exact this.symm
theorem shlX {m k : Nat} {a : Int} {S : Store} (h1 : Sz m a) (hl : m + k ≤ 1000000) : binD .LShift (.int a) (.int k) S = .ok (.int (a * 2 ^ k)) S := by
  have c : CShl a k := by
    have g1 := bits_le h1
    refine ⟨by omega, ?_⟩
    show (Builtin.Int.intBits a : Int) + (k : Int) ≤ 2 ^ 27
    have : (2 : Int) ^ 27 = 134217728 := by decide
    omega
  show (if CShl a k then R.ok (D.int (a * 2 ^ (k : Int).toNat)) S else R.bad) = _
  rw [if_pos c, Int.toNat_natCast]
theorem lo_below {f : Nat} {a b : Int} : decide ((lo f a).1 * 2 ^ (lo f b).2 < (lo f b).1 * 2 ^ (lo f a).2) = decide (a < b) := by
  obtain ⟨h1, h2, _⟩ := lo_spec f a
  obtain ⟨g1, g2, _⟩ := lo_spec f b
  rw [decide_eq_decide]
  have key : ∀ (p q : Int × Nat), p.2 ≤ f → q.2 ≤ f → ((p.1 * 2 ^ q.2 < q.1 * 2 ^ p.2) ↔ p.1 * 2 ^ (f - p.2) < q.1 * 2 ^ (f - q.2)) := by
    intro p q hp hq
    have e1 : p.1 * 2 ^ q.2 * 2 ^ f = p.1 * 2 ^ (f - p.2) * 2 ^ (p.2 + q.2) := by
      rw [Int.mul_assoc, Int.mul_assoc, ← Int.pow_add, ← Int.pow_add]
      congr 2
      omega
    have e2 : q.1 * 2 ^ p.2 * 2 ^ f = q.1 * 2 ^ (f - q.2) * 2 ^ (p.2 + q.2) := by
      rw [Int.mul_assoc, Int.mul_assoc, ← Int.pow_add, ← Int.pow_add]
      congr 2
      omega
    constructor
    · intro h
      have := Int.mul_lt_mul_of_pos_right h (pow2_pos f)
      rw [e1, e2] at this
      exact Int.lt_of_mul_lt_mul_right this (Int.le_of_lt (pow2_pos _))
    · intro h
      have := Int.mul_lt_mul_of_pos_right h (pow2_pos (p.2 + q.2))
      rw [← e1, ← e2] at this
      exact Int.lt_of_mul_lt_mul_right this (Int.le_of_lt (pow2_pos _))
  rw [key _ _ h1 g1, ← h2, ← g2]
namespace A
def b_half1 : S := (.sq (.whl (.and (.cmp .Gt (.var 1) (.int (0))) (.and (.cmp .Eq (.bin .Mod (.b1 .int (.var 0)) (.int (2))) (.int (0))) (.cmp .NotEq (.var 0) (.int (0))))) (.sq (.par [(0, false), (1, false)] (.cs (.bin .FloorDiv (.var 0) (.int (2))) (.cs (.bin .Sub (.var 1) (.int (1))) .nl))) .nop)) (.sq (.ret (.ife (.cmp .NotEq (.var 0) (.int (0))) (.tup (.cs (.var 0) (.cs (.var 1) .nl))) (.tup (.cs (.int (0)) (.cs (.int (0)) .nl))))) .nop))
def b_sum1 : S := (.sq (.asg (.var 3) (.b2 .max (.ix (.var 0) (.int (1))) (.ix (.var 1) (.int (1))))) (.sq (.ret (.call "_law_half" (.cs (.bin .Add (.bin .LShift (.ix (.var 0) (.int (0))) (.bin .Sub (.var 3) (.ix (.var 0) (.int (1))))) (.bin .Mult (.var 2) (.bin .LShift (.ix (.var 1) (.int (0))) (.bin .Sub (.var 3) (.ix (.var 1) (.int (1))))))) (.cs (.var 3) .nl)))) .nop))
def b_middle1 : S := (.sq (.asg (.var 2) (.call "_law_sum" (.cs (.var 0) (.cs (.var 1) (.cs (.int (1)) .nl))))) (.sq (.ret (.call "_law_half" (.cs (.ix (.var 2) (.int (0))) (.cs (.bin .Add (.ix (.var 2) (.int (1))) (.int (1))) .nl)))) .nop))
def b_below1 : S := (.sq (.ret (.cmp .Lt (.bin .LShift (.ix (.var 0) (.int (0))) (.ix (.var 1) (.int (1)))) (.bin .LShift (.ix (.var 1) (.int (0))) (.ix (.var 0) (.int (1)))))) .nop)
def b_done1 : S := (.sq (.seto 2 (.b1 .lst (.var 0))) (.sq (.for_ (.tup (.cs (.var 3) (.cs (.var 4) .nl))) (.cs (.var 1) .nl) (.sq (.asg (.var 5) (.call "_law_middle" (.cs (.ix (.own 2) (.var 3)) (.cs (.ix (.own 2) (.var 4)) .nl)))) (.sq (.asg (.tup (.cs (.ix (.own 2) (.var 3)) (.cs (.ix (.own 2) (.var 4)) .nl))) (.tup (.cs (.var 5) (.cs (.var 5) .nl)))) .nop))) (.sq (.ret (.b1 .tup (.own 2))) .nop)))
variable {G : Str → Option D} {T : Str → Option Fn}
theorem half1 (hT : T "_law_half" = some ⟨2, 2, b_half1⟩) {k : Nat} {S : Store} {a : Int} {f : Nat} : callF G T (k + 1) "_law_half" [.int a, .int f] S = .ok (hD (lo f a)) S := by
  refine Rw.toEq (Rw_call hT rfl ?_)
  show Ow (exec G _ b_half1 [.val (.int a), .val (.int f)] S) _
  unfold b_half1
  rwa [] at ⊢
  refine Ow_while (fun m v S1 => ∃ (a2 : Int) (f2 : Nat), v = [.val (.int a2), .val (.int f2)] ∧ f2 = m ∧ lo f a = lo f2 a2 ∧ S1 = S) ?_ f _ _ ⟨a, f, rfl, rfl, rfl, rfl⟩
  rintro m v S1 ⟨a2, f2, rfl, rfl, h0, rfl⟩
  have fin : ∀ {E : En}, (f2 = 0 ∨ ¬ a2 % 2 = 0 ∨ a2 = 0) → (∀ d, d = hD (lo f a) → E.rt d S1) → Ow (exec G (callF G T k) (.sq (.ret (.ife (.cmp .NotEq (.var 0) (.int (0))) (.tup (.cs (.var 0) (.cs (.var 1) .nl))) (.tup (.cs (.int (0)) (.cs (.int (0)) .nl))))) .nop) [.val (.int a2), .val (.int f2)] S1) E := by
    intro E hf hE
    by_cases hz : a2 = 0
    · subst hz
      have e : (.tup [.int 0, .int 0] : D) = hD (lo f a) := by rw [h0, lo_zero]; rfl
      rwa [] at ⊢
      exact hE _ e
    · have e : (.tup [.int a2, .int f2] : D) = hD (lo f a) := by
        rcases hf with hf | hf | hf
        · subst hf; rw [h0]; rfl
        · rw [h0, lo_odd hf]; rfl
        · exact absurd hf hz
      rwa [hz] at ⊢
      exact hE _ e
  by_cases c1 : 0 < f2
  · by_cases c2 : a2 % 2 = 0
    · by_cases c3 : a2 = 0
      · subst c3
        have c1' : (0 : Int) < (f2 : Int) := by omega
        simp only [tst, den, dens, Rw_bind, Rw_ok, List.getElem?_cons_zero, List.getElem?_cons_succ, ev_gt, ev_bl, c1', decide_true, if_true, ev_intI, ev_mod (j := 2) (by omega), ev_eqI, ev_neI, Int.zero_emod, Bool.not_true, Bool.false_eq_true, if_false]
        exact fin (.inr (.inr rfl)) fun d hd => ⟨hd, rfl⟩
      · obtain ⟨g, rfl⟩ : ∃ g, f2 = g + 1 := ⟨f2 - 1, by omega⟩
        have c1' : (0 : Int) < ((g + 1 : Nat) : Int) := by omega
        have e1 : ((g + 1 : Nat) : Int) - 1 = (g : Int) := by omega
        rwa [c1', c2, c3, setPar, e1] at ⊢
        exact ⟨g, by omega, a2 / 2, g, rfl, rfl, h0.trans (lo_even c2)⟩
    · have c1' : (0 : Int) < (f2 : Int) := by omega
      simp only [tst, den, dens, Rw_bind, Rw_ok, List.getElem?_cons_zero, List.getElem?_cons_succ, ev_gt, ev_bl, c1', decide_true, if_true, ev_intI, ev_mod (j := 2) (by omega), ev_eqI, ev_neI, c2, decide_false, Bool.false_eq_true, if_false]
      exact fin (.inr (.inl c2)) fun d hd => ⟨hd, rfl⟩
  · have c1' : ¬ (0 : Int) < (f2 : Int) := by omega
    simp only [tst, den, dens, Rw_bind, Rw_ok, List.getElem?_cons_zero, List.getElem?_cons_succ, ev_gt, ev_bl, c1', decide_false, Bool.false_eq_true, if_false]
    exact fin (.inl (by omega)) fun d hd => ⟨hd, rfl⟩
theorem sum1 (hH : T "_law_half" = some ⟨2, 2, b_half1⟩) (hT : T "_law_sum" = some ⟨3, 4, b_sum1⟩) {k : Nat} {S : Store} {p q : Int × Nat} {m : Nat} (h1 : p.2 ≤ 99999) (h2 : q.2 ≤ 99999) (h3 : Sz m p.1) (h4 : Sz m q.1) (h5 : m ≤ 300000) :
    callF G T (k + 2) "_law_sum" [hD p, hD q, .int 1] S = .ok (hD (pl p q)) S := by
  refine Rw.toEq (Rw_call hT rfl ?_)
  show Ow (exec G _ b_sum1 [.val (.tup [.int p.1, .int p.2]), .val (.tup [.int q.1, .int q.2]), .val (.int 1), .no] S) _
  unfold b_sum1
  have m1 : p.2 ≤ max p.2 q.2 := Nat.le_max_left _ _
  have m2 : q.2 ≤ max p.2 q.2 := Nat.le_max_right _ _
  have m3 : max p.2 q.2 ≤ 99999 := Nat.max_le.mpr ⟨h1, h2⟩
  have e : (if (q.2 : Int) > (p.2 : Int) then (q.2 : Int) else (p.2 : Int)) = ((max p.2 q.2 : Nat) : Int) := by split <;> omega
  have e1 : ((max p.2 q.2 : Nat) : Int) - (p.2 : Int) = ((max p.2 q.2 - p.2 : Nat) : Int) := by omega
  have e2 : ((max p.2 q.2 : Nat) : Int) - (q.2 : Int) = ((max p.2 q.2 - q.2 : Nat) : Int) := by omega
  have s1 : ∀ S, binD .LShift (.int p.1) (.int ((max p.2 q.2 - p.2 : Nat) : Int)) S = .ok (.int (p.1 * 2 ^ (max p.2 q.2 - p.2))) S := fun S => shlX h3 (by omega)
  have s2 : ∀ S, binD .LShift (.int q.1) (.int ((max p.2 q.2 - q.2 : Nat) : Int)) S = .ok (.int (q.1 * 2 ^ (max p.2 q.2 - q.2))) S := fun S => shlX h4 (by omega)
  have k3 : ∀ a S, callF G T (k + 1) "_law_half" [.int a, .int ((max p.2 q.2 : Nat) : Int)] S = .ok (hD (lo (max p.2 q.2) a)) S := fun a S => half1 hH
  generalize hM : max p.2 q.2 = M at *
  refine sx_sq (sx_asgV ?_)
  simp only [den, Rw_bind, Rw_ok, List.getElem?_cons_zero, List.getElem?_cons_succ, ix_t0, ix_t1, ev_b2max, e, List.set_cons_zero, List.set_cons_succ]
  refine sx_sq (sx_ret ?_)
  simp only [den, dens, Rw_bind, Rw_ok, List.getElem?_cons_zero, List.getElem?_cons_succ, ix_t0, ix_t1, ev_sub, e1, e2, s1, s2, ev_mulL (i := 1) (by omega) (by omega), ev_add, Int.one_mul, k3]
  unfold pl
  rw [hM]
  first | exact ⟨rfl, rfl⟩ | exact ⟨trivial, trivial⟩ | exact ⟨rfl, trivial⟩
theorem middle1 (hH : T "_law_half" = some ⟨2, 2, b_half1⟩) (hS : T "_law_sum" = some ⟨3, 4, b_sum1⟩) (hT : T "_law_middle" = some ⟨2, 3, b_middle1⟩) {k : Nat} {S : Store} {p q : Int × Nat} {m : Nat} (h1 : p.2 ≤ 99999) (h2 : q.2 ≤ 99999) (h3 : Sz m p.1) (h4 : Sz m q.1) (h5 : m ≤ 300000) :
    callF G T (k + 3) "_law_middle" [hD p, hD q] S = .ok (hD (mn p q)) S := by
  refine Rw.toEq (Rw_call hT rfl ?_)
  show Ow (exec G _ b_middle1 [.val (hD p), .val (hD q), .no] S) _
  unfold b_middle1
  have k1 : ∀ S, callF G T (k + 2) "_law_sum" [hD p, hD q, .int 1] S = .ok (hD (pl p q)) S := fun S => sum1 hH hS h1 h2 h3 h4 h5
  have i0 : ∀ S, ixD (hD (pl p q)) (.int 0) S = .ok (.int (pl p q).1) S := fun S => ix_t0
  have i1 : ∀ S, ixD (hD (pl p q)) (.int 1) S = .ok (.int (pl p q).2) S := fun S => ix_t1
  have k3 : ∀ S, callF G T (k + 2) "_law_half" [.int (pl p q).1, .int (((pl p q).2 : Int) + 1)] S = .ok (hD (mn p q)) S := fun S => by
    have := half1 (G := G) hH (k := k + 1) (S := S) (a := (pl p q).1) (f := (pl p q).2 + 1)
    rw [show (((pl p q).2 + 1 : Nat) : Int) = ((pl p q).2 : Int) + 1 by omega] at this
    rw [this]
    unfold pl mn
    rw [lo_up]
  rwa [k1, i0, i1, k3] at ⊢
theorem below1 (hT : T "_law_is_below" = some ⟨2, 2, b_below1⟩) {k : Nat} {S : Store} {f m : Nat} {a b : Int} (h1 : f ≤ 99999) (h3 : Sz m a) (h4 : Sz m b) (h5 : m ≤ 300000) :
    callF G T (k + 1) "_law_is_below" [hD (lo f a), hD (lo f b)] S = .ok (.bl (decide (a < b))) S := by
  refine Rw.toEq (Rw_call hT rfl ?_)
  show Ow (exec G _ b_below1 [.val (hD (lo f a)), .val (hD (lo f b))] S) _
  unfold b_below1
  have l1 := (lo_spec f a).1
  have l2 := (lo_spec f b).1
  have i0 : ∀ S, ixD (hD (lo f a)) (.int 0) S = .ok (.int (lo f a).1) S := fun S => ix_t0
  have i1 : ∀ S, ixD (hD (lo f a)) (.int 1) S = .ok (.int (lo f a).2) S := fun S => ix_t1
  have j0 : ∀ S, ixD (hD (lo f b)) (.int 0) S = .ok (.int (lo f b).1) S := fun S => ix_t0
  have j1 : ∀ S, ixD (hD (lo f b)) (.int 1) S = .ok (.int (lo f b).2) S := fun S => ix_t1
  have s1 : ∀ S, binD .LShift (.int (lo f a).1) (.int ((lo f b).2 : Int)) S = .ok (.int ((lo f a).1 * 2 ^ (lo f b).2)) S := fun S => shlX h3.lo (by omega)
  have s2 : ∀ S, binD .LShift (.int (lo f b).1) (.int ((lo f a).2 : Int)) S = .ok (.int ((lo f b).1 * 2 ^ (lo f a).2)) S := fun S => shlX h4.lo (by omega)
  refine sx_sq (sx_ret ?_)
  simp only [den, dens, Rw_bind, Rw_ok, List.getElem?_cons_zero, List.getElem?_cons_succ, i0, i1, j0, j1, s1, s2, ev_lt, lo_below]
  exact ⟨trivial, trivial⟩
theorem done1 (hH : T "_law_half" = some ⟨2, 2, b_half1⟩) (hS : T "_law_sum" = some ⟨3, 4, b_sum1⟩) (hM : T "_law_middle" = some ⟨2, 3, b_middle1⟩) (hT : T "_law_done" = some ⟨2, 6, b_done1⟩) {k : Nat} {S : Store} {f m : Nat} {ns : List Int} {row : List (Nat × Nat)}
    (h1 : ∀ x ∈ ns, Sz m x) (h2 : OkRow ns.length row) (h3 : f + row.length ≤ 90000) (h4 : m + row.length ≤ 200000) (h5 : ns.length ≤ 1000) :
    callF G T (k + 4) "_law_done" [.tup (plD f ns), .tup (rowD row)] S = .ok (.tup (plD (f + row.length) (runN ns row))) S := by
  refine Rw.toEq (Rw_call hT rfl ?_)
  show Ow (exec G _ b_done1 [.val (.tup (plD f ns)), .val (.tup (rowD row)), .no, .no, .no, .no] S) _
  unfold b_done1
  rwa [ev_lstT] at ⊢
  refine Ow_for (fun t v S1 => ∃ s3 s4 s5 : Slot, v = [.val (.tup (plD f ns)), .val (.tup (rowD row)), .own (plD (f + t) (runN ns (row.take t))), s3, s4, s5] ∧ S1 = S) ⟨_, _, _, rfl, rfl⟩ ?_ ?_
  · rintro t d v S1 hd ⟨s3, s4, s5, rfl, rfl⟩
    unfold rowD at hd
    rw [List.getElem?_map] at hd
    obtain ⟨⟨i, j⟩, hij, rfl⟩ := Option.map_eq_some_iff.mp hd
    have ht : t < row.length := (List.getElem?_eq_some_iff.mp hij).1
    obtain ⟨hi, hj⟩ := h2 _ (List.mem_of_getElem? hij)
    have hs := runN_sz (row := row.take t) h1
    rw [List.length_take, Nat.min_eq_left (by omega)] at hs
    rw [runN_take hij, show f + (t + 1) = (f + t) + 1 by omega, plD_step]
    have hl : (runN ns (row.take t)).length = ns.length := runN_len
    generalize runN ns (row.take t) = cur at hs hl
    have hg : ∀ i, Sz (m + t) (cur.getD i 0) := fun i => by
      rcases getD_mem (ns := cur) (i := i) with q | q
      · rw [q]; exact Sz.zero
      · exact hs _ q
    have e1 : ∀ S, ixD (.lst (plD (f + t) cur)) (.int i) S = .ok (hD (lo (f + t) (cur.getD i 0))) S := fun S => ix_pl (by show i < _; rw [hl]; exact hi)
    have e2 : ∀ S, ixD (.lst (plD (f + t) cur)) (.int j) S = .ok (hD (lo (f + t) (cur.getD j 0))) S := fun S => ix_pl (by show j < _; rw [hl]; exact hj)
    have e3 : ∀ S, callF G T (k + 3) "_law_middle" [hD (lo (f + t) (cur.getD i 0)), hD (lo (f + t) (cur.getD j 0))] S = .ok (hD (lo (f + t + 1) (cur.getD i 0 + cur.getD j 0))) S := fun S => by
      rw [middle1 hH hS hM (m := m + t) (by have := (lo_spec (f + t) (cur.getD i 0)).1; omega) (by have := (lo_spec (f + t) (cur.getD j 0)).1; omega) (hg i).lo (hg j).lo (by omega), mn_lo]
    have x1 : ixN (plD (f + t) cur).length (i : Int) = some i := ixN_nat (by rw [plD_len, hl]; exact hi)
    have x2 : ∀ d, ixN ((plD (f + t) cur).set i d).length (j : Int) = some j := fun d => ixN_nat (by rw [List.length_set, plD_len, hl]; exact hj)
    rwa [e1, e2, e3, setOwnD, x1, x2] at ⊢
    exact ⟨_, _, _, rfl⟩
  · rintro v S1 ⟨s3, s4, s5, rfl, rfl⟩
    have e : (rowD row).length = row.length := List.length_map ..
    rw [e, List.take_length]
    rwa [ev_tupL] at ⊢
end A
end IL
/-! JO: the first family's strengths and plates, over 2 to the power of 40; sums, ends. -/
namespace IL
open PySem PySem.Spec PyProof.Rows L2
/-- a strength -/
def IsS40 (d : D) : Prop := ∃ z : Int, d = hD (lo 40 z) ∧ 0 ≤ z ∧ Sz 100 z
theorem isS40 {x : Int} {g : Nat} (hg : g ≤ 40) (h0 : 0 ≤ x) (h : x ≤ 1000000000000 * 2 ^ g) : IsS40 (hD (lo g x)) := by
  refine ⟨x * 2 ^ (40 - g), ?_, Int.mul_nonneg h0 (Int.le_of_lt (pow2_pos _)), ?_⟩
  · have := lo_pow (f := g) (a := x) (40 - g)
    rw [show g + (40 - g) = 40 by omega] at this
    rw [this]
  · have h2 : x * 2 ^ (40 - g) ≤ 1000000000000 * 2 ^ g * 2 ^ (40 - g) := Int.mul_le_mul_of_nonneg_right h (Int.le_of_lt (pow2_pos _))
    rw [Int.mul_assoc, ← Int.pow_add, show g + (40 - g) = 40 by omega] at h2
    have h3 := Int.mul_nonneg h0 (Int.le_of_lt (pow2_pos (40 - g)))
    have e : (2 : Int) ^ 40 = 1099511627776 := by decide
    have e2 : (2 : Nat) ^ 100 = 1267650600228229401496703205376 := by decide
    rw [e] at h2
    unfold Sz
    omega
namespace A
def b_strength1 : S := (.sq (.asg (.var 1) (.call "_law_pick" (.cs (.var 0) (.cs (.lst (.cs (.int (0)) (.cs (.int (0)) (.cs (.int (0)) (.cs (.int (1)) (.cs (.int (2)) (.cs (.int (3)) (.cs (.int (40)) (.cs (.call "_law_draw" (.cs (.var 0) (.cs (.int (41)) .nl))) .nl))))))))) .nl)))) (.sq (.asg (.var 2) (.bin .LShift (.int (1000000000000)) (.var 1))) (.sq (.asg (.var 3) (.bin .Add (.bin .Mult (.call "_law_draw" (.cs (.var 0) (.cs (.int (4000000)) .nl))) (.call "_law_draw" (.cs (.var 0) (.cs (.int (4000000)) .nl)))) (.call "_law_draw" (.cs (.var 0) (.cs (.int (9)) .nl))))) (.sq (.asg (.var 4) (.lst (.cs (.call "_law_draw" (.cs (.var 0) (.cs (.int (10)) .nl))) (.cs (.call "_law_draw" (.cs (.var 0) (.cs (.int (10)) .nl))) (.cs (.call "_law_draw" (.cs (.var 0) (.cs (.int (300)) .nl))) (.cs (.var 2) (.cs (.bin .Sub (.var 2) (.int (1))) (.cs (.var 3) .nl)))))))) (.sq (.ret (.call "_law_half" (.cs (.b2 .min (.var 2) (.call "_law_pick" (.cs (.var 0) (.cs (.bin .Add (.var 4) (.lst (.cs (.bin .Add (.bin .FloorDiv (.var 2) (.int (2))) (.call "_law_draw" (.cs (.var 0) (.cs (.int (90)) .nl)))) .nl))) .nl)))) (.cs (.var 1) .nl)))) .nop)))))
def b_plate1 : S := (.sq (.asg (.var 2) (.comp (.call "_law_strength" (.cs (.var 0) .nl)) (.var 3) (.rng1 (.bin .Add (.int (1)) (.call "_law_draw" (.cs (.var 0) (.cs (.var 1) .nl))))) .nl)) (.sq (.ret (.b1 .tup (.comp (.call "_law_pick" (.cs (.var 0) (.cs (.var 2) .nl))) (.var 4) (.rng1 (.var 1)) .nl))) .nop))
def b_total1 : S := (.sq (.asg (.var 1) (.tup (.cs (.int (0)) (.cs (.int (0)) .nl)))) (.sq (.for_ (.var 2) (.cs (.var 0) .nl) (.sq (.asg (.var 1) (.call "_law_sum" (.cs (.var 1) (.cs (.var 2) (.cs (.int (1)) .nl))))) .nop)) (.sq (.ret (.var 1)) .nop)))
def b_ends1 : S := (.sq (.par [(1, false), (2, false)] (.cs (.ix (.var 0) (.int (0))) (.cs (.ix (.var 0) (.int (0))) .nl))) (.sq (.for_ (.var 3) (.cs (.sl (.var 0) (.cs (.int (1)) .nl) .nl) .nl) (.sq (.asg (.var 1) (.ife (.call "_law_is_below" (.cs (.var 3) (.cs (.var 1) .nl))) (.var 3) (.var 1))) (.sq (.asg (.var 2) (.ife (.call "_law_is_below" (.cs (.var 2) (.cs (.var 3) .nl))) (.var 3) (.var 2))) .nop))) (.sq (.ret (.tup (.cs (.var 1) (.cs (.var 2) .nl)))) .nop)))
variable {G : Str → Option D} {T : Str → Option Fn}
theorem pow_le {g : Int} (h : g ≤ 40) : (1 : Int) ≤ 2 ^ g.toNat ∧ (2 : Int) ^ g.toNat ≤ 1099511627776 := by
  have h1 : (2 : Nat) ^ g.toNat ≤ 2 ^ 40 := Nat.pow_le_pow_right (by decide) (by omega)
  have h2 : 0 < (2 : Nat) ^ g.toNat := Nat.two_pow_pos _
  have e : ((2 ^ g.toNat : Nat) : Int) = (2 : Int) ^ g.toNat := by rw [Int.natCast_pow]; rfl
  rw [← e]
  have h3 : (2 : Nat) ^ 40 = 1099511627776 := by decide
  omega
set_option maxHeartbeats 0 in
theorem strength1 (dT : T "_law_draw" = some ⟨2, 7, b_draw⟩) (pT : T "_law_pick" = some ⟨2, 2, b_pick⟩) (hH : T "_law_half" = some ⟨2, 2, b_half1⟩) (hS : T "_law_strength" = some ⟨1, 5, b_strength1⟩) {k : Nat} {S : Store} {j f n : Nat} (hJ0 : A.Jar S j f n) (hn : n < 1000000) : Rw (callF G T (k + 4) "_law_strength" [.ref j] S) fun d S' => IsS40 d ∧ A.Jar S' j f (n + 10) ∧ A.Keep S S' j f := by
  refine Rw_call hS rfl ?_
  show Ow (exec G _ b_strength1 [.val (.ref j), .no, .no, .no, .no] S) _
  unfold b_strength1
  rwa [] at ⊢
  refine Rw.mono (A.draw dT hJ0 (by omega) (by omega) (by omega)) ?_
  rintro d S1 ⟨i1, rfl, p1, q1, hJ1, hK1⟩
  rwa [] at ⊢
  refine Rw.mono (A.pick dT pT hJ1 (by omega) (by simp) (by simp)) ?_
  rintro d2 S2 ⟨hd2, hJ2, hK2⟩
  obtain ⟨g, rfl, hg0, hg1⟩ : ∃ g : Int, d2 = .int g ∧ 0 ≤ g ∧ g ≤ 40 := by
    simp only [List.mem_cons, List.not_mem_nil, or_false] at hd2
    rcases hd2 with rfl | rfl | rfl | rfl | rfl | rfl | rfl | rfl <;> exact ⟨_, rfl, by omega, by omega⟩
  obtain ⟨t1, t2⟩ := pow_le hg1
  rwa [] at ⊢
  generalize hP : (2 : Int) ^ g.toNat = P at t1 t2
  refine Rw.mono (A.draw dT hJ2 (by omega) (by omega) (by omega)) ?_
  rintro d S3 ⟨i3, rfl, p3, q3, hJ3, hK3⟩
  rwa [] at ⊢
  refine Rw.mono (A.draw dT hJ3 (by omega) (by omega) (by omega)) ?_
  rintro d S4 ⟨i4, rfl, p4, q4, hJ4, hK4⟩
  rwa [] at ⊢
  refine Rw.mono (A.draw dT hJ4 (by omega) (by omega) (by omega)) ?_
  rintro d S5 ⟨i5, rfl, p5, q5, hJ5, hK5⟩
  rwa [] at ⊢
  refine Rw.mono (A.draw dT hJ5 (by omega) (by omega) (by omega)) ?_
  rintro d S6 ⟨i6, rfl, p6, q6, hJ6, hK6⟩
  rwa [] at ⊢
  refine Rw.mono (A.draw dT hJ6 (by omega) (by omega) (by omega)) ?_
  rintro d S7 ⟨i7, rfl, p7, q7, hJ7, hK7⟩
  rwa [] at ⊢
  refine Rw.mono (A.draw dT hJ7 (by omega) (by omega) (by omega)) ?_
  rintro d S8 ⟨i8, rfl, p8, q8, hJ8, hK8⟩
  rwa [] at ⊢
  refine Rw.mono (A.draw dT hJ8 (by omega) (by omega) (by omega)) ?_
  rintro d S9 ⟨i9, rfl, p9, q9, hJ9, hK9⟩
  rwa [] at ⊢
  refine Rw.mono (A.pick dT pT hJ9 (by omega) (by simp) (by simp)) ?_
  rintro d10 S10 ⟨hd10, hJ10, hK10⟩
  have m0 : 0 ≤ i3 * i4 := Int.mul_nonneg p3 p4
  obtain ⟨x, rfl, hx0⟩ : ∃ x : Int, d10 = .int x ∧ 0 ≤ x := by
    simp only [List.cons_append, List.nil_append, List.mem_cons, List.not_mem_nil, or_false] at hd10
    rcases hd10 with rfl | rfl | rfl | rfl | rfl | rfl | rfl <;> exact ⟨_, rfl, by omega⟩
  have hg : ((g.toNat : Nat) : Int) = g := by omega
  have hh : ∀ a S, callF G T (k + 3) "_law_half" [.int a, .int g] S = .ok (hD (lo g.toNat a)) S := fun a S => by
    have := half1 (G := G) hH (k := k + 2) (S := S) (a := a) (f := g.toNat)
    rw [hg] at this
    exact this
  rwa [hh] at ⊢
  have kk := hK1.trans (hK2.trans (hK3.trans (hK4.trans (hK5.trans (hK6.trans (hK7.trans (hK8.trans (hK9.trans hK10))))))))
  refine ⟨isS40 (by omega) (by split <;> omega) ?_, hJ10, kk⟩
  rw [hP]
  split <;> omega
set_option maxHeartbeats 0 in
theorem plate1 (dT : T "_law_draw" = some ⟨2, 7, b_draw⟩) (pT : T "_law_pick" = some ⟨2, 2, b_pick⟩) (hH : T "_law_half" = some ⟨2, 2, b_half1⟩) (hS : T "_law_strength" = some ⟨1, 5, b_strength1⟩) (hT : T "_law_plate" = some ⟨2, 5, b_plate1⟩) {k : Nat} {S : Store} {j f m : Nat} {n : Int} (hJ0 : A.Jar S j f m) (hm : m < 900000) (h0 : 1 ≤ n) (h1 : n ≤ 17) :
    Rw (callF G T (k + 5) "_law_plate" [.ref j, .int n] S) fun d S' => (∃ ns : List Int, d = .tup (plD 40 ns) ∧ ns.length = n.toNat ∧ ∀ x ∈ ns, 0 ≤ x ∧ Sz 100 x) ∧ A.Jar S' j f (m + 200) ∧ A.Keep S S' j f := by
  refine Rw_call hT rfl ?_
  show Ow (exec G _ b_plate1 [.val (.ref j), .val (.int n), .no, .no, .no] S) _
  unfold b_plate1
  rwa [] at ⊢
  refine Rw.mono (A.draw dT hJ0 (by omega) (by omega) (by omega)) ?_
  rintro d S1 ⟨i1, rfl, p1, q1, hJ1, hK1⟩
  rwa [] at ⊢
  refine Rw_req (rngOk_of (by omega) (by omega)) ?_
  rwa [] at ⊢
  have hl : (rngD 0 (1 + i1)).length = (1 + i1).toNat := by rw [rngD_len, Int.sub_zero]
  refine Rw_comp (fun i acc S' => ∃ zs, acc = plD 40 zs ∧ zs.length = i ∧ (∀ x ∈ zs, 0 ≤ x ∧ Sz 100 x) ∧ A.Jar S' j f (m + 1 + 10 * i) ∧ A.Keep S S' j f) ⟨[], rfl, rfl, (fun x hx => by cases hx), hJ1, hK1⟩ ?_ ?_
  · rintro i d acc S2 hd ⟨zs, rfl, ha, hI, hJ2, hK2⟩
    obtain ⟨hi, rfl⟩ := rngD_get hd
    rwa [] at ⊢
    refine Rw.mono (strength1 (k := k) dT pT hH hS hJ2 (by omega)) ?_
    rintro d S3 ⟨⟨z, rfl, hz0, hz1⟩, hJ3, hK3⟩
    rwa [] at ⊢
    refine ⟨zs ++ [z], ?_, by simp [ha], fun x hx => ?_, A.jar_grow hJ3 (by omega), hK2.trans hK3⟩
    · unfold plD; rw [List.map_append]; rfl
    · rcases List.mem_append.mp hx with hx | hx
      · exact hI x hx
      · rw [List.mem_singleton.mp hx]; exact ⟨hz0, hz1⟩
  · rintro some S2 ⟨zs, rfl, ha, hI, hJ2, hK2⟩
    rw [hl] at ha hJ2
    refine ⟨Nat.le_trans (by rw [plD_len]; omega) line_big, ?_⟩
    have hsome : plD 40 zs ≠ [] := fun q => by
      have := congrArg List.length q
      rw [plD_len, List.length_nil] at this
      omega
    rwa [] at ⊢
    refine Rw_req (rngOk_of (by omega) (by omega)) ?_
    rwa [] at ⊢
    have hl2 : (rngD 0 n).length = n.toNat := by rw [rngD_len, Int.sub_zero]
    refine Rw_comp (fun i acc S' => ∃ ns, acc = plD 40 ns ∧ ns.length = i ∧ (∀ x ∈ ns, 0 ≤ x ∧ Sz 100 x) ∧ A.Jar S' j f (m + 1 + 10 * (1 + i1).toNat + i) ∧ A.Keep S S' j f) ⟨[], rfl, rfl, (fun x hx => by cases hx), hJ2, hK2⟩ ?_ ?_
    · rintro i d acc S3 hd ⟨ns, rfl, ha3, hI3, hJ3, hK3⟩
      obtain ⟨hi, rfl⟩ := rngD_get hd
      rwa [] at ⊢
      refine Rw.mono (A.pick dT pT hJ3 (by omega) hsome (by rw [plD_len]; omega)) ?_
      rintro d S4 ⟨hd4, hJ4, hK4⟩
      obtain ⟨z, hz, rfl⟩ := List.mem_map.mp hd4
      rwa [] at ⊢
      refine ⟨ns ++ [z], ?_, by simp [ha3], fun x hx => ?_, A.jar_grow hJ4 (by omega), hK3.trans hK4⟩
      · unfold plD; rw [List.map_append]; rfl
      · rcases List.mem_append.mp hx with hx | hx
        · exact hI3 x hx
        · rw [List.mem_singleton.mp hx]; exact hI z hz
    · rintro acc S3 ⟨ns, rfl, ha3, hI3, hJ3, hK3⟩
      rw [hl2] at ha3 hJ3
      refine ⟨Nat.le_trans (by rw [plD_len]; omega) line_big, ?_⟩
      rwa [ev_tupL] at ⊢
      exact ⟨⟨ns, rfl, ha3, hI3⟩, A.jar_grow hJ3 (by omega), hK3⟩
theorem total1 (hH : T "_law_half" = some ⟨2, 2, b_half1⟩) (hS : T "_law_sum" = some ⟨3, 4, b_sum1⟩) (hT : T "_law_total" = some ⟨1, 3, b_total1⟩) {k : Nat} {S : Store} {f m : Nat} {ns : List Int} (h1 : ∀ x ∈ ns, Sz m x) (h2 : f ≤ 99999) (h3 : m ≤ 200000) (h4 : ns.length ≤ 1000) :
    callF G T (k + 3) "_law_total" [.tup (plD f ns)] S = .ok (hD (lo f ns.sum)) S := by
  refine Rw.toEq (Rw_call hT rfl ?_)
  show Ow (exec G _ b_total1 [.val (.tup (plD f ns)), .no, .no] S) _
  unfold b_total1
  rwa [] at ⊢
  have e0 : (.tup [.int 0, .int 0] : D) = hD (lo f 0) := by rw [lo_zero]; rfl
  rw [e0]
  refine Ow_for (fun t v S1 => ∃ s2 : Slot, v = [.val (.tup (plD f ns)), .val (hD (lo f (ns.take t).sum)), s2] ∧ S1 = S ∧ Sz (m + t) (ns.take t).sum) ⟨_, rfl, rfl, Sz.zero⟩ ?_ ?_
  · rintro t d v S1 hd ⟨s2, rfl, rfl, hz⟩
    unfold plD at hd
    rw [List.getElem?_map] at hd
    obtain ⟨a, ha, rfl⟩ := Option.map_eq_some_iff.mp hd
    have ht := (List.getElem?_eq_some_iff.mp ha).1
    have hsa := h1 a (List.mem_of_getElem? ha)
    have hsum : (ns.take (t + 1)).sum = (ns.take t).sum + a := by
      rw [List.take_succ_eq_append_getElem ht, List.sum_append, (List.getElem?_eq_some_iff.mp ha).2]
      simp
    have l1 := (lo_spec f (ns.take t).sum).1
    have l2 := (lo_spec f a).1
    have k1 : ∀ S, callF G T (k + 2) "_law_sum" [hD (lo f (ns.take t).sum), hD (lo f a), .int 1] S = .ok (hD (lo f (ns.take (t + 1)).sum)) S := fun S => by
      rw [sum1 hH hS (m := m + t) (by omega) (by omega) hz.lo (hsa.mono (by omega)).lo (by omega), pl_lo, hsum]
    rwa [k1] at ⊢
    refine ⟨_, rfl, ?_⟩
    rw [hsum]
    exact hz.add (hsa.mono (by omega))
  · rintro v S1 ⟨s2, rfl, rfl, hz⟩
    rw [plD_len, List.take_length]
    rwa [] at ⊢
end A
end IL
/-! JP: the package's whole, spread, mean_of, mixed; the least and greatest; sums; what is shown. -/
namespace IL
open PySem PySem.Spec PyProof.Rows L2
/-! ### sums -/
theorem sum_set : ∀ {l : List Int} {i : Nat} {x : Int}, i < l.length → (l.set i x).sum = l.sum - l.getD i 0 + x
  | [], i, x, h => by simp at h
  | a :: l, 0, x, _ => by
    show (x :: l).sum = (a :: l).sum - a + x
    rw [List.sum_cons, List.sum_cons]; omega
  | a :: l, i + 1, x, h => by
    show (a :: l.set i x).sum = (a :: l).sum - l.getD i 0 + x
    rw [List.sum_cons, List.sum_cons, sum_set (by simpa using h)]; omega
theorem sum_mulR {c : Int} : ∀ {l : List Int}, (l.map (· * c)).sum = l.sum * c
  | [] => by simp
  | a :: l => by rw [List.map_cons, List.sum_cons, List.sum_cons, sum_mulR, Int.add_mul]
theorem sum_dbl : ∀ {l : List Int}, (l.map (2 * ·)).sum = 2 * l.sum
  | [] => rfl
  | a :: l => by rw [List.map_cons, List.sum_cons, List.sum_cons, sum_dbl]; omega
theorem getD_dbl {l : List Int} {i : Nat} : (l.map (2 * ·)).getD i 0 = 2 * l.getD i 0 := by
  rw [List.getD_eq_getElem?_getD, List.getD_eq_getElem?_getD, List.getElem?_map]
  cases l[i]? <;> rfl
theorem getD_set {l : List Int} {i j : Nat} {x : Int} (h : i < l.length) : (l.set i x).getD j 0 = if i = j then x else l.getD j 0 := by
  rw [List.getD_eq_getElem?_getD, List.getD_eq_getElem?_getD]
  by_cases e : i = j
  · subst e
    rw [List.getElem?_set_self h, if_pos rfl]; rfl
  · rw [List.getElem?_set_ne e, if_neg e]
theorem sum_stepN {ns : List Int} {ij : Nat × Nat} (h1 : ij.1 < ns.length) (h2 : ij.2 < ns.length) : (stepN ns ij).sum = 2 * ns.sum := by
  unfold stepN
  rw [sum_set (by rw [List.length_set, List.length_map]; exact h2), sum_set (by rw [List.length_map]; exact h1), getD_set (by rw [List.length_map]; exact h1), getD_dbl, getD_dbl, sum_dbl]
  split
  · rename_i e
    rw [e]; omega
  · omega
theorem sum_runN : ∀ {row : List (Nat × Nat)} {ns : List Int}, OkRow ns.length row → (runN ns row).sum = ns.sum * 2 ^ row.length
  | [], ns, _ => by show ns.sum = _; simp
  | ij :: row, ns, h => by
    have h0 := h ij List.mem_cons_self
    show (runN (stepN ns ij) row).sum = _
    rw [sum_runN (by rw [stepN_len]; exact fun q hq => h q (List.mem_cons_of_mem _ hq)), sum_stepN h0.1 h0.2, List.length_cons, Int.pow_succ, Int.mul_comm 2, Int.mul_assoc, Int.mul_comm 2]
theorem lo_sum {f : Nat} {row : List (Nat × Nat)} {ns : List Int} (h : OkRow ns.length row) : lo (f + row.length) (runN ns row).sum = lo f ns.sum := by
  rw [sum_runN h, lo_pow]
/-! ### the least, the greatest -/
theorem foldl_maxI : ∀ (r : List Int) (x : Int), (r.foldl max x = x ∨ r.foldl max x ∈ r) ∧ x ≤ r.foldl max x ∧ ∀ y ∈ r, y ≤ r.foldl max x
  | [], x => ⟨.inl rfl, Int.le_refl _, fun y h => by cases h⟩
  | a :: r, x => by
    obtain ⟨h1, h2, h3⟩ := foldl_maxI r (max x a)
    show ((r.foldl max (max x a)) = x ∨ r.foldl max (max x a) ∈ a :: r) ∧ x ≤ r.foldl max (max x a) ∧ ∀ y ∈ a :: r, y ≤ r.foldl max (max x a)
    refine ⟨?_, by omega, fun y hy => ?_⟩
    · rcases h1 with h1 | h1
      · by_cases c : x ≤ a
        · right; rw [h1, Int.max_eq_right c]; exact List.mem_cons_self
        · left; rw [h1]; omega
      · right; exact List.mem_cons_of_mem _ h1
    · rcases List.mem_cons.mp hy with rfl | hy
      · omega
      · exact h3 y hy
theorem foldl_minI : ∀ (r : List Int) (x : Int), (r.foldl min x = x ∨ r.foldl min x ∈ r) ∧ r.foldl min x ≤ x ∧ ∀ y ∈ r, r.foldl min x ≤ y
  | [], x => ⟨.inl rfl, Int.le_refl _, fun y h => by cases h⟩
  | a :: r, x => by
    obtain ⟨h1, h2, h3⟩ := foldl_minI r (min x a)
    show ((r.foldl min (min x a)) = x ∨ r.foldl min (min x a) ∈ a :: r) ∧ r.foldl min (min x a) ≤ x ∧ ∀ y ∈ a :: r, r.foldl min (min x a) ≤ y
    refine ⟨?_, by omega, fun y hy => ?_⟩
    · rcases h1 with h1 | h1
      · by_cases c : x ≤ a
        · left; rw [h1]; omega
        · right; rw [h1, Int.min_eq_right (by omega)]; exact List.mem_cons_self
      · right; exact List.mem_cons_of_mem _ h1
    · rcases List.mem_cons.mp hy with rfl | hy
      · omega
      · exact h3 y hy
theorem maxI_spec {ns : List Int} (h : ns ≠ []) : maxI ns ∈ ns ∧ ∀ x ∈ ns, x ≤ maxI ns := by
  cases ns with
  | nil => exact absurd rfl h
  | cons a r =>
    obtain ⟨h1, h2, h3⟩ := foldl_maxI r a
    refine ⟨?_, fun x hx => ?_⟩
    · rcases h1 with h1 | h1
      · show r.foldl max a ∈ _; rw [h1]; exact List.mem_cons_self
      · exact List.mem_cons_of_mem _ h1
    · rcases List.mem_cons.mp hx with rfl | hx
      · exact h2
      · exact h3 x hx
theorem minI_spec {ns : List Int} (h : ns ≠ []) : minI ns ∈ ns ∧ ∀ x ∈ ns, minI ns ≤ x := by
  cases ns with
  | nil => exact absurd rfl h
  | cons a r =>
    obtain ⟨h1, h2, h3⟩ := foldl_minI r a
    refine ⟨?_, fun x hx => ?_⟩
    · rcases h1 with h1 | h1
      · show r.foldl min a ∈ _; rw [h1]; exact List.mem_cons_self
      · exact List.mem_cons_of_mem _ h1
    · rcases List.mem_cons.mp hx with rfl | hx
      · exact h2
      · exact h3 x hx
theorem maxI_uniq {ns : List Int} {m : Int} (h : m ∈ ns) (g : ∀ x ∈ ns, x ≤ m) : maxI ns = m := by
  obtain ⟨h1, h2⟩ := maxI_spec (ns := ns) (fun q => by rw [q] at h; cases h)
  have := h2 m h
  have := g _ h1
  omega
theorem minI_uniq {ns : List Int} {m : Int} (h : m ∈ ns) (g : ∀ x ∈ ns, m ≤ x) : minI ns = m := by
  obtain ⟨h1, h2⟩ := minI_spec (ns := ns) (fun q => by rw [q] at h; cases h)
  have := h2 m h
  have := g _ h1
  omega
theorem maxI_mul {ns : List Int} {c : Int} (h : ns ≠ []) (hc : 0 < c) : maxI (ns.map (· * c)) = maxI ns * c := by
  obtain ⟨h1, h2⟩ := maxI_spec h
  refine maxI_uniq (List.mem_map.mpr ⟨_, h1, rfl⟩) fun x hx => ?_
  obtain ⟨y, hy, rfl⟩ := List.mem_map.mp hx
  exact Int.mul_le_mul_of_nonneg_right (h2 y hy) (Int.le_of_lt hc)
theorem minI_mul {ns : List Int} {c : Int} (h : ns ≠ []) (hc : 0 < c) : minI (ns.map (· * c)) = minI ns * c := by
  obtain ⟨h1, h2⟩ := minI_spec h
  refine minI_uniq (List.mem_map.mpr ⟨_, h1, rfl⟩) fun x hx => ?_
  obtain ⟨y, hy, rfl⟩ := List.mem_map.mp hx
  exact Int.mul_le_mul_of_nonneg_right (h2 y hy) (Int.le_of_lt hc)
theorem maxT {S : Store} {ns : List Int} (h : ns ≠ []) : b1D .max (.tup (ns.map .int)) S = .ok (.int (maxI ns)) S := maxL h
theorem minT {S : Store} {ns : List Int} (h : ns ≠ []) : b1D .min (.tup (ns.map .int)) S = .ok (.int (minI ns)) S := by
  show (match (itemsD (.tup (ns.map .int)) S).bind intsD with | some ns => if ns ≠ [] then R.ok (D.int (minI ns)) S else .bad | none => .bad) = _
  unfold itemsD
  simp only [Option.bind_some, intsD_map]
  rw [if_pos h]
theorem sumT {S : Store} {ns : List Int} : b1D .sum (.tup (ns.map .int)) S = .ok (.int ns.sum) S := by
  show (match (itemsD (.tup (ns.map .int)) S).bind intsD with | some ns => R.ok (D.int ns.sum) S | none => .bad) = _
  unfold itemsD
  simp only [Option.bind_some, intsD_map]
/-- behind a mix all lie between twice the least and twice the greatest -/
theorem stepN_in {ns : List Int} {ij : Nat × Nat} {a b : Int} (h1 : ij.1 < ns.length) (h2 : ij.2 < ns.length) (h : ∀ x ∈ ns, a ≤ x ∧ x ≤ b) : ∀ x ∈ stepN ns ij, 2 * a ≤ x ∧ x ≤ 2 * b := by
  have hg : ∀ i, i < ns.length → ns.getD i 0 ∈ ns := fun i hi => by
    rw [List.getD_eq_getElem?_getD, List.getElem?_eq_getElem hi]
    exact List.getElem_mem _
  have g1 := h _ (hg _ h1)
  have g2 := h _ (hg _ h2)
  intro x hx
  unfold stepN at hx
  rcases mem_set hx with hx | rfl
  · rcases mem_set hx with hx | rfl
    · obtain ⟨y, hy, rfl⟩ := List.mem_map.mp hx
      have := h y hy
      show 2 * a ≤ 2 * y ∧ 2 * y ≤ 2 * b
      omega
    · omega
  · omega
theorem stepN_ne {ns : List Int} {ij : Nat × Nat} (h : ns ≠ []) : stepN ns ij ≠ [] := fun q => by
  have := congrArg List.length q
  rw [stepN_len, List.length_nil] at this
  exact h (List.length_eq_zero_iff.mp this)
theorem runN_ne {ns : List Int} {row : List (Nat × Nat)} (h : ns ≠ []) : runN ns row ≠ [] := fun q => by
  have := congrArg List.length q
  rw [runN_len, List.length_nil] at this
  exact h (List.length_eq_zero_iff.mp this)
theorem stepN_ends {ns : List Int} {ij : Nat × Nat} (h0 : ns ≠ []) (h1 : ij.1 < ns.length) (h2 : ij.2 < ns.length) : 2 * minI ns ≤ minI (stepN ns ij) ∧ maxI (stepN ns ij) ≤ 2 * maxI ns := by
  have k := stepN_in (a := minI ns) (b := maxI ns) h1 h2 fun x hx => ⟨(minI_spec h0).2 x hx, (maxI_spec h0).2 x hx⟩
  exact ⟨(k _ (minI_spec (stepN_ne h0)).1).1, (k _ (maxI_spec (stepN_ne h0)).1).2⟩
/-! ### the least common power -/
/-- the most halvings of a plate -/
def top (f : Nat) (ns : List Int) : Nat := most (ns.map (lo f))
theorem top_le {f : Nat} {ns : List Int} : top f ns ≤ f := most_le fun p hp => by
  obtain ⟨a, _, rfl⟩ := List.mem_map.mp hp
  exact (lo_spec f a).1
theorem le_top {f : Nat} {ns : List Int} {a : Int} (h : a ∈ ns) : (lo f a).2 ≤ top f ns := le_most (List.mem_map.mpr ⟨a, h, rfl⟩)
/-- the numbers over it -/
def wh (f : Nat) (ns : List Int) : List Int := ns.map fun a => (lo f a).1 * 2 ^ (top f ns - (lo f a).2)
theorem wh_ne {f : Nat} {ns : List Int} (h : ns ≠ []) : wh f ns ≠ [] := fun q => h (List.map_eq_nil_iff.mp q)
theorem wh_len {f : Nat} {ns : List Int} : (wh f ns).length = ns.length := List.length_map ..
theorem wh_map {f : Nat} {ns : List Int} : (wh f ns).map (· * 2 ^ (f - top f ns)) = ns := by
  unfold wh
  rw [List.map_map]
  conv => rhs; rw [← List.map_id ns]
  apply List.map_congr_left
  intro a ha
  obtain ⟨h1, h2, _⟩ := lo_spec f a
  have h3 := le_top (f := f) ha
  have h4 := top_le (f := f) (ns := ns)
  show (lo f a).1 * 2 ^ (top f ns - (lo f a).2) * 2 ^ (f - top f ns) = a
  rw [Int.mul_assoc, ← Int.pow_add, show top f ns - (lo f a).2 + (f - top f ns) = f - (lo f a).2 by omega, ← h2]
theorem wh_sz {f m : Nat} {ns : List Int} (h : ∀ x ∈ ns, Sz m x) : ∀ x ∈ wh f ns, Sz m x := by
  intro x hx
  have hm : x * 2 ^ (f - top f ns) ∈ ns := by
    have : x * 2 ^ (f - top f ns) ∈ (wh f ns).map (· * 2 ^ (f - top f ns)) := List.mem_map.mpr ⟨x, hx, rfl⟩
    rw [wh_map] at this
    exact this
  have := h _ hm
  unfold Sz at *
  rw [Int.natAbs_mul, natAbs_pow2] at this
  exact Nat.lt_of_le_of_lt (Nat.le_mul_of_pos_right _ (Nat.two_pow_pos _)) this
theorem wh_sum {f : Nat} {ns : List Int} : (wh f ns).sum * 2 ^ (f - top f ns) = ns.sum := by
  rw [← sum_mulR, wh_map]
theorem wh_max {f : Nat} {ns : List Int} (h : ns ≠ []) : maxI (wh f ns) * 2 ^ (f - top f ns) = maxI ns := by
  rw [← maxI_mul (wh_ne h) (pow2_pos _), wh_map]
theorem wh_min {f : Nat} {ns : List Int} (h : ns ≠ []) : minI (wh f ns) * 2 ^ (f - top f ns) = minI ns := by
  rw [← minI_mul (wh_ne h) (pow2_pos _), wh_map]
theorem wh_spread {f : Nat} {ns : List Int} (h : ns ≠ []) : lo (top f ns) (maxI (wh f ns) - minI (wh f ns)) = lo f (maxI ns - minI ns) := by
  have := lo_pow (f := top f ns) (a := maxI (wh f ns) - minI (wh f ns)) (f - top f ns)
  rw [Int.sub_mul, wh_max h, wh_min h, show top f ns + (f - top f ns) = f by have := top_le (f := f) (ns := ns); omega] at this
  exact this.symm
/-- behind a mix at most one halving more -/
theorem top_step {f : Nat} {ns : List Int} {ij : Nat × Nat} (h1 : ij.1 < ns.length) (h2 : ij.2 < ns.length) : top (f + 1) (stepN ns ij) ≤ top f ns + 1 := by
  have hg : ∀ i, i < ns.length → ns.getD i 0 ∈ ns := fun i hi => by
    rw [List.getD_eq_getElem?_getD, List.getElem?_eq_getElem hi]
    exact List.getElem_mem _
  have hs : (lo (f + 1) (ns.getD ij.1 0 + ns.getD ij.2 0)).2 ≤ top f ns + 1 := by
    rw [← mn_lo]
    unfold mn
    have q1 := le_top (f := f) (hg _ h1)
    have q2 := le_top (f := f) (hg _ h2)
    refine Nat.le_trans (lo_spec _ _).1 ?_
    have := Nat.max_le.mpr ⟨q1, q2⟩
    omega
  refine most_le fun p hp => ?_
  obtain ⟨a, ha, rfl⟩ := List.mem_map.mp hp
  unfold stepN at ha
  rcases mem_set ha with ha | rfl
  · rcases mem_set ha with ha | rfl
    · obtain ⟨y, hy, rfl⟩ := List.mem_map.mp ha
      show (lo (f + 1) (2 * y)).2 ≤ _
      rw [lo_double]
      have := le_top (f := f) hy
      omega
    · exact hs
  · exact hs
/-- the mean as the package tells it -/
def mo (s d : Int) : D := .tup [.int (s / (Nat.gcd s.natAbs d.natAbs : Nat)), .int (d / (Nat.gcd s.natAbs d.natAbs : Nat))]
theorem mo_mul {s d c : Int} (hc : 0 < c) : mo (s * c) (d * c) = mo s d := by
  unfold mo
  have e : ((Nat.gcd (s * c).natAbs (d * c).natAbs : Nat) : Int) = (Nat.gcd s.natAbs d.natAbs : Nat) * c := by
    rw [Int.natAbs_mul, Int.natAbs_mul, Nat.gcd_mul_right, Int.natCast_mul]
    congr 1
    omega
  rw [e, Int.mul_ediv_mul_of_pos_left _ _ hc, Int.mul_ediv_mul_of_pos_left _ _ hc]
theorem comp_top {g : D → Store → R (Option D)} {S : Store} {f : Nat} {ns : List Int} (hl : ns.length ≤ 1000000) (h : ∀ a ∈ ns, g (hD (lo f a)) S = .ok (some (.int ((lo f a).2 : Nat))) S) : compF g (plD f ns) [] S = .ok (.lst ((ns.map fun a => (((lo f a).2 : Nat) : Int)).map .int)) S := by
  rw [List.map_map]
  exact compF_okL (fun a : Int => hD (lo f a)) (fun a => D.int (((lo f a).2 : Nat) : Int)) h hl
theorem max_top {S : Store} {f : Nat} {ns : List Int} (h0 : ns ≠ []) : b1D .max (.lst ((ns.map fun a => (((lo f a).2 : Nat) : Int)).map .int)) S = .ok (.int (top f ns)) S := by
  rw [maxL (fun q => h0 (List.map_eq_nil_iff.mp q))]
  congr 2
  obtain ⟨q1, q2⟩ := maxI_spec (ns := ns.map fun a => (((lo f a).2 : Nat) : Int)) (fun q => h0 (List.map_eq_nil_iff.mp q))
  have le1 : maxI (ns.map fun a => (((lo f a).2 : Nat) : Int)) ≤ (top f ns : Nat) := by
    obtain ⟨a, ha, e⟩ := List.mem_map.mp q1
    have := le_top (f := f) ha
    omega
  have le2 : ((top f ns : Nat) : Int) ≤ maxI (ns.map fun a => (((lo f a).2 : Nat) : Int)) := by
    have : top f ns ≤ (maxI (ns.map fun a => (((lo f a).2 : Nat) : Int))).toNat := most_le fun p hp => by
      obtain ⟨a, ha, rfl⟩ := List.mem_map.mp hp
      have := q2 _ (List.mem_map.mpr ⟨a, ha, rfl⟩)
      omega
    cases ns with
    | nil => exact absurd rfl h0
    | cons a r =>
      have := q2 _ (List.mem_map.mpr ⟨a, List.mem_cons_self, rfl⟩)
      omega
  omega
/-! ### mixes with the lesser place ahead -/
def UpRow (n : Nat) (row : List (Nat × Nat)) : Prop := ∀ ij ∈ row, ij.1 < ij.2 ∧ ij.2 < n
theorem UpRow.ok {n : Nat} {row : List (Nat × Nat)} (h : UpRow n row) : OkRow n row := fun q hq => by have := h q hq; omega
theorem set2 {α : Type} {l : List α} {i j : Nat} {x : α} (h : i < j) (hj : j < l.length) : (l.set i x).set j x = l.take i ++ x :: ((l.drop (i + 1)).take (j - (i + 1)) ++ x :: l.drop (j + 1)) := by
  apply List.ext_getElem?
  intro k
  by_cases k1 : k < i
  · rw [List.getElem?_set_ne (by omega), List.getElem?_set_ne (by omega), List.getElem?_append_left (by rw [List.length_take]; omega), List.getElem?_take_of_lt k1]
  · have lt : (l.take i).length = i := by rw [List.length_take]; omega
    rw [List.getElem?_append_right (by omega), lt]
    by_cases k2 : k = i
    · subst k2
      rw [List.getElem?_set_ne (by omega), List.getElem?_set_self (by omega), Nat.sub_self]
      rfl
    · obtain ⟨m, hm⟩ : ∃ m, k - i = m + 1 := ⟨k - i - 1, by omega⟩
      rw [hm, List.getElem?_cons_succ]
      have lm : ((l.drop (i + 1)).take (j - (i + 1))).length = j - (i + 1) := by rw [List.length_take, List.length_drop]; omega
      by_cases k3 : k < j
      · rw [List.getElem?_set_ne (by omega), List.getElem?_set_ne (by omega), List.getElem?_append_left (by omega), List.getElem?_take_of_lt (by omega), List.getElem?_drop]
        congr 1
        omega
      · rw [List.getElem?_append_right (by omega), lm]
        by_cases k4 : k = j
        · subst k4
          rw [List.getElem?_set_self (by rw [List.length_set]; exact hj), show m - (k - (i + 1)) = 0 by omega]
          rfl
        · obtain ⟨p, hp⟩ : ∃ p, m - (j - (i + 1)) = p + 1 := ⟨m - (j - (i + 1)) - 1, by omega⟩
          rw [hp, List.getElem?_cons_succ, List.getElem?_set_ne (by omega), List.getElem?_set_ne (by omega), List.getElem?_drop]
          congr 1
          omega
theorem mixes {n : Int} : ∀ {xs : List D}, (∀ x ∈ xs, A.IsMix n x) → ∃ row : List (Nat × Nat), xs = rowD row ∧ UpRow n.toNat row ∧ row.length = xs.length
  | [], _ => ⟨[], rfl, (fun q h => by cases h), rfl⟩
  | x :: xs, h => by
    obtain ⟨row, h1, h2, h3⟩ := mixes fun y hy => h y (List.mem_cons_of_mem _ hy)
    obtain ⟨i, j, rfl, i0, i1, i2⟩ := h x List.mem_cons_self
    refine ⟨(i.toNat, j.toNat) :: row, ?_, fun q hq => ?_, by simp [h3]⟩
    · unfold rowD at *
      rw [List.map_cons, h1]
      have e1 : ((i.toNat : Nat) : Int) = i := by omega
      have e2 : ((j.toNat : Nat) : Int) = j := by omega
      show _ = D.tup [.int ((i.toNat : Nat) : Int), .int ((j.toNat : Nat) : Int)] :: _
      rw [e1, e2]
    · rcases List.mem_cons.mp hq with rfl | hq
      · exact ⟨by show i.toNat < j.toNat; omega, by show j.toNat < n.toNat; omega⟩
      · exact h2 q hq
/-! ### shown -/
theorem sh_hD {f : Nat} {a : Int} (h : Sz 660 a) (hf : f ≤ 90000) : Sh 420 1 (hD (lo f a)) := by
  have p : (2 : Nat) ^ 660 ≤ 10 ^ 200 := by decide +kernel
  have q := (lo_spec f a).1
  have s1 : Sh 201 0 (.int (lo f a).1) := Sh.int (k := 200) (by omega) (by omega) (Nat.lt_of_lt_of_le h.lo p)
  have s2 : Sh 201 0 (.int (lo f a).2) := (Sh.int (k := 10) (by omega) (by omega) (by omega)).mono (by omega) (by omega)
  unfold hD
  refine (Sh.tup (n := 201) (m := 0) fun x hx => ?_).mono (by simp) (by omega)
  simp only [List.mem_cons, List.not_mem_nil, or_false] at hx
  rcases hx with rfl | rfl
  · exact s1
  · exact s2
theorem sh_plD {f : Nat} {ns : List Int} (h : ∀ x ∈ ns, Sz 660 x) (hf : f ≤ 90000) (hl : ns.length ≤ 20) : Sh 9000 2 (.tup (plD f ns)) := by
  refine (Sh.tup (n := 420) (m := 1) fun x hx => ?_).mono (by rw [plD_len]; omega) (by omega)
  obtain ⟨a, ha, rfl⟩ := List.mem_map.mp hx
  exact sh_hD (h a ha) hf
theorem sh_row {row : List (Nat × Nat)} (h : OkRow 20 row) (hl : row.length ≤ 2000) : Sh 80000 3 (.tup (rowD row)) := by
  refine (Sh.tup (n := 30) (m := 1) fun x hx => ?_).mono (by unfold rowD; rw [List.length_map]; omega) (by omega)
  obtain ⟨ij, hij, rfl⟩ := List.mem_map.mp hx
  obtain ⟨q1, q2⟩ := h ij hij
  refine (Sh.tup (n := 5) (m := 0) fun x hx => ?_).mono (by simp) (by omega)
  simp only [List.mem_cons, List.not_mem_nil, or_false] at hx
  rcases hx with rfl | rfl
  · exact (Sh.int (k := 4) (by omega) (by omega) (by omega)).mono (by omega) (by omega)
  · exact (Sh.int (k := 4) (by omega) (by omega) (by omega)).mono (by omega) (by omega)
/-! ### alike -/
theorem eq_ints {S : Store} {is : List Int} : eqD (.tup (is.map .int)) (.tup (is.map .int)) S = some true := by
  have e1 : toPS (.tup (is.map .int)) S = some (.tuple (is.map .int)) := by
    show toP (.tup (is.map .int)) = _
    unfold toP
    rw [ints_toPs]; rfl
  have e3 : SeqAt.shaped (.tuple (is.map .int)) = true := by
    have := ints_shaped is
    unfold SeqAt.shaped at *
    exact this
  cases is with
  | nil => exact eqD_nilT
  | cons i is =>
    have e2 : emptyD (.tup ((i :: is).map .int)) (.tup ((i :: is).map .int)) S = none := rfl
    unfold eqD
    rw [e2]
    show (match toPS (.tup ((i :: is).map .int)) S, toPS (.tup ((i :: is).map .int)) S with | some p, some q => if SeqAt.shaped p = true ∧ SeqAt.shaped q = true then some (PyData.eqv p q) else none | _, _ => none) = _
    rw [e1]
    simp only [e3, and_self, if_true]
    have := ints_eqv (i :: is) (i :: is)
    simp only [decide_true] at this
    show some (PyData.eqvAll _ _) = _
    rw [this]
theorem eqs_ints {S : Store} {is : List Int} : cmpD .Eq (.tup (is.map .int)) (.tup (is.map .int)) S = .ok (.bl true) S := by
  show (match eqD _ _ S with | some c => R.ok (D.bl c) S | none => .bad) = _
  rw [eq_ints]
theorem nes_ints {S : Store} {is : List Int} : cmpD .NotEq (.tup (is.map .int)) (.tup (is.map .int)) S = .ok (.bl false) S := by
  show (match eqD _ _ S with | some c => R.ok (D.bl (!c)) S | none => .bad) = _
  rw [eq_ints]
  rfl
theorem ne_hD {p : Int × Nat} {S : Store} : cmpD .NotEq (hD p) (hD p) S = .ok (.bl false) S := nes_ints (is := [p.1, p.2])
theorem eq_mo {s d : Int} {S : Store} : cmpD .Eq (mo s d) (mo s d) S = .ok (.bl true) S := eqs_ints (is := [_, _])
namespace H
def b_whole : S := (.sq (.asg (.var 1) (.b1 .max (.comp (.ix (.var 2) (.int (1))) (.var 2) (.cs (.var 0) .nl) .nl))) (.sq (.ret (.tup (.cs (.b1 .tup (.comp (.call "in_parts" (.cs (.var 2) (.cs (.var 1) .nl))) (.var 2) (.cs (.var 0) .nl) .nl)) (.cs (.var 1) .nl)))) .nop))
def b_common_divisor : S := (.sq (.par [(0, false), (1, false)] (.cs (.b1 .abs (.var 0)) (.cs (.b1 .abs (.var 1)) .nl))) (.sq (.whl (.cmp .Gt (.var 1) (.int (0))) (.sq (.par [(0, false), (1, false)] (.cs (.var 1) (.cs (.bin .Mod (.var 0) (.var 1)) .nl))) .nop)) (.sq (.ret (.var 0)) .nop)))
def b_mean_of : S := (.sq (.asg (.tup (.cs (.var 1) (.cs (.var 2) .nl))) (.call "whole" (.cs (.var 0) .nl))) (.sq (.par [(3, false), (4, false)] (.cs (.b1 .sum (.var 1)) (.cs (.bin .Mult (.b1 .len (.var 0)) (.bin .LShift (.int (1)) (.var 2))) .nl))) (.sq (.asg (.var 5) (.call "common_divisor" (.cs (.var 3) (.cs (.var 4) .nl)))) (.sq (.ret (.tup (.cs (.bin .FloorDiv (.var 3) (.var 5)) (.cs (.bin .FloorDiv (.var 4) (.var 5)) .nl)))) .nop))))
def b_spread : S := (.sq (.asg (.tup (.cs (.var 1) (.cs (.var 2) .nl))) (.call "whole" (.cs (.var 0) .nl))) (.sq (.ret (.call "half" (.cs (.bin .Sub (.b1 .max (.var 1)) (.b1 .min (.var 1))) (.cs (.var 2) .nl)))) .nop))
def b_mixed : S := (.sq (.asg (.tup (.cs (.var 2) (.cs (.var 3) .nl))) (.var 1)) (.sq (.asg (.var 4) (.call "mean" (.cs (.ix (.var 0) (.var 2)) (.cs (.ix (.var 0) (.var 3)) .nl)))) (.sq (.ret (.tups (.st (.sl (.var 0) .nl (.cs (.var 2) .nl)) (.cs (.var 4) (.st (.sl (.var 0) (.cs (.bin .Add (.var 2) (.int (1))) .nl) (.cs (.var 3) .nl)) (.cs (.var 4) (.st (.sl (.var 0) (.cs (.bin .Add (.var 3) (.int (1))) .nl) .nl) .nl))))))) .nop)))
variable {G : Str → Option D} {T : Str → Option Fn}
theorem whole (hI : T "in_parts" = some ⟨2, 2, b_in_parts⟩) (hT : T "whole" = some ⟨1, 3, b_whole⟩) {k : Nat} {S : Store} {f m : Nat} {ns : List Int} (h0 : ns ≠ []) (h1 : ∀ x ∈ ns, Sz m x) (h2 : f ≤ 90000) (h3 : m ≤ 300000) (h4 : ns.length ≤ 1000) :
    callF G T (k + 2) "whole" [.tup (plD f ns)] S = .ok (.tup [.tup ((wh f ns).map .int), .int (top f ns)]) S := by
  refine Rw.toEq (Rw_call hT rfl ?_)
  show Ow (exec G _ b_whole [.val (.tup (plD f ns)), .no, .no] S) _
  unfold b_whole
  have c2 : ∀ (g : D → Store → R (Option D)) S, (∀ a ∈ ns, g (hD (lo f a)) S = .ok (some (.int ((lo f a).1 * 2 ^ (top f ns - (lo f a).2)))) S) → compF g (plD f ns) [] S = .ok (.lst ((wh f ns).map .int)) S := fun g S h => by
    unfold wh
    rw [List.map_map]
    exact compF_okL (fun a : Int => hD (lo f a)) (fun a => D.int ((lo f a).1 * 2 ^ (top f ns - (lo f a).2))) h (by omega)
  have mx : ∀ S, b1D .max (.lst ((ns.map fun a => (((lo f a).2 : Nat) : Int)).map .int)) S = .ok (.int (top f ns)) S := fun S => max_top h0
  have t0 := top_le (f := f) (ns := ns)
  rwa [] at ⊢
  refine Rw.eq (comp_top (by omega) fun a ha => Rw.toEq ?_) ?_
  · have i1 : ∀ S, ixD (hD (lo f a)) (.int 1) S = .ok (.int (lo f a).2) S := fun S => ix_t1
    rwa [i1] at ⊢
  rwa [mx] at ⊢
  refine Rw.eq (c2 _ _ fun a ha => Rw.toEq ?_) ?_
  · have i1 : ∀ S, callF G T (k + 1) "in_parts" [hD (lo f a), .int (top f ns)] S = .ok (.int ((lo f a).1 * 2 ^ (top f ns - (lo f a).2))) S := fun S => in_parts hI (le_top ha) (by omega) (h1 a ha).lo (by omega)
    rwa [i1] at ⊢
  rwa [ev_tupL] at ⊢
theorem spread (hH : T "half" = some ⟨2, 2, b_half⟩) (hI : T "in_parts" = some ⟨2, 2, b_in_parts⟩) (hW : T "whole" = some ⟨1, 3, b_whole⟩) (hT : T "spread" = some ⟨1, 3, b_spread⟩) {k : Nat} {S : Store} {f m : Nat} {ns : List Int} (h0 : ns ≠ []) (h1 : ∀ x ∈ ns, Sz m x) (h2 : f ≤ 90000) (h3 : m ≤ 300000) (h4 : ns.length ≤ 1000) :
    callF G T (k + 3) "spread" [.tup (plD f ns)] S = .ok (hD (lo f (maxI ns - minI ns))) S := by
  refine Rw.toEq (Rw_call hT rfl ?_)
  show Ow (exec G _ b_spread [.val (.tup (plD f ns)), .no, .no] S) _
  unfold b_spread
  have k1 : ∀ S, callF G T (k + 2) "whole" [.tup (plD f ns)] S = .ok (.tup [.tup ((wh f ns).map .int), .int (top f ns)]) S := fun S => whole hI hW h0 h1 h2 h3 h4
  have m1 : ∀ S, b1D .max (.tup ((wh f ns).map .int)) S = .ok (.int (maxI (wh f ns))) S := fun S => maxT (wh_ne h0)
  have m2 : ∀ S, b1D .min (.tup ((wh f ns).map .int)) S = .ok (.int (minI (wh f ns))) S := fun S => minT (wh_ne h0)
  have k2 : ∀ S, callF G T (k + 2) "half" [.int (maxI (wh f ns) - minI (wh f ns)), .int (top f ns)] S = .ok (hD (lo f (maxI ns - minI ns))) S := fun S => by
    rw [half hH, wh_spread h0]
  rwa [k1, m1, m2, k2] at ⊢
theorem common_divisor (hT : T "common_divisor" = some ⟨2, 2, b_common_divisor⟩) {k : Nat} {S : Store} {a b : Int} : callF G T (k + 1) "common_divisor" [.int a, .int b] S = .ok (.int (Nat.gcd a.natAbs b.natAbs : Nat)) S := by
  refine Rw.toEq (Rw_call hT rfl ?_)
  show Ow (exec G _ b_common_divisor [.val (.int a), .val (.int b)] S) _
  unfold b_common_divisor
  have e1 : (if a < 0 then -a else a) = ((a.natAbs : Nat) : Int) := by split <;> omega
  have e2 : (if b < 0 then -b else b) = ((b.natAbs : Nat) : Int) := by split <;> omega
  rwa [setPar, e1, e2] at ⊢
  refine Ow_while (fun m v S1 => ∃ x y : Nat, v = [.val (.int (x : Int)), .val (.int (y : Int))] ∧ y = m ∧ Nat.gcd x y = Nat.gcd a.natAbs b.natAbs ∧ S1 = S) ?_ b.natAbs _ _ ⟨a.natAbs, b.natAbs, rfl, rfl, rfl, rfl⟩
  rintro m v S1 ⟨x, y, rfl, rfl, h, rfl⟩
  by_cases hy : 0 < y
  · have c1 : (0 : Int) < (y : Int) := by omega
    rwa [setPar, c1] at ⊢
    refine ⟨x % y, Nat.mod_lt _ hy, y, x % y, by rw [Int.natCast_emod], rfl, ?_⟩
    rw [← h, Nat.gcd_comm x y, Nat.gcd_rec y x, Nat.gcd_comm]
  · have c1 : y = 0 := by omega
    subst c1
    rw [Nat.gcd_zero_right] at h
    rwa [h] at ⊢
theorem mean_of (hI : T "in_parts" = some ⟨2, 2, b_in_parts⟩) (hW : T "whole" = some ⟨1, 3, b_whole⟩) (hC : T "common_divisor" = some ⟨2, 2, b_common_divisor⟩) (hT : T "mean_of" = some ⟨1, 6, b_mean_of⟩) {k : Nat} {S : Store} {f m : Nat} {ns : List Int} (h0 : ns ≠ []) (h1 : ∀ x ∈ ns, Sz m x) (h2 : f ≤ 7000) (h3 : m ≤ 300000) (h4 : ns.length ≤ 1000) :
    callF G T (k + 3) "mean_of" [.tup (plD f ns)] S = .ok (mo ns.sum (ns.length * 2 ^ f)) S := by
  refine Rw.toEq (Rw_call hT rfl ?_)
  show Ow (exec G _ b_mean_of [.val (.tup (plD f ns)), .no, .no, .no, .no, .no] S) _
  unfold b_mean_of
  have t0 := top_le (f := f) (ns := ns)
  have k1 : ∀ S, callF G T (k + 2) "whole" [.tup (plD f ns)] S = .ok (.tup [.tup ((wh f ns).map .int), .int (top f ns)]) S := fun S => whole hI hW h0 h1 (by omega) h3 h4
  have s1 : ∀ S, b1D .sum (.tup ((wh f ns).map .int)) S = .ok (.int (wh f ns).sum) S := fun S => sumT
  have hl0 : 0 < ns.length := List.length_pos_iff.mpr h0
  have e1 : ∀ S, binD .LShift (.int 1) (.int (top f ns)) S = .ok (.int (2 ^ top f ns)) S := fun S => by
    rw [shlX (m := 1) (by unfold Sz; decide) (by omega), Int.one_mul]
  have hlen : (plD f ns).length = ns.length := plD_len
  have e2 : ∀ S, binD .Mult (.int ns.length) (.int (2 ^ top f ns)) S = .ok (.int (ns.length * 2 ^ top f ns)) S := fun S => by
    refine mulX (m := 11) (n := top f ns + 1) ?_ (Sz.pow _) (by omega)
    unfold Sz
    have : (2 : Nat) ^ 11 = 2048 := by decide
    omega
  have k2 : ∀ a b S, callF G T (k + 2) "common_divisor" [.int a, .int b] S = .ok (.int (Nat.gcd a.natAbs b.natAbs : Nat)) S := fun a b S => common_divisor hC
  have hm := mo_mul (s := (wh f ns).sum) (d := ns.length * 2 ^ top f ns) (pow2_pos (f - top f ns))
  rw [wh_sum, Int.mul_assoc, ← Int.pow_add, show top f ns + (f - top f ns) = f by omega] at hm
  rw [hm]
  unfold mo
  have hz : 0 < (ns.length * 2 ^ top f ns : Int) := Int.mul_pos (by omega) (pow2_pos _)
  have hsz : Sz (11 + top f ns) (ns.length * 2 ^ top f ns : Int) := by
    refine Sz.mulp (m := 11) ?_ _
    unfold Sz
    have : (2 : Nat) ^ 11 = 2048 := by decide
    omega
  generalize hs : (wh f ns).sum = s at *
  generalize hd : (ns.length * 2 ^ top f ns : Int) = d at *
  have gp : 0 < Nat.gcd s.natAbs d.natAbs := Nat.gcd_pos_of_pos_right _ (by omega)
  have gl : Nat.gcd s.natAbs d.natAbs ≤ d.natAbs := Nat.gcd_le_right _ (by omega)
  have cw : ∀ i, CDivW i ((Nat.gcd s.natAbs d.natAbs : Nat) : Int) := fun i => by
    refine ⟨by omega, ?_⟩
    rw [Int.natAbs_natCast]
    refine (Nat.log2_lt (by omega)).mpr (Nat.lt_of_le_of_lt gl (Nat.lt_of_lt_of_le hsz (Nat.pow_le_pow_right (by decide) (by omega))))
  have d1 : ∀ S, binD .FloorDiv (.int s) (.int (Nat.gcd s.natAbs d.natAbs : Nat)) S = .ok (.int (s / (Nat.gcd s.natAbs d.natAbs : Nat))) S := fun S => divW (cw _)
  have d2 : ∀ S, binD .FloorDiv (.int d) (.int (Nat.gcd s.natAbs d.natAbs : Nat)) S = .ok (.int (d / (Nat.gcd s.natAbs d.natAbs : Nat))) S := fun S => divW (cw _)
  rwa [k1, s1, e1, hlen, e2, setPar, k2, d1, d2] at ⊢
theorem mixed (hH : T "half" = some ⟨2, 2, b_half⟩) (hI : T "in_parts" = some ⟨2, 2, b_in_parts⟩) (hM : T "mean" = some ⟨2, 3, b_mean⟩) (hT : T "mixed" = some ⟨2, 5, b_mixed⟩) {k : Nat} {S : Store} {f m i j : Nat} {ns : List Int}
    (h1 : ∀ x ∈ ns, Sz m x) (hi : i < j) (hj : j < ns.length) (h3 : f ≤ 90000) (h4 : m ≤ 200000) (h5 : ns.length ≤ 1000) :
    callF G T (k + 3) "mixed" [.tup (plD f ns), .tup [.int i, .int j]] S = .ok (.tup (plD (f + 1) (stepN ns (i, j)))) S := by
  refine Rw.toEq (Rw_call hT rfl ?_)
  show Ow (exec G _ b_mixed [.val (.tup (plD f ns)), .val (.tup [.int i, .int j]), .no, .no, .no] S) _
  unfold b_mixed
  have hg : ∀ i, Sz m (ns.getD i 0) := fun i => by
    rcases getD_mem (ns := ns) (i := i) with q | q
    · rw [q]; exact Sz.zero
    · exact h1 _ q
  have hlen : (plD f ns).length = ns.length := plD_len
  have e1 : ∀ S, ixD (.tup (plD f ns)) (.int i) S = .ok (hD (lo f (ns.getD i 0))) S := fun S => ix_pl (by omega)
  have e2 : ∀ S, ixD (.tup (plD f ns)) (.int j) S = .ok (hD (lo f (ns.getD j 0))) S := fun S => ix_pl (by omega)
  have e3 : ∀ S, callF G T (k + 2) "mean" [hD (lo f (ns.getD i 0)), hD (lo f (ns.getD j 0))] S = .ok (hD (lo (f + 1) (ns.getD i 0 + ns.getD j 0))) S := fun S => by
    rw [mean hH hI hM (m := m) (by have := (lo_spec f (ns.getD i 0)).1; omega) (by have := (lo_spec f (ns.getD j 0)).1; omega) (hg i).lo (hg j).lo (by omega), mn_lo]
  have c1 : cut (plD f ns) none (some (i : Int)) = (plD f ns).take i := by
    rw [cut_to (by omega) (by omega), Int.toNat_natCast]
  have c2 : cut (plD f ns) (some ((i : Int) + 1)) (some (j : Int)) = ((plD f ns).drop (i + 1)).take (j - (i + 1)) := by
    unfold cut
    rw [show HT.sIx (plD f ns).length 0 (some ((i : Int) + 1)) = i + 1 from (by rw [sIx_int (by omega) (by omega)]; omega), show HT.sIx (plD f ns).length (plD f ns).length (some (j : Int)) = j from (by rw [sIx_int (by omega) (by omega)]; omega)]
  have c3 : cut (plD f ns) (some ((j : Int) + 1)) none = (plD f ns).drop (j + 1) := by
    rw [cut_from (by omega) (by omega)]
    congr 1
  rw [plD_step]
  show Ow _ ⟨_, fun d S' => d = .tup (((plD f ns).set i _).set j _) ∧ _, _, _⟩
  rw [set2 hi (by omega)]
  have hh1 : ((plD f ns).take i).length = i := by rw [List.length_take]; omega
  have hh2 : (((plD f ns).drop (i + 1)).take (j - (i + 1))).length = j - (i + 1) := by rw [List.length_take, List.length_drop]; omega
  have hh3 : ((plD f ns).drop (j + 1)).length = ns.length - (j + 1) := by rw [List.length_drop]; omega
  rwa [e1, e2, e3, sl_t, c1, c2, c3, seqD] at ⊢
  rw [List.append_nil]
end H
end IL
/-! JPa: of use to all families: cells, orders, what shows, what is compared, comprehensions. -/
namespace IL
open PySem PySem.Spec PyProof.Rows L2
theorem popE {S : Store} {n : Nat} {xs : List D} {x : D} (h : S[n]? = some (.lst (xs ++ [x]))) (hl : xs.length ≤ 1000000) : setCell n S (fun xs => (xs[xs.length - 1]?).map fun d => (d, xs.dropLast)) = .ok x (S.set n (.lst xs)) := by
  unfold setCell
  have e1 : (xs ++ [x])[(xs ++ [x]).length - 1]? = some x := by
    rw [List.length_append, List.length_singleton, Nat.add_sub_cancel, List.getElem?_append_right (Nat.le_refl _), Nat.sub_self]
    rfl
  simp only [h, e1, Option.map_some, List.dropLast_concat]
  rw [if_pos (Nat.le_trans hl line_big)]
theorem appE {S : Store} {n : Nat} {xs : List D} {x : D} (h : S[n]? = some (.lst xs)) (hl : xs.length < 1000000) : appD (.ref n) x S = .ok .non (S.set n (.lst (xs ++ [x]))) := by
  unfold appD setCell
  simp only [h]
  rw [if_pos (Nat.lt_of_lt_of_le hl line_big)]
  simp only
  rw [if_pos (Nat.le_trans (by rw [List.length_append, List.length_singleton]; omega) line_big)]
theorem addLC {S : Store} {n : Nat} {xs ys : List D} (h : S[n]? = some (.lst ys)) (hl : xs.length + ys.length ≤ 1000000) : binD .Add (.lst xs) (.ref n) S = .ok (.lst (xs ++ ys)) S := by
  show (match S[n]? with | some (.lst ys) => if xs.length + ys.length ≤ sizeLine then R.ok (D.lst (xs ++ ys)) S else .bad | _ => .bad) = _
  rw [h]
  simp only
  rw [if_pos (Nat.le_trans hl line_big)]
theorem rngD_ints (n : Int) : rngD 0 n = ((List.range n.toNat).map fun i => D.int ((i : Nat) : Int)) := by
  unfold rngD
  rw [Int.sub_zero]
  apply List.map_congr_left
  intro i _
  rw [Int.zero_add]
theorem erase_perm {α : Type} : ∀ {l : List α} {i : Nat} (h : i < l.length), (l[i] :: l.eraseIdx i).Perm l
  | [], _, h => by simp at h
  | x :: l, 0, _ => List.Perm.refl _
  | x :: l, i + 1, h => by
    have := erase_perm (l := l) (i := i) (by simpa using h)
    rw [List.getElem_cons_succ, List.eraseIdx_cons_succ]
    exact (List.Perm.swap _ _ _).trans (this.cons x)
theorem sh_dy {f w : Nat} {M : List (List Int)} (h : SzV 660 M) (hf : f ≤ 90000) (hw : Wd w M) (hw2 : w ≤ 20) (hl : M.length ≤ 20) : Sh 181000 3 (.tup (dyD f M)) := by
  refine (Sh.tup (n := 9000) (m := 2) fun x hx => ?_).mono (by rw [dyD_len]; omega) (by omega)
  unfold dyD at hx
  obtain ⟨r, hr, rfl⟩ := List.mem_map.mp hx
  exact sh_plD (h r hr) hf (by rw [hw r hr]; exact hw2)
theorem sh_two {n m : Nat} {a b : D} (h1 : Sh n m a) (h2 : Sh n m b) : Sh (2 * n + 7) (m + 1) (.lst [a, b]) :=
  (Sh.lst (n := n) (m := m) fun x hx => by
    simp only [List.mem_cons, List.not_mem_nil, or_false] at hx
    rcases hx with rfl | rfl
    · exact h1
    · exact h2).mono (by simp <;> omega) (by omega)
theorem sh_three {n m : Nat} {a b c : D} (h1 : Sh n m a) (h2 : Sh n m b) (h3 : Sh n m c) : Sh (3 * n + 9) (m + 1) (.lst [a, b, c]) :=
  (Sh.lst (n := n) (m := m) fun x hx => by
    simp only [List.mem_cons, List.not_mem_nil, or_false] at hx
    rcases hx with rfl | rfl | rfl
    · exact h1
    · exact h2
    · exact h3).mono (by simp <;> omega) (by omega)
theorem sh_nat {i : Nat} (h : i ≤ 1000000) : Sh 20 0 (.int (i : Int)) := (Sh.int (k := 19) (by omega) (by omega) (by
  have : (10 : Nat) ^ 19 = 10000000000000000000 := by decide
  omega)).mono (by omega) (by omega)
theorem rp_plrow {f : Nat} {ns : List Int} {row : List (Nat × Nat)} (h : ∀ x ∈ ns, Sz 660 x) (hf : f ≤ 90000) (hl : ns.length ≤ 20) (hr : OkRow 20 row) (h2 : row.length ≤ 2000) : Rp (.lst [.tup (plD f ns), .tup (rowD row)]) :=
  (sh_two (n := 80000) (m := 3) ((sh_plD h hf hl).mono (by omega) (by omega)) (sh_row hr h2)).rp (by omega) (by omega)
theorem rp_pl {f : Nat} {ns : List Int} (h : ∀ x ∈ ns, Sz 660 x) (hf : f ≤ 90000) (hl : ns.length ≤ 20) : Rp (.tup (plD f ns)) := (sh_plD h hf hl).rp (by omega) (by omega)
theorem rp_dy {f w : Nat} {M : List (List Int)} (h : SzV 660 M) (hf : f ≤ 90000) (hw : Wd w M) (hw2 : w ≤ 20) (hl : M.length ≤ 20) : Rp (.tup (dyD f M)) := (sh_dy h hf hw hw2 hl).rp (by omega) (by omega)
/-- what is an order of mapped things is mapped of an order -/
theorem perm_map_inv {α β : Type} {f : α → β} : ∀ {ys zs : List β}, ys.Perm zs → ∀ l : List α, zs = l.map f → ∃ l' : List α, l'.Perm l ∧ ys = l'.map f := by
  intro ys zs h
  induction h with
  | nil =>
    intro l hl
    exact ⟨l, List.Perm.refl _, hl⟩
  | cons x h ih =>
    intro l hl
    cases l with
    | nil => cases hl
    | cons a t =>
      rw [List.map_cons] at hl
      injection hl with e1 e2
      obtain ⟨t', p, e⟩ := ih t e2
      exact ⟨a :: t', p.cons a, by rw [List.map_cons, e, e1]⟩
  | swap x y t =>
    intro l hl
    match l, hl with
    | [], hl => cases hl
    | [a], hl => cases hl
    | a :: b :: r, hl =>
      rw [List.map_cons, List.map_cons] at hl
      injection hl with e1 e2
      injection e2 with e2 e3
      exact ⟨b :: a :: r, List.Perm.swap a b r, by rw [List.map_cons, List.map_cons, e1, e2, e3]⟩
  | trans h1 h2 ih1 ih2 =>
    intro l hl
    obtain ⟨l2, p2, e2⟩ := ih2 l hl
    obtain ⟨l1, p1, e1⟩ := ih1 l2 e2
    exact ⟨l1, p1.trans p2, e1⟩
theorem SzV.perm {m : Nat} {A B : List (List Int)} (h : SzV m A) (p : B.Perm A) : SzV m B := fun r hr => h r (p.mem_iff.mp hr)
theorem Wd.perm {m : Nat} {A B : List (List Int)} (h : Wd m A) (p : B.Perm A) : Wd m B := fun r hr => h r (p.mem_iff.mp hr)
theorem SzV.mono {m n : Nat} {A : List (List Int)} (h : SzV m A) (l : m ≤ n) : SzV n A := fun r hr x hx => (h r hr x hx).mono l
theorem rngD_nats {n : Nat} : rngD 0 (n : Int) = (List.range n).map fun i => D.int ((i : Nat) : Int) := by rw [rngD_ints, Int.toNat_natCast]
theorem ix_plT {f : Nat} {ns : List Int} {i : Nat} {S : Store} (h : i < ns.length) : ixD (.tup (plD f ns)) (.int i) S = .ok (hD (lo f (ns.getD i 0))) S := ix_pl (S := S) h
theorem nat_of {i n : Int} (h0 : 0 ≤ i) (h1 : i < n) : ∃ a : Nat, i = (a : Int) ∧ a < n.toNat := ⟨i.toNat, by omega, by omega⟩
theorem OkRow.up {n m : Nat} {row : List (Nat × Nat)} (h : OkRow n row) (l : n ≤ m) : OkRow m row := fun q hq => by have := h q hq; omega
mutual
/-- whole numbers, texts, none, tuples and lists of such -/
def pv : D → Bool
  | .int _ => true
  | .str _ => true
  | .non => true
  | .tup xs => pvs xs
  | .lst xs => pvs xs
  | _ => false
def pvs : List D → Bool
  | [] => true
  | d :: ds => pv d && pvs ds
end
mutual
theorem eqv_iff : ∀ (d e : D) (p q : PyData), pv d = true → pv e = true → toP d = some p → toP e = some q → (PyData.eqv p q = true ↔ d = e)
  | .int i, e, p, q, hd, he, hp, hq => by
    cases hp
    cases e with
    | int j => cases hq; simp [PyData.eqv]
    | str y => cases hq; simp [PyData.eqv]
    | non => cases hq; simp [PyData.eqv]
    | tup ys => unfold toP at hq; obtain ⟨qs, _, rfl⟩ := Option.map_eq_some_iff.mp hq; simp [PyData.eqv]
    | lst ys => unfold toP at hq; obtain ⟨qs, _, rfl⟩ := Option.map_eq_some_iff.mp hq; simp [PyData.eqv]
    | bl _ => cases he
    | dic _ _ => cases he
    | ref _ => cases he
  | .str i, e, p, q, hd, he, hp, hq => by
    cases hp
    cases e with
    | int j => cases hq; simp [PyData.eqv]
    | str y => cases hq; simp [PyData.eqv]
    | non => cases hq; simp [PyData.eqv]
    | tup ys => unfold toP at hq; obtain ⟨qs, _, rfl⟩ := Option.map_eq_some_iff.mp hq; simp [PyData.eqv]
    | lst ys => unfold toP at hq; obtain ⟨qs, _, rfl⟩ := Option.map_eq_some_iff.mp hq; simp [PyData.eqv]
    | bl _ => cases he
    | dic _ _ => cases he
    | ref _ => cases he
  | .non, e, p, q, hd, he, hp, hq => by
    cases hp
    cases e with
    | int j => cases hq; simp [PyData.eqv]
    | str y => cases hq; simp [PyData.eqv]
    | non => cases hq; simp [PyData.eqv]
    | tup ys => unfold toP at hq; obtain ⟨qs, _, rfl⟩ := Option.map_eq_some_iff.mp hq; simp [PyData.eqv]
    | lst ys => unfold toP at hq; obtain ⟨qs, _, rfl⟩ := Option.map_eq_some_iff.mp hq; simp [PyData.eqv]
    | bl _ => cases he
    | dic _ _ => cases he
    | ref _ => cases he
  | .tup xs, e, p, q, hd, he, hp, hq => by
    unfold toP at hp
    obtain ⟨ps, h1, rfl⟩ := Option.map_eq_some_iff.mp hp
    cases e with
    | int j => cases hq; simp [PyData.eqv]
    | str y => cases hq; simp [PyData.eqv]
    | non => cases hq; simp [PyData.eqv]
    | tup ys =>
      unfold toP at hq; obtain ⟨qs, h2, rfl⟩ := Option.map_eq_some_iff.mp hq
      unfold pv at hd he
      have := eqvs_iff xs ys ps qs hd he h1 h2
      rw [PyData.eqv, this]
      simp
    | lst ys => unfold toP at hq; obtain ⟨qs, _, rfl⟩ := Option.map_eq_some_iff.mp hq; simp [PyData.eqv]
    | bl _ => cases he
    | dic _ _ => cases he
    | ref _ => cases he
  | .lst xs, e, p, q, hd, he, hp, hq => by
    unfold toP at hp
    obtain ⟨ps, h1, rfl⟩ := Option.map_eq_some_iff.mp hp
    cases e with
    | int j => cases hq; simp [PyData.eqv]
    | str y => cases hq; simp [PyData.eqv]
    | non => cases hq; simp [PyData.eqv]
    | lst ys =>
      unfold toP at hq; obtain ⟨qs, h2, rfl⟩ := Option.map_eq_some_iff.mp hq
      unfold pv at hd he
      have := eqvs_iff xs ys ps qs hd he h1 h2
      rw [PyData.eqv, this]
      simp
    | tup ys => unfold toP at hq; obtain ⟨qs, _, rfl⟩ := Option.map_eq_some_iff.mp hq; simp [PyData.eqv]
    | bl _ => cases he
    | dic _ _ => cases he
    | ref _ => cases he
  | .bl _, _, _, _, hd, _, _, _ => by cases hd
  | .dic _ _, _, _, _, hd, _, _, _ => by cases hd
  | .ref _, _, _, _, hd, _, _, _ => by cases hd
theorem eqvs_iff : ∀ (xs ys : List D) (ps qs : List PyData), pvs xs = true → pvs ys = true → toP.toPs xs = some ps → toP.toPs ys = some qs → (PyData.eqvAll ps qs = true ↔ xs = ys)
  | [], ys, ps, qs, _, _, hp, hq => by
    cases hp
    cases ys with
    | nil => cases hq; simp [PyData.eqvAll]
    | cons y ys =>
      unfold toP.toPs at hq
      split at hq
      · cases hq; simp [PyData.eqvAll]
      · cases hq
  | x :: xs, ys, ps, qs, hd, he, hp, hq => by
    unfold toP.toPs at hp
    split at hp
    · rename_i p ps' h1 h2
      cases hp
      cases ys with
      | nil => cases hq; simp [PyData.eqvAll]
      | cons y ys =>
        unfold toP.toPs at hq
        split at hq
        · rename_i q qs' h3 h4
          cases hq
          unfold pvs at hd he
          rw [Bool.and_eq_true] at hd he
          rw [PyData.eqvAll, Bool.and_eq_true, eqv_iff x y p q hd.1 he.1 h1 h3, eqvs_iff xs ys ps' qs' hd.2 he.2 h2 h4]
          simp
        · cases hq
    · cases hp
end
/-- what may be compared, m deep -/
structure Cm (m : Nat) (d : D) : Prop where
  v : pv d = true
  l : Lay m d
theorem Cm.int {i : Int} : Cm 0 (.int i) := ⟨rfl, Lay.int⟩
theorem Cm.mono {m m' : Nat} {d : D} (h : Cm m d) (hm : m ≤ m') : Cm m' d := ⟨h.v, h.l.mono hm⟩
theorem pvs_all : ∀ {xs : List D}, (∀ x ∈ xs, pv x = true) → pvs xs = true
  | [], _ => rfl
  | x :: xs, h => by
    unfold pvs
    rw [h x List.mem_cons_self, pvs_all fun y hy => h y (List.mem_cons_of_mem _ hy)]
    rfl
theorem Cm.tup {m : Nat} {xs : List D} (h : ∀ x ∈ xs, Cm m x) : Cm (m + 1) (.tup xs) := ⟨pvs_all fun x hx => (h x hx).v, Lay.tup fun x hx => (h x hx).l⟩
theorem Lay.lst {m : Nat} {xs : List D} (h : ∀ x ∈ xs, Lay m x) : Lay (m + 1) (.lst xs) := by
  obtain ⟨ps, g1, g2, g3, _⟩ := lay_all h
  exact ⟨.list ps, by unfold toP; rw [g1]; rfl, by simp [PyData.canLay0, g2], by simp only [PyData.depth]; omega⟩
theorem Cm.lst {m : Nat} {xs : List D} (h : ∀ x ∈ xs, Cm m x) : Cm (m + 1) (.lst xs) := ⟨pvs_all fun x hx => (h x hx).v, Lay.lst fun x hx => (h x hx).l⟩
theorem Cm.hD {p : Int × Nat} : Cm 1 (hD p) := Cm.tup fun x hx => by
  simp only [List.mem_cons, List.not_mem_nil, or_false] at hx
  rcases hx with rfl | rfl <;> exact Cm.int
theorem Cm.pl {f : Nat} {ns : List Int} : Cm 2 (.tup (plD f ns)) := Cm.tup fun x hx => by
  obtain ⟨a, _, rfl⟩ := List.mem_map.mp hx
  exact Cm.hD
theorem Cm.dy {f : Nat} {M : List (List Int)} : Cm 3 (.tup (dyD f M)) := Cm.tup fun x hx => by
  obtain ⟨a, _, rfl⟩ := List.mem_map.mp hx
  exact Cm.pl
theorem Cm.ints {is : List Int} : Cm 1 (.lst (is.map .int)) := Cm.lst fun x hx => by
  obtain ⟨a, _, rfl⟩ := List.mem_map.mp hx
  exact Cm.int
theorem Cm.intsT {is : List Int} : Cm 1 (.tup (is.map .int)) := Cm.tup fun x hx => by
  obtain ⟨a, _, rfl⟩ := List.mem_map.mp hx
  exact Cm.int
theorem Cm.row {row : List (Nat × Nat)} : Cm 2 (.tup (rowD row)) := Cm.tup fun x hx => by
  obtain ⟨a, _, rfl⟩ := List.mem_map.mp hx
  refine Cm.tup fun x hx => ?_
  simp only [List.mem_cons, List.not_mem_nil, or_false] at hx
  rcases hx with rfl | rfl <;> exact Cm.int
/-- compared as it stands -/
theorem eqD_cm {m n : Nat} {a b : D} {S : Store} (h1 : Cm m a) (h2 : Cm n b) (hm : m ≤ 64) (hn : n ≤ 64) (hk : ∀ xs, a = .lst xs → ∀ ys, b ≠ .tup ys) (hk2 : ∀ xs, a = .tup xs → ∀ ys, b ≠ .lst ys) (p : Prop) [Decidable p] (hp : a = b ↔ p) : eqD a b S = some (decide p) := by
  obtain ⟨v1, pa, a1, a2, a3⟩ := h1
  obtain ⟨v2, pb, b1, b2, b3⟩ := h2
  have key := eqv_iff a b pa pb v1 v2 a1 b1
  have hr : decide p = PyData.eqv pa pb := by
    by_cases h : p
    · rw [decide_eq_true h]; exact (key.mpr (hp.mpr h)).symm
    · rw [decide_eq_false h]
      cases he : PyData.eqv pa pb with
      | false => rfl
      | true => exact absurd (hp.mp (key.mp he)) h
  have s1 : SeqAt.shaped pa = true := by unfold SeqAt.shaped; rw [a2]; simp; omega
  have s2 : SeqAt.shaped pb = true := by unfold SeqAt.shaped; rw [b2]; simp; omega
  unfold eqD
  cases he : emptyD a b S with
  | some r =>
    show some r = _
    congr 1
    unfold emptyD at he
    split at he
    · rename_i e1
      split at he
      · rename_i xs
        cases he
        by_cases h : xs = []
        · subst h; exact (decide_eq_true (hp.mp rfl)).symm
        · rw [decide_eq_false (fun q => h (by have := hp.mpr q; injection this))]
          cases xs with
          | nil => exact absurd rfl h
          | cons _ _ => rfl
      · cases he
    · split at he
      · cases he
      · rename_i hnt
        cases a with
        | lst xs =>
          cases he
          by_cases h : xs = []
          · subst h; exact (decide_eq_true (hp.mp rfl)).symm
          · rw [decide_eq_false (fun q => h (by have := hp.mpr q; injection this))]
            cases xs with
            | nil => exact absurd rfl h
            | cons _ _ => rfl
        | ref n => cases v1
        | tup xs => exact absurd rfl (hnt xs)
        | _ => cases he
    · cases he
  | none =>
    show eqD0 a b S = _
    unfold eqD0
    split
    · rename_i i j
      congr 1
      exact decide_eq_decide.mpr ⟨fun h => hp.mp (by rw [h]), fun h => by have := hp.mpr h; injection this⟩
    · rename_i i j
      congr 1
      exact decide_eq_decide.mpr ⟨fun h => hp.mp (by rw [h]), fun h => by have := hp.mpr h; injection this⟩
    · exact congrArg some (decide_eq_true (hp.mp rfl)).symm
    · have t1 : toPS a S = some pa := by
        cases a with
        | ref n => cases v1
        | _ => exact a1
      have t2 : toPS b S = some pb := by
        cases b with
        | ref n => cases v2
        | _ => exact b1
      rw [t1, t2]
      simp only [s1, s2, and_self, if_true, hr]
theorem eqs_cm {m n : Nat} {a b : D} {S : Store} (h1 : Cm m a) (h2 : Cm n b) (hm : m ≤ 64) (hn : n ≤ 64) (hk : ∀ xs, a = .lst xs → ∀ ys, b ≠ .tup ys) (hk2 : ∀ xs, a = .tup xs → ∀ ys, b ≠ .lst ys) (p : Prop) [Decidable p] (hp : a = b ↔ p) : cmpD .Eq a b S = .ok (.bl (decide p)) S := by
  show (match eqD a b S with | some c => R.ok (D.bl c) S | none => .bad) = _
  rw [eqD_cm h1 h2 hm hn hk hk2 p hp]
theorem nes_cm {m n : Nat} {a b : D} {S : Store} (h1 : Cm m a) (h2 : Cm n b) (hm : m ≤ 64) (hn : n ≤ 64) (hk : ∀ xs, a = .lst xs → ∀ ys, b ≠ .tup ys) (hk2 : ∀ xs, a = .tup xs → ∀ ys, b ≠ .lst ys) (p : Prop) [Decidable p] (hp : a = b ↔ p) : cmpD .NotEq a b S = .ok (.bl (!decide p)) S := by
  show (match eqD a b S with | some c => R.ok (D.bl (!c)) S | none => .bad) = _
  rw [eqD_cm h1 h2 hm hn hk hk2 p hp]
theorem hD_inj {p q : Int × Nat} : hD p = hD q ↔ p = q := by
  constructor
  · intro h
    unfold hD at h
    injection h with h
    injection h with h1 h
    injection h with h2 h
    injection h1 with h1
    injection h2 with h2
    exact Prod.ext h1 (by omega)
  · rintro rfl; rfl
theorem lo_inj {f : Nat} {a b : Int} : lo f a = lo f b ↔ a = b := by
  constructor
  · intro h
    obtain ⟨_, h1, _⟩ := lo_spec f a
    obtain ⟨_, h2, _⟩ := lo_spec f b
    rw [h1, h2, h]
  · rintro rfl; rfl
theorem eq_h {f : Nat} {a b : Int} {S : Store} : cmpD .Eq (hD (lo f a)) (hD (lo f b)) S = .ok (.bl (decide (a = b))) S :=
  eqs_cm Cm.hD Cm.hD (by omega) (by omega) (fun _ h => by cases h) (fun _ _ _ h => by cases h) _ (hD_inj.trans lo_inj)
theorem ne_h {f : Nat} {a b : Int} {S : Store} : cmpD .NotEq (hD (lo f a)) (hD (lo f b)) S = .ok (.bl (!decide (a = b))) S :=
  nes_cm Cm.hD Cm.hD (by omega) (by omega) (fun _ h => by cases h) (fun _ _ _ h => by cases h) _ (hD_inj.trans lo_inj)
theorem map_int_inj {is js : List Int} : is.map D.int = js.map D.int ↔ is = js := by
  constructor
  · intro h
    induction is generalizing js with
    | nil => cases js with
      | nil => rfl
      | cons _ _ => cases h
    | cons i is ih => cases js with
      | nil => cases h
      | cons j js =>
        rw [List.map_cons, List.map_cons] at h
        injection h with h1 h2
        injection h1 with h1
        rw [h1, ih h2]
  · rintro rfl; rfl
theorem eq_li {is js : List Int} {S : Store} : cmpD .Eq (.lst (is.map .int)) (.lst (js.map .int)) S = .ok (.bl (decide (is = js))) S :=
  eqs_cm Cm.ints Cm.ints (by omega) (by omega) (fun _ _ _ h => by cases h) (fun _ h => by cases h) _ ⟨fun h => map_int_inj.mp (by injection h), fun h => by rw [h]⟩
theorem ne_li {is js : List Int} {S : Store} : cmpD .NotEq (.lst (is.map .int)) (.lst (js.map .int)) S = .ok (.bl (!decide (is = js))) S :=
  nes_cm Cm.ints Cm.ints (by omega) (by omega) (fun _ _ _ h => by cases h) (fun _ h => by cases h) _ ⟨fun h => map_int_inj.mp (by injection h), fun h => by rw [h]⟩
theorem plD_inj {f : Nat} {is js : List Int} : plD f is = plD f js ↔ is = js := by
  constructor
  · intro h
    induction is generalizing js with
    | nil => cases js with
      | nil => rfl
      | cons _ _ => cases h
    | cons i is ih => cases js with
      | nil => cases h
      | cons j js =>
        unfold plD at h ih
        rw [List.map_cons, List.map_cons] at h
        injection h with h1 h2
        rw [lo_inj.mp (hD_inj.mp h1), ih h2]
  · rintro rfl; rfl
theorem eq_pl {f : Nat} {is js : List Int} {S : Store} : cmpD .Eq (.tup (plD f is)) (.tup (plD f js)) S = .ok (.bl (decide (is = js))) S :=
  eqs_cm Cm.pl Cm.pl (by omega) (by omega) (fun _ h => by cases h) (fun _ _ _ h => by cases h) _ ⟨fun h => plD_inj.mp (by injection h), fun h => by rw [h]⟩
theorem ne_pl {f : Nat} {is js : List Int} {S : Store} : cmpD .NotEq (.tup (plD f is)) (.tup (plD f js)) S = .ok (.bl (!decide (is = js))) S :=
  nes_cm Cm.pl Cm.pl (by omega) (by omega) (fun _ h => by cases h) (fun _ _ _ h => by cases h) _ ⟨fun h => plD_inj.mp (by injection h), fun h => by rw [h]⟩
/-- [1 for .. if ..] -/
theorem comp_ones {g : D → Store → R (Option D)} {α : Type} (u : α → D) (p : α → Bool) {S : Store} {ds : List α} (h : ∀ d ∈ ds, g (u d) S = .ok (if p d = true then some (.int 1) else none) S) (hl : ds.length ≤ 1000000) : compF g (ds.map u) [] S = .ok (.lst ((ds.filter p).map fun _ => .int 1)) S := by
  have go : ∀ (ds : List α) (acc : List D), (∀ d ∈ ds, g (u d) S = .ok (if p d = true then some (.int 1) else none) S) → acc.length + ds.length ≤ 1000000 → compF g (ds.map u) acc S = .ok (.lst (acc ++ (ds.filter p).map fun _ => .int 1)) S := by
    intro ds
    induction ds with
    | nil =>
      intro acc _ hl
      unfold compF
      rw [List.map_nil]
      simp only [List.filter_nil, List.map_nil, List.append_nil]
      rw [if_pos (Nat.le_trans (by simpa using hl) line_big)]
    | cons d ds ih =>
      intro acc h hl
      rw [List.length_cons] at hl
      rw [List.map_cons]
      unfold compF
      rw [h d List.mem_cons_self]
      rw [List.filter_cons]
      by_cases hp : p d = true
      · rw [if_pos hp, if_pos hp]
        show compF g (ds.map u) (acc ++ [.int 1]) S = _
        rw [ih _ (fun e he => h e (List.mem_cons_of_mem _ he)) (by rw [List.length_append, List.length_singleton]; omega), List.map_cons, List.append_assoc]
        rfl
      · rw [if_neg hp, if_neg hp]
        show compF g (ds.map u) acc S = _
        rw [ih _ (fun e he => h e (List.mem_cons_of_mem _ he)) (by omega)]
  rw [go ds [] h (by simpa using hl), List.nil_append]
/-- [.. for .. if ..] -/
theorem compF_some {g : D → Store → R (Option D)} {α : Type} (u : α → D) (f : α → Option D) {S : Store} {ds : List α} (h : ∀ d ∈ ds, g (u d) S = .ok (f d) S) (hl : ds.length ≤ 1000000) : compF g (ds.map u) [] S = .ok (.lst (ds.filterMap f)) S := by
  have go : ∀ (ds : List α) (acc : List D), (∀ d ∈ ds, g (u d) S = .ok (f d) S) → acc.length + ds.length ≤ 1000000 → compF g (ds.map u) acc S = .ok (.lst (acc ++ ds.filterMap f)) S := by
    intro ds
    induction ds with
    | nil =>
      intro acc _ hl
      unfold compF
      rw [List.map_nil]
      simp only [List.filterMap_nil, List.append_nil]
      rw [if_pos (Nat.le_trans (by simpa using hl) line_big)]
    | cons d ds ih =>
      intro acc h hl
      rw [List.length_cons] at hl
      rw [List.map_cons]
      unfold compF
      rw [h d List.mem_cons_self, List.filterMap_cons]
      cases f d with
      | none =>
        show compF g (ds.map u) acc S = _
        rw [ih _ (fun e he => h e (List.mem_cons_of_mem _ he)) (by omega)]
      | some x =>
        show compF g (ds.map u) (acc ++ [x]) S = _
        rw [ih _ (fun e he => h e (List.mem_cons_of_mem _ he)) (by rw [List.length_append, List.length_singleton]; omega), List.append_assoc]
        rfl
  rw [go ds [] h (by simpa using hl), List.nil_append]
theorem ones_nil {α : Type} {p : α → Bool} {ds : List α} : (ds.filter p).map (fun _ => D.int 1) = [] ↔ ds.any p = false := by
  rw [List.map_eq_nil_iff, List.filter_eq_nil_iff]
  constructor
  · intro h
    rw [Bool.eq_false_iff]
    intro q
    obtain ⟨d, hd, hp⟩ := List.any_eq_true.mp q
    exact h d hd hp
  · intro h d hd hp
    rw [List.any_eq_true.mpr ⟨d, hd, hp⟩] at h
    cases h
theorem ne_ones {α : Type} {p : α → Bool} {ds : List α} {S : Store} : cmpD .NotEq (.lst ((ds.filter p).map fun _ => D.int 1)) (.lst []) S = .ok (.bl (ds.any p)) S := by
  rw [neL]
  congr 2
  cases h : ds.any p with
  | false => rw [decide_eq_true (ones_nil.mpr h)]; rfl
  | true => rw [decide_eq_false (fun q => by rw [ones_nil.mp q] at h; cases h)]; rfl
theorem eq_ones {α : Type} {p : α → Bool} {ds : List α} {S : Store} : cmpD .Eq (.lst ((ds.filter p).map fun _ => D.int 1)) (.lst []) S = .ok (.bl (!ds.any p)) S := by
  rw [eqL]
  congr 2
  cases h : ds.any p with
  | false => rw [decide_eq_true (ones_nil.mpr h)]; rfl
  | true => rw [decide_eq_false (fun q => by rw [ones_nil.mp q] at h; cases h)]; rfl
theorem blsD_map : ∀ bs : List Bool, blsD (bs.map .bl) = some bs
  | [] => rfl
  | b :: bs => by rw [List.map_cons]; unfold blsD; rw [blsD_map bs]
theorem allL {S : Store} {bs : List Bool} : b1D .all (.lst (bs.map .bl)) S = .ok (.bl (bs.all id)) S := by
  show (match (itemsD (.lst (bs.map .bl)) S).bind blsD with | some bs => R.ok (D.bl (bs.all id)) S | none => .bad) = _
  unfold itemsD
  simp only [Option.bind_some, blsD_map]
theorem anyL {S : Store} {bs : List Bool} : b1D .any (.lst (bs.map .bl)) S = .ok (.bl (bs.any id)) S := by
  show (match (itemsD (.lst (bs.map .bl)) S).bind blsD with | some bs => R.ok (D.bl (bs.any id)) S | none => .bad) = _
  unfold itemsD
  simp only [Option.bind_some, blsD_map]
theorem sumL {S : Store} {ns : List Int} : b1D .sum (.lst (ns.map .int)) S = .ok (.int ns.sum) S := by
  show (match (itemsD (.lst (ns.map .int)) S).bind intsD with | some ns => R.ok (D.int ns.sum) S | none => .bad) = _
  unfold itemsD
  simp only [Option.bind_some, intsD_map]
theorem repL {S : Store} {xs : List D} {k : Int} (h1 : 0 ≤ k) (h2 : k ≤ 1000000) (h3 : xs.length * k.toNat ≤ 1000000) : binD .Mult (.lst xs) (.int k) S = .ok (.lst (rep k.toNat xs)) S := by
  show (if -(2 ^ 63) ≤ k ∧ k < 2 ^ 63 ∧ xs.length * k.toNat ≤ sizeLine then _ else _) = _
  rw [if_pos ⟨by omega, by omega, Nat.le_trans h3 line_big⟩]
theorem repL1 {S : Store} {d : D} {n : Nat} (h : n ≤ 1000) : binD .Mult (.lst [d]) (.int n) S = .ok (.lst (List.replicate n d)) S := by
  have e : ∀ n, rep n [d] = List.replicate n d := by
    intro n
    unfold rep
    induction n with
    | zero => rfl
    | succ n ih => rw [List.replicate_succ, List.flatten_cons, ih]; rfl
  have h3 : ([d] : List D).length * (n : Int).toNat ≤ 1000000 := by rw [Int.toNat_natCast, List.length_singleton]; omega
  rw [repL (by omega) (by omega) h3, Int.toNat_natCast, e]
end IL
/-! NA: the third family's deck (k46-k51): draws, halves, whole numbers. -/
namespace IL.N
open PySem PySem.Spec PyProof.Rows L2 IL
def b_deck (c0 : Int) : S := (.sq (.par [(1, false), (2, false)] (.cs (.comp (.ife (.cmp .GtE (.var 3) (.int (0))) (.bin .Mult (.int (2)) (.var 3)) (.bin .Sub (.bin .Mult (.neg (.int (2))) (.var 3)) (.int (1)))) (.var 3) (.cs (.sl (.var 0) .nl (.cs (.int (63)) .nl)) .nl) .nl) (.cs (.bin .Add (.int c0) (.b1 .len (.var 0))) .nl))) (.sq (.for_ (.var 3) (.cs (.var 1) .nl) (.sq (.asg (.var 2) (.bin .Mod (.b1 .int (.bin .Add (.bin .Mult (.var 2) (.int (48271))) (.var 3))) (.int (4294967291)))) .nop)) (.sq (.ret (.cell (.lst (.cs (.cell (.comp (.var 3) (.var 3) (.cs (.var 1) .nl) (.cs (.cmp .GtE (.var 3) (.bin .Pow (.int (10)) (.int (15)))) .nl))) (.cs (.var 2) (.cs (.int (0)) .nl)))))) .nop)))
def b_draw : S := (.sq (.ife (.cmp .NotEq (.ix (.var 0) (.int (0))) (.lst .nl)) (.sq (.asg (.var 3) (.ix (.ix (.var 0) (.int (0))) (.int (0)))) (.sq (.asg (.ix (.ix (.var 0) (.int (0))) (.int (0))) (.bin .FloorDiv (.var 3) (.var 1))) (.sq (.ife (.cmp .Lt (.var 3) (.var 1)) (.sq (.expr (.popi (.ix (.var 0) (.int (0))) (.int (0)))) .nop) .nop) (.sq (.ret (.bin .Mod (.b1 .int (.var 3)) (.var 1))) .nop)))) .nop) (.sq (.asg (.ix (.var 0) (.int (2))) (.bin .Add (.ix (.var 0) (.int (2))) (.int (1)))) (.sq (.asg (.var 2) (.bin .Mod (.b1 .int (.bin .Add (.ix (.var 0) (.int (1))) (.bin .Mult (.int (2654435761)) (.ix (.var 0) (.int (2)))))) (.int (4294967291)))) (.sq (.asg (.var 2) (.bin .Mod (.b1 .int (.bin .Add (.bin .Add (.bin .Mult (.var 2) (.var 2)) (.bin .Mult (.int (40503)) (.ix (.var 0) (.int (2))))) (.int (11)))) (.int (4294967279)))) (.sq (.asg (.var 2) (.bin .Mod (.b1 .int (.bin .Add (.bin .Mult (.var 2) (.var 2)) (.ix (.var 0) (.int (1))))) (.int (4294967231)))) (.sq (.ret (.bin .Mod (.b1 .int (.bin .FloorDiv (.var 2) (.int (64)))) (.var 1))) .nop))))))
def b_pick : S := (.sq (.ret (.ix (.var 1) (.call "_law_draw" (.cs (.var 0) (.cs (.b1 .len (.var 1)) .nl))))) .nop)
def b_mixed : S := (.sq (.par [(2, false), (3, true)] (.cs (.cell (.b1 .lst (.var 1))) (.cs (.lst .nl) .nl))) (.sq (.whl (.cmp .NotEq (.var 2) (.lst .nl)) (.sq (.app 3 (.popi (.var 2) (.call "_law_draw" (.cs (.var 0) (.cs (.b1 .len (.var 2)) .nl))))) .nop)) (.sq (.reto 3) .nop)))
def b_half : S := (.sq (.whl (.and (.cmp .Gt (.var 1) (.int (0))) (.cmp .Eq (.bin .Mod (.var 0) (.int (2))) (.int (0)))) (.sq (.par [(0, false), (1, false)] (.cs (.bin .FloorDiv (.var 0) (.int (2))) (.cs (.bin .Sub (.var 1) (.int (1))) .nl))) .nop)) (.sq (.ret (.tup (.cs (.var 0) (.cs (.var 1) .nl)))) .nop))
def b_numbers : S := (.sq (.asg (.var 1) (.b1 .max (.bin .Add (.lst (.cs (.int (0)) .nl)) (.comp (.var 3) (.tup (.cs (.var 2) (.cs (.var 3) .nl))) (.cs (.var 0) .nl) .nl)))) (.sq (.ret (.tup (.cs (.cell (.comp (.bin .Mult (.var 2) (.bin .LShift (.int (1)) (.bin .Sub (.var 1) (.var 3)))) (.tup (.cs (.var 2) (.cs (.var 3) .nl))) (.cs (.var 0) .nl) .nl)) (.cs (.var 1) .nl)))) .nop))
def deckD (f : Nat) (st count : Int) : List D := [.ref f, .int st, .int count]
def Jar (S : Store) (j f n : Nat) : Prop := j ≠ f ∧ ∃ (fs : List Int) (st count : Int), S[f]? = some (.lst (fs.map .int)) ∧ S[j]? = some (.lst (deckD f st count)) ∧ fs.length ≤ 64 ∧ 0 ≤ count ∧ count ≤ n
variable {G : Str → Option D} {T : Str → Option Fn}
theorem jar_grow {S : Store} {j f n m : Nat} (h : Jar S j f n) (l : n ≤ m) : Jar S j f m := by
  obtain ⟨h0, fs, mi, count, h1, h2, h3, h4, h5⟩ := h
  exact ⟨h0, fs, mi, count, h1, h2, h3, h4, by omega⟩
theorem jar_lt {S : Store} {j f n : Nat} (h : Jar S j f n) : j < S.length ∧ f < S.length := by
  obtain ⟨_, fs, mi, count, h1, h2, _⟩ := h
  exact ⟨(List.getElem?_eq_some_iff.mp h2).1, (List.getElem?_eq_some_iff.mp h1).1⟩
theorem jar_app {S : Store} {j f n : Nat} {c : Cell} (h : Jar S j f n) : Jar (S ++ [c]) j f n := by
  obtain ⟨l1, l2⟩ := jar_lt h
  obtain ⟨h0, fs, mi, count, h1, h2, h3⟩ := h
  exact ⟨h0, fs, mi, count, by rw [List.getElem?_append_left l2]; exact h1, by rw [List.getElem?_append_left l1]; exact h2, h3⟩
theorem jar_set {S : Store} {j f n m : Nat} {c : Cell} (h : Jar S j f n) (hj : m ≠ j) (hf : m ≠ f) : Jar (S.set m c) j f n := by
  obtain ⟨h0, fs, mi, count, h1, h2, h3⟩ := h
  exact ⟨h0, fs, mi, count, by rw [List.getElem?_set_ne hf]; exact h1, by rw [List.getElem?_set_ne hj]; exact h2, h3⟩
theorem jar_more {S S' : Store} {j f n : Nat} (h : Jar S j f n) (g : Grow S S') : Jar S' j f n := by
  obtain ⟨h0, fs, mi, count, h1, h2, h3⟩ := h
  exact ⟨h0, fs, mi, count, g.get h1, g.get h2, h3⟩
section
variable {S : Store} {j f : Nat} {mi count : Int}
theorem get0 (h : S[j]? = some (.lst (deckD f mi count))) : ixD (.ref j) (.int 0) S = .ok (.ref f) S := by
  simp only [ixD, itemsD, h]
  rfl
theorem get1 (h : S[j]? = some (.lst (deckD f mi count))) : ixD (.ref j) (.int 1) S = .ok (.int mi) S := by
  simp only [ixD, itemsD, h]
  rfl
theorem get2 (h : S[j]? = some (.lst (deckD f mi count))) : ixD (.ref j) (.int 2) S = .ok (.int count) S := by
  simp only [ixD, itemsD, h]
  rfl
theorem put2 {c : Int} (h : S[j]? = some (.lst (deckD f mi count))) : setIxD (.ref j) (.int 2) (.int c) S = .ok () (S.set j (.lst (deckD f mi c))) := by
  unfold setIxD
  simp only [h]
  rfl
end
set_option maxHeartbeats 0 in
theorem draw (hT : T "_law_draw" = some ⟨2, 4, b_draw⟩) {k : Nat} {S : Store} {j f n : Nat} (hJ : Jar S j f n) (hn : n < 1000000000) {many : Int} (hm : 0 < many) (hm2 : many < 18446744073709551616) :
    Rw (callF G T (k + 1) "_law_draw" [.ref j, .int many] S) fun d S' => ∃ i : Int, d = .int i ∧ 0 ≤ i ∧ i < many ∧ Jar S' j f (n + 1) ∧ A.Keep S S' j f := by
  obtain ⟨hjf, fs, mi, count, hf, hj, h1, h2, h3⟩ := hJ
  refine Rw_call hT rfl ?_
  show Ow (exec G _ b_draw [.val (.ref j), .val (.int many), .no, .no] S) _
  unfold b_draw
  have g0 := get0 hj
  have g1 := get1 hj
  have g2 := get2 hj
  have hne := neC hf
  cases fs with
  | cons x r =>
    have hd : (!decide ((x :: r).map D.int = [])) = true := by simp
    rw [hd] at hne
    have hd := B.head0 hf
    have hp : ∀ c, setIxD (.ref f) (.int 0) (.int c) S = .ok () (S.set f (.lst ((c :: r).map .int))) := fun c => B.puth hf
    have hS : ∀ c, (S.set f (.lst ((c :: r).map .int)))[f]? = some (.lst ((c :: r).map .int)) := fun c => A.set_here hf
    have hj' : ∀ c, (S.set f (.lst ((c :: r).map .int)))[j]? = some (.lst (deckD f mi count)) := fun c => by rw [List.getElem?_set_ne (Ne.symm hjf)]; exact hj
    have g0' := get0 (hj' (x / many))
    have hil : isLst (.ref f) (S.set f (.lst ((x / many :: r).map .int))) = true := isLst_of (hS _)
    have hpo := popC (i := 0) (hS (x / many)) (by omega) (by simp only [List.length_map, List.length_cons]; omega) (by simp only [List.length_map, List.length_cons]; simp only [List.length_cons] at h1; omega)
    simp only [List.map_cons, List.getElem_cons_zero, List.eraseIdx_cons_zero, Int.toNat_zero] at hne hd hp hil hpo g0'
    rwa [60, g0, hne, hd, hp, g0', hil, hpo] at *
    · refine ⟨_, rfl, Int.emod_nonneg _ (by omega), Int.emod_lt_of_pos _ hm, ⟨hjf, r, mi, count, ?_, ?_, by rw [List.length_cons] at h1; omega, h2, by omega⟩, A.keep_f.trans A.keep_f⟩
      · exact A.set_here (hS (x / many))
      · rw [List.getElem?_set_ne (Ne.symm hjf)]; exact hj' _
    · refine ⟨_, rfl, Int.emod_nonneg _ (by omega), Int.emod_lt_of_pos _ hm, ⟨hjf, x / many :: r, mi, count, hS _, hj' _, h1, h2, by omega⟩, A.keep_f⟩
  | nil =>
    have hd : (!decide (([] : List Int).map D.int = [])) = false := by simp
    rw [hd] at hne
    have hp : setIxD (.ref j) (.int 2) (.int (count + 1)) S = .ok () (S.set j (.lst (deckD f mi (count + 1)))) := put2 hj
    have hS : (S.set j (.lst (deckD f mi (count + 1))))[j]? = some (.lst (deckD f mi (count + 1))) := A.set_here hj
    have k1 := get1 hS
    have k2 := get2 hS
    rwa [50, g0, g2, hne, hp, k1, k2] at *
    refine ⟨_, rfl, Int.emod_nonneg _ (by omega), Int.emod_lt_of_pos _ hm, ⟨hjf, [], mi, count + 1, ?_, hS, by simp, by omega, by omega⟩, A.keep_j⟩
    rw [List.getElem?_set_ne hjf]; exact hf
theorem pick (hT : T "_law_draw" = some ⟨2, 4, b_draw⟩) (hP : T "_law_pick" = some ⟨2, 2, b_pick⟩) {k : Nat} {S : Store} {j f n : Nat} (hJ : Jar S j f n) (hn : n < 1000000000) {xs : List D} (h0 : xs ≠ []) (hl : xs.length ≤ 1000000) :
    Rw (callF G T (k + 2) "_law_pick" [.ref j, .lst xs] S) fun d S' => d ∈ xs ∧ Jar S' j f (n + 1) ∧ A.Keep S S' j f := by
  refine Rw_call hP rfl ?_
  show Ow (exec G _ b_pick [.val (.ref j), .val (.lst xs)] S) _
  unfold b_pick
  have hx : 0 < xs.length := List.length_pos_iff.mpr h0
  rwa [] at ⊢
  refine Rw.mono (draw hT hJ hn (many := (xs.length : Int)) (by omega) (by omega)) ?_
  rintro d S' ⟨i, rfl, i0, i1, hJ', hK⟩
  simp only [ev_ixL i0 i1, Ow_ret]
  exact ⟨List.getElem_mem _, hJ', hK⟩
set_option maxHeartbeats 0 in
theorem jar {c00 : Int} (hT : T "_law_deck" = some ⟨1, 4, b_deck c00⟩) {k : Nat} {ns : List Int} (hn : ns.length ≤ 63) :
    Rw (callF G T (k + 1) "_law_deck" [.ref 0] [.ro (ns.map .int)]) fun d S' => d = .ref 2 ∧ Jar S' 2 1 0 := by
  refine Rw_call hT rfl ?_
  show Ow (exec G _ (b_deck c00) [.val (.ref 0), .no, .no, .no] [.ro (ns.map .int)]) _
  unfold b_deck
  have hsl : slD (.ref 0) none (some 63) [.ro (ns.map .int)] = .ok (.lst ((cut ns none (some 63)).map .int)) [.ro (ns.map .int)] := by
    rw [← cut_map]; rfl
  have hcl : (cut ns none (some 63)).length ≤ 63 := Nat.le_trans (cut_len _ _ _) hn
  have hlen : b1D .len (.ref 0) [.ro (ns.map .int)] = .ok (.int (ns.length : Nat)) [.ro (ns.map .int)] := by
    show R.ok (D.int ((ns.map D.int).length : Nat)) _ = _
    rw [List.length_map]
  generalize cut ns none (some 63) = c0 at hsl hcl
  rwa [hsl] at ⊢
  obtain ⟨fi, hfi⟩ : ∃ fi : Int → Int, ∀ i, fi i = if 0 ≤ i then 2 * i else -2 * i - 1 := ⟨_, fun i => rfl⟩
  refine Rw.eq (comp_map (fun i => .int (fi i)) (fun i _ => Rw.toEq ?_) (by omega)) ?_
  · by_cases hi : 0 ≤ i
    · have hi' : i ≥ 0 := hi
      have e : fi i = 2 * i := by rw [hfi, if_pos hi]
      rwa [hi, hi', e] at ⊢
    · have hi' : ¬ i ≥ 0 := hi
      have e : fi i = -2 * i - 1 := by rw [hfi, if_neg hi]
      rwa [hi, hi', e] at ⊢
  have hcs' : c0.map (fun i => D.int (fi i)) = (c0.map fi).map D.int := by rw [List.map_map]; rfl
  rw [hcs']
  generalize hcs : c0.map fi = cs
  have hcl' : cs.length ≤ 63 := by rw [← hcs, List.length_map]; exact hcl
  rwa [hlen, setPar] at ⊢
  refine Ow_for (fun _ v S => ∃ (sm : Int) (s3 : Slot), v = [.val (.ref 0), .val (.lst (cs.map .int)), .val (.int sm), s3] ∧ S = [.ro (ns.map .int)]) ⟨_, _, rfl, rfl⟩ ?_ ?_
  · rintro i d v S hd ⟨sm, s3, rfl, rfl⟩
    rw [List.getElem?_map] at hd
    obtain ⟨x, hx, rfl⟩ := Option.map_eq_some_iff.mp hd
    rwa [] at ⊢
    exact ⟨_, _, rfl⟩
  · rintro v S ⟨sm, s3, rfl, rfl⟩
    have e15 : (10 : Int) ^ (15 : Int).toNat = 1000000000000000 := by decide
    rwa [e15] at ⊢
    refine Rw.eq (comp_filter (fun i => decide (1000000000000000 ≤ i)) (fun i _ => Rw.toEq ?_) (by omega)) ?_
    · by_cases hi : 1000000000000000 ≤ i
      · have hi' : i ≥ 1000000000000000 := hi
        rwa [e15, hi, hi'] at ⊢
      · have hi' : ¬ i ≥ 1000000000000000 := hi
        rwa [e15, hi, hi'] at ⊢
    · rwa [] at ⊢
      have hfl := List.length_filter_le (fun i => decide ((1000000000000000 : Int) ≤ i)) cs
      refine ⟨by decide, cs.filter (fun i => decide ((1000000000000000 : Int) ≤ i)), sm, 0, rfl, rfl, by omega, by omega, by omega⟩
theorem erase_perm {α : Type} {l : List α} {i : Nat} (h : i < l.length) : (l[i] :: l.eraseIdx i).Perm l := by
  induction l generalizing i with
  | nil => simp at h
  | cons x l ih =>
    cases i with
    | zero => exact List.Perm.refl _
    | succ i =>
      rw [List.eraseIdx_cons_succ, List.getElem_cons_succ]
      exact (List.Perm.swap _ _ _).trans ((ih (by simpa using h)).cons _)
theorem mixed (dT : T "_law_draw" = some ⟨2, 4, b_draw⟩) (hT : T "_law_mixed_up" = some ⟨2, 4, b_mixed⟩) {k : Nat} {S : Store} {j f m : Nat} (hJ0 : Jar S j f m) {xs : List D} {e : D} (he : e = .lst xs ∨ e = .tup xs) (hm : m + xs.length < 1000000) (hl : xs.length ≤ 10000) :
    Rw (callF G T (k + 2) "_law_mixed_up" [.ref j, e] S) fun d S' => (∃ ys, d = .lst ys ∧ ys.Perm xs) ∧ Jar S' j f (m + xs.length) ∧ A.Keep' S S' j f := by
  refine Rw_call hT rfl ?_
  show Ow (exec G _ b_mixed [.val (.ref j), .val (e), .no, .no] S) _
  unfold b_mixed
  obtain ⟨lj, lf⟩ := jar_lt hJ0
  have hle : ∀ S, b1D .lst e S = .ok (.lst xs) S := fun S => by rcases he with rfl | rfl <;> rfl
  rwa [hle, setPar] at ⊢
  refine Ow_while (fun n v S1 => ∃ left ys : List D, v = [.val (.ref j), .val e, .val (.ref S.length), .own ys] ∧ left.length = n ∧ n + ys.length = xs.length ∧ S1[S.length]? = some (.lst left) ∧ (left ++ ys).Perm xs ∧ Jar S1 j f (m + ys.length) ∧ A.Keep' S S1 j f) ?_ xs.length _ _ ⟨xs, [], rfl, rfl, rfl, by rw [List.getElem?_append_right (by omega), Nat.sub_self]; rfl, by rw [List.append_nil], jar_app hJ0, A.keep_app⟩
  rintro n v S1 ⟨left, ys, rfl, h1, h2, h3, h4, hJ1, hK1⟩
  have hne := neC h3
  rwa [hne] at ⊢
  refine if_p (fun hq => ?_) (fun hq => ?_)
  · have hpos : 0 < left.length := List.length_pos_iff.mpr hq
    have hL := lenC h3
    have hi := isLst_of h3
    rwa [hL, hi] at ⊢
    refine Rw.mono (draw dT hJ1 (by omega) (by omega) (by omega)) ?_
    rintro d S2 ⟨i, rfl, i0, i1, hJ2, hK2⟩
    have h3' : S2[S.length]? = some (.lst left) := (hK2.2 _ (by omega) (by omega)).trans h3
    have hp := popC h3' i0 (by omega) (by omega)
    have hlt : ys.length < sizeLine := Nat.lt_of_lt_of_le (show ys.length < 1000000 by omega) line_big
    rwa [hp, hlt] at ⊢
    refine ⟨left.length - 1, by omega, left.eraseIdx i.toNat, ys ++ [left[i.toNat]'(by omega)], rfl, ?_, ?_, ?_, ?_, ?_, ?_⟩
    · rw [List.length_eraseIdx, if_pos (by omega)]
    · rw [List.length_append, List.length_singleton]; omega
    · exact A.set_here h3'
    · refine List.Perm.trans ?_ h4
      have p := erase_perm (l := left) (i := i.toNat) (by omega)
      refine List.Perm.trans ?_ (p.append_right ys)
      rw [← List.append_assoc, List.cons_append]
      exact List.perm_append_singleton _ _
    · rw [List.length_append, List.length_singleton]
      exact jar_set (jar_grow hJ2 (by omega)) (by omega) (by omega)
    · exact A.keep_set (hK1.trans hK2.up) (Nat.le_refl _)
  · have hq : left = [] := by simpa using hq
    subst hq
    rwa [] at ⊢
    have hy : ys.length = xs.length := by simp at h1; omega
    exact ⟨⟨ys, rfl, by simpa using h4⟩, by rw [← hy]; exact hJ1, hK1⟩
end IL.N
/-! MA: the second family's bag; marks: odd parts, common divisors, steps. -/
namespace IL.M
open PySem PySem.Spec PyProof.Rows L2 IL
def b_bag : S := (.sq (.par [(1, false), (2, false)] (.cs (.comp (.bin .Add (.bin .Mult (.int (2)) (.b1 .abs (.var 4))) (.b1 .int (.cmp .Lt (.var 4) (.int (0))))) (.var 4) (.cs (.sl (.var 0) .nl (.cs (.int (63)) .nl)) .nl) .nl) (.cs (.bin .Add (.int (50231)) (.bin .Mult (.int (7)) (.b1 .len (.var 0)))) .nl))) (.sq (.for_ (.var 3) (.cs (.var 1) .nl) (.sq (.asg (.var 2) (.bin .Mod (.b1 .int (.bin .Add (.bin .Add (.bin .Mult (.var 2) (.int (69069))) (.var 3)) (.int (1)))) (.int (4294967291)))) .nop)) (.sq (.ret (.dic ["far", "mixed", "count"] (.cs (.cell (.comp (.var 3) (.var 3) (.cs (.var 1) .nl) (.cs (.cmp .Gt (.var 3) (.bin .Pow (.int (10)) (.int (15)))) .nl))) (.cs (.var 2) (.cs (.int (0)) .nl))))) .nop)))
def b_draw : S := (.sq (.asg (.var 2) (.ix (.var 0) (.str "far"))) (.sq (.ife (.cmp .NotEq (.var 2) (.lst .nl)) (.sq (.asg (.var 5) (.ix (.var 2) (.int (0)))) (.sq (.asg (.ix (.var 2) (.int (0))) (.bin .FloorDiv (.var 5) (.var 1))) (.sq (.ife (.cmp .Lt (.var 5) (.var 1)) (.sq (.expr (.popi (.var 2) (.int (0)))) .nop) .nop) (.sq (.ret (.bin .Mod (.b1 .int (.var 5)) (.var 1))) .nop)))) .nop) (.sq (.asg (.var 3) (.bin .Add (.ix (.var 0) (.str "count")) (.int (1)))) (.sq (.asg (.ix (.var 0) (.str "count")) (.var 3)) (.sq (.asg (.var 4) (.bin .Mod (.b1 .int (.bin .Add (.ix (.var 0) (.str "mixed")) (.bin .Mult (.int (2654435761)) (.var 3)))) (.int (4294967291)))) (.sq (.asg (.var 4) (.bin .Mod (.b1 .int (.bin .Add (.bin .Add (.bin .Mult (.var 4) (.var 4)) (.bin .Mult (.int (40503)) (.var 3))) (.int (11)))) (.int (4294967279)))) (.sq (.asg (.var 4) (.bin .Mod (.b1 .int (.bin .Add (.bin .Mult (.var 4) (.var 4)) (.ix (.var 0) (.str "mixed")))) (.int (4294967231)))) (.sq (.ret (.bin .Mod (.b1 .int (.bin .FloorDiv (.var 4) (.int (256)))) (.var 1))) .nop))))))))
def b_pick : S := (.sq (.ret (.ix (.var 1) (.call "_law_draw" (.cs (.var 0) (.cs (.b1 .len (.var 1)) .nl))))) .nop)
def b_mixed : S := (.sq (.par [(2, false), (3, true)] (.cs (.cell (.b1 .lst (.var 1))) (.cs (.lst .nl) .nl))) (.sq (.whl (.cmp .NotEq (.var 2) (.lst .nl)) (.sq (.app 3 (.popi (.var 2) (.call "_law_draw" (.cs (.var 0) (.cs (.b1 .len (.var 2)) .nl))))) .nop)) (.sq (.reto 3) .nop)))
def b_odd : S := (.sq (.whl (.cmp .Eq (.bin .Mod (.b1 .int (.var 0)) (.int (2))) (.int (0))) (.sq (.asg (.var 0) (.bin .FloorDiv (.var 0) (.int (2)))) .nop)) (.sq (.ret (.var 0)) .nop))
def b_common : S := (.sq (.whl (.cmp .NotEq (.var 1) (.int (0))) (.sq (.par [(0, false), (1, false)] (.cs (.var 1) (.cs (.bin .Mod (.b1 .int (.var 0)) (.var 1)) .nl))) .nop)) (.sq (.ret (.var 0)) .nop))
def bagD (f : Nat) (mi count : Int) : List (Key × D) := [(.inr "far", .ref f), (.inr "mixed", .int mi), (.inr "count", .int count)]
def Jar (S : Store) (j f n : Nat) : Prop := j ≠ f ∧ ∃ (fs : List Int) (mi count : Int), S[f]? = some (.lst (fs.map .int)) ∧ S[j]? = some (.dic (bagD f mi count)) ∧ fs.length ≤ 64 ∧ 0 ≤ count ∧ count ≤ n
variable {G : Str → Option D} {T : Str → Option Fn}
theorem jar_grow {S : Store} {j f n m : Nat} (h : Jar S j f n) (l : n ≤ m) : Jar S j f m := by
  obtain ⟨h0, fs, mi, count, h1, h2, h3, h4, h5⟩ := h
  exact ⟨h0, fs, mi, count, h1, h2, h3, h4, by omega⟩
theorem jar_lt {S : Store} {j f n : Nat} (h : Jar S j f n) : j < S.length ∧ f < S.length := by
  obtain ⟨_, fs, mi, count, h1, h2, _⟩ := h
  exact ⟨(List.getElem?_eq_some_iff.mp h2).1, (List.getElem?_eq_some_iff.mp h1).1⟩
theorem jar_app {S : Store} {j f n : Nat} {c : Cell} (h : Jar S j f n) : Jar (S ++ [c]) j f n := by
  obtain ⟨l1, l2⟩ := jar_lt h
  obtain ⟨h0, fs, mi, count, h1, h2, h3⟩ := h
  exact ⟨h0, fs, mi, count, by rw [List.getElem?_append_left l2]; exact h1, by rw [List.getElem?_append_left l1]; exact h2, h3⟩
theorem jar_set {S : Store} {j f n m : Nat} {c : Cell} (h : Jar S j f n) (hj : m ≠ j) (hf : m ≠ f) : Jar (S.set m c) j f n := by
  obtain ⟨h0, fs, mi, count, h1, h2, h3⟩ := h
  exact ⟨h0, fs, mi, count, by rw [List.getElem?_set_ne hf]; exact h1, by rw [List.getElem?_set_ne hj]; exact h2, h3⟩
theorem jar_more {S S' : Store} {j f n : Nat} (h : Jar S j f n) (g : Grow S S') : Jar S' j f n := by
  obtain ⟨h0, fs, mi, count, h1, h2, h3⟩ := h
  exact ⟨h0, fs, mi, count, g.get h1, g.get h2, h3⟩
section
variable {S : Store} {j f : Nat} {mi count : Int}
theorem get0 (h : S[j]? = some (.dic (bagD f mi count))) : ixD (.ref j) (.str "far") S = .ok (.ref f) S := by
  simp only [ixD, itemsD, h]
  rfl
theorem get1 (h : S[j]? = some (.dic (bagD f mi count))) : ixD (.ref j) (.str "mixed") S = .ok (.int mi) S := by
  simp only [ixD, itemsD, h]
  rfl
theorem get2 (h : S[j]? = some (.dic (bagD f mi count))) : ixD (.ref j) (.str "count") S = .ok (.int count) S := by
  simp only [ixD, itemsD, h]
  rfl
theorem put2 {c : Int} (h : S[j]? = some (.dic (bagD f mi count))) : setIxD (.ref j) (.str "count") (.int c) S = .ok () (S.set j (.dic (bagD f mi c))) := by
  unfold setIxD
  simp only [h]
  rfl
end
set_option maxHeartbeats 0 in
theorem draw (hT : T "_law_draw" = some ⟨2, 6, b_draw⟩) {k : Nat} {S : Store} {j f n : Nat} (hJ : Jar S j f n) (hn : n < 1000000000) {many : Int} (hm : 0 < many) (hm2 : many < 18446744073709551616) :
    Rw (callF G T (k + 1) "_law_draw" [.ref j, .int many] S) fun d S' => ∃ i : Int, d = .int i ∧ 0 ≤ i ∧ i < many ∧ Jar S' j f (n + 1) ∧ A.Keep S S' j f := by
  obtain ⟨hjf, fs, mi, count, hf, hj, h1, h2, h3⟩ := hJ
  refine Rw_call hT rfl ?_
  show Ow (exec G _ b_draw [.val (.ref j), .val (.int many), .no, .no, .no, .no] S) _
  unfold b_draw
  have g0 := get0 hj
  have g1 := get1 hj
  have g2 := get2 hj
  have hne := neC hf
  cases fs with
  | cons x r =>
    have hd : (!decide ((x :: r).map D.int = [])) = true := by simp
    rw [hd] at hne
    have hd := B.head0 hf
    have hp : ∀ c, setIxD (.ref f) (.int 0) (.int c) S = .ok () (S.set f (.lst ((c :: r).map .int))) := fun c => B.puth hf
    have hS : ∀ c, (S.set f (.lst ((c :: r).map .int)))[f]? = some (.lst ((c :: r).map .int)) := fun c => A.set_here hf
    have hj' : ∀ c, (S.set f (.lst ((c :: r).map .int)))[j]? = some (.dic (bagD f mi count)) := fun c => by rw [List.getElem?_set_ne (Ne.symm hjf)]; exact hj
    have hil : isLst (.ref f) (S.set f (.lst ((x / many :: r).map .int))) = true := isLst_of (hS _)
    have hpo := popC (i := 0) (hS (x / many)) (by omega) (by simp only [List.length_map, List.length_cons]; omega) (by simp only [List.length_map, List.length_cons]; simp only [List.length_cons] at h1; omega)
    simp only [List.map_cons, List.getElem_cons_zero, List.eraseIdx_cons_zero, Int.toNat_zero] at hne hd hp hil hpo
    rwa [40, g0, hne, hd, hp, hil, hpo] at *
    · refine ⟨_, rfl, Int.emod_nonneg _ (by omega), Int.emod_lt_of_pos _ hm, ⟨hjf, r, mi, count, ?_, ?_, by rw [List.length_cons] at h1; omega, h2, by omega⟩, A.keep_f.trans A.keep_f⟩
      · exact A.set_here (hS (x / many))
      · rw [List.getElem?_set_ne (Ne.symm hjf)]; exact hj' _
    · refine ⟨_, rfl, Int.emod_nonneg _ (by omega), Int.emod_lt_of_pos _ hm, ⟨hjf, x / many :: r, mi, count, hS _, hj' _, h1, h2, by omega⟩, A.keep_f⟩
  | nil =>
    have hd : (!decide (([] : List Int).map D.int = [])) = false := by simp
    rw [hd] at hne
    have hp : setIxD (.ref j) (.str "count") (.int (count + 1)) S = .ok () (S.set j (.dic (bagD f mi (count + 1)))) := put2 hj
    have hS : (S.set j (.dic (bagD f mi (count + 1))))[j]? = some (.dic (bagD f mi (count + 1))) := A.set_here hj
    have k1 := get1 hS
    rwa [50, g0, g2, hne, hp, k1] at *
    refine ⟨_, rfl, Int.emod_nonneg _ (by omega), Int.emod_lt_of_pos _ hm, ⟨hjf, [], mi, count + 1, ?_, hS, by simp, by omega, by omega⟩, A.keep_j⟩
    rw [List.getElem?_set_ne hjf]; exact hf
theorem pick (hT : T "_law_draw" = some ⟨2, 6, b_draw⟩) (hP : T "_law_pick" = some ⟨2, 2, b_pick⟩) {k : Nat} {S : Store} {j f n : Nat} (hJ : Jar S j f n) (hn : n < 1000000000) {xs : List D} (h0 : xs ≠ []) (hl : xs.length ≤ 1000000) :
    Rw (callF G T (k + 2) "_law_pick" [.ref j, .lst xs] S) fun d S' => d ∈ xs ∧ Jar S' j f (n + 1) ∧ A.Keep S S' j f := by
  refine Rw_call hP rfl ?_
  show Ow (exec G _ b_pick [.val (.ref j), .val (.lst xs)] S) _
  unfold b_pick
  have hx : 0 < xs.length := List.length_pos_iff.mpr h0
  rwa [] at ⊢
  refine Rw.mono (draw hT hJ hn (many := (xs.length : Int)) (by omega) (by omega)) ?_
  rintro d S' ⟨i, rfl, i0, i1, hJ', hK⟩
  simp only [ev_ixL i0 i1, Ow_ret]
  exact ⟨List.getElem_mem _, hJ', hK⟩
set_option maxHeartbeats 0 in
theorem jar (hT : T "_law_bag" = some ⟨1, 5, b_bag⟩) {k : Nat} {ns : List Int} (hn : ns.length ≤ 63) :
    Rw (callF G T (k + 1) "_law_bag" [.ref 0] [.ro (ns.map .int)]) fun d S' => d = .ref 2 ∧ Jar S' 2 1 0 := by
  refine Rw_call hT rfl ?_
  show Ow (exec G _ b_bag [.val (.ref 0), .no, .no, .no, .no] [.ro (ns.map .int)]) _
  unfold b_bag
  have hsl : slD (.ref 0) none (some 63) [.ro (ns.map .int)] = .ok (.lst ((cut ns none (some 63)).map .int)) [.ro (ns.map .int)] := by
    rw [← cut_map]; rfl
  have hcl : (cut ns none (some 63)).length ≤ 63 := Nat.le_trans (cut_len _ _ _) hn
  have hlen : b1D .len (.ref 0) [.ro (ns.map .int)] = .ok (.int (ns.length : Nat)) [.ro (ns.map .int)] := by
    show R.ok (D.int ((ns.map D.int).length : Nat)) _ = _
    rw [List.length_map]
  generalize cut ns none (some 63) = c0 at hsl hcl
  rwa [hsl] at ⊢
  obtain ⟨fi, hfi⟩ : ∃ fi : Int → Int, ∀ i, fi i = 2 * (if i < 0 then -i else i) + (if i < 0 then 1 else 0) := ⟨_, fun i => rfl⟩
  refine Rw.eq (comp_map (fun i => .int (fi i)) (fun i _ => Rw.toEq ?_) (by omega)) ?_
  · rwa [] at ⊢
    rw [hfi]
  have hcs' : c0.map (fun i => D.int (fi i)) = (c0.map fi).map D.int := by rw [List.map_map]; rfl
  rw [hcs']
  generalize hcs : c0.map fi = cs
  have hcl' : cs.length ≤ 63 := by rw [← hcs, List.length_map]; exact hcl
  rwa [hlen, setPar] at ⊢
  refine Ow_for (fun _ v S => ∃ (sm : Int) (s3 : Slot), v = [.val (.ref 0), .val (.lst (cs.map .int)), .val (.int sm), s3, .no] ∧ S = [.ro (ns.map .int)]) ⟨_, _, rfl, rfl⟩ ?_ ?_
  · rintro i d v S hd ⟨sm, s3, rfl, rfl⟩
    rw [List.getElem?_map] at hd
    obtain ⟨x, hx, rfl⟩ := Option.map_eq_some_iff.mp hd
    rwa [] at ⊢
    exact ⟨_, _, rfl⟩
  · rintro v S ⟨sm, s3, rfl, rfl⟩
    rwa [] at ⊢
    refine Rw.eq (comp_filter (fun i => decide (10 ^ 15 < i)) (fun i _ => Rw.toEq ?_) (by omega)) ?_
    · by_cases h : (10 : Int) ^ 15 < i
      · have : decide ((10 : Int) ^ (15 : Int).toNat < i) = true := decide_eq_true h
        simp only [Rw_bind, asgN, Rw_ok, cnd, if_true, den, tst, wipeE, List.getElem?_cons_zero, List.getElem?_cons_succ, List.set_cons_succ, List.set_cons_zero, ev_pow (i := 10) (j := 15) (by omega) (by omega) (by omega) (by omega), ev_gt, ev_bl, this, decide_eq_true h, and_self]
      · have : decide ((10 : Int) ^ (15 : Int).toNat < i) = false := decide_eq_false h
        simp only [Rw_bind, asgN, Rw_ok, cnd, if_true, den, tst, wipeE, List.getElem?_cons_zero, List.getElem?_cons_succ, List.set_cons_succ, List.set_cons_zero, ev_pow (i := 10) (j := 15) (by omega) (by omega) (by omega) (by omega), ev_gt, ev_bl, this, decide_eq_false h, and_self, if_false, Bool.false_eq_true]
    simp only [Rw_bind, Rw_ok, den, dens, List.getElem?_cons_zero, List.getElem?_cons_succ, List.length_cons, List.length_nil]
    refine Rw_req (by decide +kernel) ?_
    rw [Rw_ok]
    exact ⟨rfl, by decide, cs.filter (fun i => decide (10 ^ 15 < i)), sm, 0, rfl, rfl, Nat.le_trans (List.length_filter_le _ _) (by omega), by omega, by omega⟩
/-- items in a drawn order -/
theorem mixed (dT : T "_law_draw" = some ⟨2, 6, b_draw⟩) (hT : T "_law_mixed" = some ⟨2, 4, b_mixed⟩) {k : Nat} {S : Store} {j f m : Nat} (hJ0 : Jar S j f m) {xs : List D} {e : D} (he : e = .lst xs ∨ e = .tup xs) (hm : m + xs.length < 1000000) (hl : xs.length ≤ 10000) :
    Rw (callF G T (k + 2) "_law_mixed" [.ref j, e] S) fun d S' => (∃ ys, d = .lst ys ∧ ys.Perm xs) ∧ Jar S' j f (m + xs.length) ∧ A.Keep' S S' j f := by
  refine Rw_call hT rfl ?_
  show Ow (exec G _ b_mixed [.val (.ref j), .val (e), .no, .no] S) _
  unfold b_mixed
  obtain ⟨lj, lf⟩ := jar_lt hJ0
  have hle : ∀ S, b1D .lst e S = .ok (.lst xs) S := fun S => by rcases he with rfl | rfl <;> rfl
  rwa [hle, setPar] at ⊢
  refine Ow_while (fun n v S1 => ∃ left ys : List D, v = [.val (.ref j), .val e, .val (.ref S.length), .own ys] ∧ left.length = n ∧ n + ys.length = xs.length ∧ S1[S.length]? = some (.lst left) ∧ (left ++ ys).Perm xs ∧ Jar S1 j f (m + ys.length) ∧ A.Keep' S S1 j f) ?_ xs.length _ _ ⟨xs, [], rfl, rfl, rfl, new_here, by rw [List.append_nil], jar_app hJ0, A.keep_app⟩
  rintro n v S1 ⟨left, ys, rfl, h1, h2, h3, h4, hJ1, hK1⟩
  have hne := neC h3
  rwa [hne] at ⊢
  refine if_p (fun hq => ?_) (fun hq => ?_)
  · have hpos : 0 < left.length := List.length_pos_iff.mpr hq
    have hL := lenC h3
    have hi := isLst_of h3
    rwa [hL, hi] at ⊢
    refine Rw.mono (draw dT hJ1 (by omega) (by omega) (by omega)) ?_
    rintro d S2 ⟨i, rfl, i0, i1, hJ2, hK2⟩
    have h3' : S2[S.length]? = some (.lst left) := (hK2.2 _ (by omega) (by omega)).trans h3
    have hp := popC h3' i0 (by omega) (by omega)
    have hlt : ys.length < sizeLine := Nat.lt_of_lt_of_le (show ys.length < 1000000 by omega) line_big
    rwa [hp, hlt] at ⊢
    refine ⟨left.length - 1, by omega, left.eraseIdx i.toNat, ys ++ [left[i.toNat]'(by omega)], rfl, ?_, ?_, ?_, ?_, ?_, ?_⟩
    · rw [List.length_eraseIdx, if_pos (by omega)]
    · rw [List.length_append, List.length_singleton]; omega
    · exact A.set_here h3'
    · refine List.Perm.trans ?_ h4
      have p := erase_perm (l := left) (i := i.toNat) (by omega)
      refine List.Perm.trans ?_ (p.append_right ys)
      rw [← List.append_assoc, List.cons_append]
      exact List.perm_append_singleton _ _
    · rw [List.length_append, List.length_singleton]
      exact jar_set (jar_grow hJ2 (by omega)) (by omega) (by omega)
    · exact A.keep_set (hK1.trans hK2.up) (Nat.le_refl _)
  · have hq : left = [] := by simpa using hq
    subst hq
    rwa [] at ⊢
    have hy : ys.length = xs.length := by simp at h1; omega
    exact ⟨⟨ys, rfl, by simpa using h4⟩, by rw [← hy]; exact hJ1, hK1⟩
/-! ### the greatest odd divisor -/
def oddN (n : Nat) : Nat := if h : n = 0 then 0 else if n % 2 = 0 then oddN (n / 2) else n
termination_by n
decreasing_by omega
theorem oddN_even {n : Nat} (h : n ≠ 0) (h2 : n % 2 = 0) : oddN n = oddN (n / 2) := by
  rw [oddN, dif_neg h, if_pos h2]
theorem oddN_odd {n : Nat} (h2 : n % 2 = 1) : oddN n = n := by
  rw [oddN, dif_neg (by omega), if_neg (by omega)]
theorem oddN_pos : ∀ {n : Nat}, 0 < n → 0 < oddN n ∧ oddN n % 2 = 1 ∧ oddN n ≤ n := by
  intro n
  induction n using Nat.strongRecOn with
  | _ n ih =>
    intro h
    by_cases h2 : n % 2 = 0
    · rw [oddN_even (by omega) h2]
      have := ih (n / 2) (by omega) (by omega)
      omega
    · rw [oddN_odd (by omega)]
      omega
theorem oddN_pow : ∀ n : Nat, 0 < n → ∃ k, n = oddN n * 2 ^ k := by
  intro n
  induction n using Nat.strongRecOn with
  | _ n ih =>
    intro h
    by_cases h2 : n % 2 = 0
    · obtain ⟨k, hk⟩ := ih (n / 2) (by omega) (by omega)
      rw [oddN_even (by omega) h2]
      refine ⟨k + 1, ?_⟩
      rw [Nat.pow_succ, ← Nat.mul_assoc, ← hk]
      omega
    · exact ⟨0, by rw [oddN_odd (by omega)]; omega⟩
theorem odd (hT : T "_law_odd" = some ⟨1, 1, b_odd⟩) {k : Nat} {S : Store} {n : Nat} (h : 0 < n) : callF G T (k + 1) "_law_odd" [.int n] S = .ok (.int (oddN n : Nat)) S := by
  refine Rw.toEq ?_
  refine Rw_call hT rfl ?_
  show Ow (exec G _ b_odd [.val (.int n)] S) _
  unfold b_odd
  rwa [] at ⊢
  refine Ow_while (fun q v S1 => ∃ a : Nat, v = [.val (.int a)] ∧ a = q ∧ 0 < a ∧ oddN a = oddN n ∧ S1 = S) ?_ n _ _ ⟨n, rfl, rfl, h, rfl, rfl⟩
  rintro q v S1 ⟨a, rfl, rfl, h0, h1, rfl⟩
  rwa [] at ⊢
  refine if_p (fun hc => ?_) (fun hc => ?_)
  · rwa [] at ⊢
    exact ⟨a / 2, by omega, a / 2, by rw [Int.natCast_ediv]; rfl, rfl, by omega, (oddN_even (by omega) (by omega)).symm.trans h1⟩
  · rwa [] at ⊢
    rw [← h1, oddN_odd (by omega)]
/-! ### the greatest common divisor -/
theorem common (hT : T "_law_common" = some ⟨2, 2, b_common⟩) {k : Nat} {S : Store} {a b : Nat} : callF G T (k + 1) "_law_common" [.int a, .int b] S = .ok (.int (Nat.gcd a b : Nat)) S := by
  refine Rw.toEq ?_
  refine Rw_call hT rfl ?_
  show Ow (exec G _ b_common [.val (.int a), .val (.int b)] S) _
  unfold b_common
  rwa [] at ⊢
  refine Ow_while (fun q v S1 => ∃ x y : Nat, v = [.val (.int x), .val (.int y)] ∧ y = q ∧ Nat.gcd x y = Nat.gcd a b ∧ S1 = S) ?_ b _ _ ⟨a, b, rfl, rfl, rfl, rfl⟩
  rintro q v S1 ⟨x, y, rfl, rfl, h1, rfl⟩
  rwa [] at ⊢
  refine if_p (fun hc => ?_) (fun hc => ?_)
  · have hy : 0 < y := by omega
    rwa [setPar] at ⊢
    refine ⟨x % y, Nat.mod_lt _ hy, y, x % y, by rw [Int.natCast_emod], rfl, ?_⟩
    rw [← h1, Nat.gcd_comm x y, Nat.gcd_rec y x, Nat.gcd_comm]
  · have hy : y = 0 := by omega
    subst hy
    rwa [] at ⊢
    rw [← h1, Nat.gcd_zero_right]
end IL.M
/-! MB: the second family's plates; mixes; steps and distances; the package's marks. -/
namespace IL
open PySem PySem.Spec PyProof.Rows L2
/-- a cell that the body leaves alone is walked -/
theorem Ow_forC {g : D → Env → Store → R Env} {b : Env → Store → O} {E : En} {α : Type} {u : α → D} {n : Nat} {ds : List α} {v : Env} {S : Store} (I : Nat → Env → Store → Prop) (h0 : I 0 v S) (hc : ∀ i v S, I i v S → S[n]? = some (.lst (ds.map u)))
    (step : ∀ (i : Nat) (d : α) (v : Env) (S : Store), ds[i]? = some d → I i v S → Rw (g (u d) v S) fun v1 S1 => Ow (b v1 S1) { nx := I (i + 1), rt := E.rt, bk := E.nx, ct := I (i + 1) }) (done : ∀ v S, I ds.length v S → E.nx v S) :
    Ow (forC g b [(n, (ds.map u).length)] (cellI n (ds.map u).length) v S) E := by
  have hlm : (ds.map u).length = ds.length := List.length_map ..
  rw [hlm]
  have go : ∀ (k i : Nat) (v : Env) (S : Store), i + k = ds.length → I i v S → Ow (forC g b [(n, ds.length)] ((List.range' i k).map fun j => It1.at n j ds.length) v S) E := by
    intro k
    induction k with
    | zero =>
      intro i v S hk hI
      rw [List.range'_zero, List.map_nil]
      unfold forC
      have e : endsOk [(n, ds.length)] S = true := by
        have := endsC (hc i v S hI)
        rw [hlm] at this
        exact this
      rw [if_pos e]
      have : i = ds.length := by omega
      subst this
      exact Ow_nx.mpr (done v S hI)
    | succ k ih =>
      intro i v S hk hI
      rw [List.range'_succ, List.map_cons]
      unfold forC
      have hi : i < ds.length := by omega
      have hr : rdI (.at n i ds.length) S = some (u ds[i]) := by
        unfold rdI
        simp only [hc i v S hI, hlm, if_true, List.getElem?_map, List.getElem?_eq_getElem hi, Option.map_some]
      rw [hr]
      show Ow ((g (u ds[i]) v S).o fun v1 S1 => (b v1 S1).lp _) E
      rw [Ow_o]
      refine (step i ds[i] v S (List.getElem?_eq_getElem hi) hI).mono fun v1 S1 h => ?_
      rw [Ow_lp]
      have nxt : ∀ v S, I (i + 1) v S → Ow (forC g b [(n, ds.length)] ((List.range' (i + 1) k).map fun j => It1.at n j ds.length) v S) E := fun v S h => ih (i + 1) v S (by omega) h
      exact h.mono nxt (fun _ _ h => h) (fun _ _ h => h) nxt
  have := go ds.length 0 v S (by omega) h0
  rw [← List.range_eq_range'] at this
  exact this
theorem sx_forc {G : Str → Option D} {cal : Cal} {v : Env} {S : Store} {E : En} {t src : IL.E} {b : IL.S} (h : Rw (itrC G cal src v S) fun p S1 => Ow (forC (asgN t) (exec G cal b) p.2 p.1 v S1) E) : Ow (exec G cal (.forc t src b) v S) E := by
  show Ow ((itrC G cal src v S).o fun p S1 => _) E
  rw [Ow_o]; exact h
theorem getD_map2 {ms : List Int} {k : Int} {i : Nat} : (ms.map (· * k)).getD i 0 = ms.getD i 0 * k := by
  rw [List.getD_eq_getElem?_getD, List.getD_eq_getElem?_getD, List.getElem?_map]
  cases ms[i]? with
  | none => simp
  | some x => rfl
theorem stepN_odd {ms : List Int} {d : Nat} {ij : Nat × Nat} : stepN (ms.map (· * 2 ^ d)) ij = (stepN ms ij).map (· * 2 ^ d) := by
  unfold stepN
  rw [List.map_set, List.map_set, getD_map2, getD_map2, ← Int.add_mul, List.map_map, List.map_map]
  congr 2
  apply List.map_congr_left
  intro x _
  show 2 * (x * 2 ^ d) = 2 * x * 2 ^ d
  rw [Int.mul_assoc]
theorem stepN_even {ms : List Int} {d : Nat} {ij : Nat × Nat} {h : Int} (hh : ms.getD ij.1 0 + ms.getD ij.2 0 = 2 * h) : stepN (ms.map (· * 2 ^ d)) ij = ((ms.set ij.1 h).set ij.2 h).map (· * 2 ^ (d + 1)) := by
  unfold stepN
  have e : ∀ x : Int, 2 * (x * 2 ^ d) = x * 2 ^ (d + 1) := fun x => by rw [Int.pow_succ, Int.mul_comm 2 (x * 2 ^ d), Int.mul_assoc]
  rw [List.map_set, List.map_set, getD_map2, getD_map2, ← Int.add_mul, hh, Int.mul_assoc, e, List.map_map]
  congr 2
  apply List.map_congr_left
  intro x _
  exact e x
theorem plD_mul {f d : Nat} {ns : List Int} : plD (f + d) (ns.map (· * 2 ^ d)) = plD f ns := by
  unfold plD
  rw [List.map_map]
  apply List.map_congr_left
  intro x _
  show hD (lo (f + d) (x * 2 ^ d)) = _
  rw [lo_pow]
/-! ### the numbers' marks -/
def dg (ns : List Int) : Nat := ns.foldl (fun g x => Nat.gcd g (x - ns.getD 0 0).natAbs) 0
def sp (ns : List Int) : Nat := if dg ns = 0 then 0 else M.oddN (dg ns)
def sur (ns : List Int) : Int := ns.sum - (ns.length : Int) * ns.getD 0 0
def farB (ns : List Int) (d : Int) : Bool := !decide (sur ns % (d * (M.oddN ns.length : Nat)) = 0)
def dgt (ns : List Int) (t : Nat) : Nat := (ns.take t).foldl (fun g x => Nat.gcd g (x - ns.getD 0 0).natAbs) 0
theorem dgt_succ {ns : List Int} {t : Nat} {x : Int} (h : ns[t]? = some x) : dgt ns (t + 1) = Nat.gcd (dgt ns t) (x - ns.getD 0 0).natAbs := by
  unfold dgt
  have ht := (List.getElem?_eq_some_iff.mp h).1
  rw [List.take_succ_eq_append_getElem ht, List.foldl_append, (List.getElem?_eq_some_iff.mp h).2]
  rfl
theorem dgt_all {ns : List Int} : dgt ns ns.length = dg ns := by unfold dgt dg; rw [List.take_length]
theorem wh_cons {f : Nat} {ns : List Int} (h : ns ≠ []) : 0 < (wh f ns).length := List.length_pos_iff.mpr (wh_ne h)
namespace M
def b_units : S := (.sq (.asg (.var 1) (.b1 .max (.comp (.var 3) (.tup (.cs (.var 2) (.cs (.var 3) .nl))) (.cs (.var 0) .nl) .nl))) (.sq (.ret (.tup (.cs (.cell (.comp (.bin .LShift (.var 2) (.bin .Sub (.var 1) (.var 3))) (.tup (.cs (.var 2) (.cs (.var 3) .nl))) (.cs (.var 0) .nl) .nl)) (.cs (.var 1) .nl)))) .nop))
def b_plate : S := (.sq (.seto 2 (.lst .nl)) (.sq (.forc (.var 3) (.cs (.var 0) .nl) (.sq (.asg (.var 4) (.var 1)) (.sq (.whl (.and (.cmp .Gt (.var 4) (.int (0))) (.cmp .Eq (.bin .Mod (.b1 .int (.var 3)) (.int (2))) (.int (0)))) (.sq (.par [(3, false), (4, false)] (.cs (.bin .FloorDiv (.var 3) (.int (2))) (.cs (.bin .Sub (.var 4) (.int (1))) .nl))) .nop)) (.sq (.app 2 (.tup (.cs (.var 3) (.cs (.var 4) .nl)))) .nop)))) (.sq (.ret (.b1 .tup (.own 2))) .nop)))
def b_after : S := (.sq (.asg (.tup (.cs (.var 2) (.cs (.var 3) .nl))) (.call "_law_units" (.cs (.var 0) .nl))) (.sq (.for_ (.tup (.cs (.var 4) (.cs (.var 5) .nl))) (.cs (.var 1) .nl) (.sq (.asg (.var 6) (.bin .Add (.ix (.var 2) (.var 4)) (.ix (.var 2) (.var 5)))) (.sq (.ife (.cmp .Eq (.bin .Mod (.b1 .int (.var 6)) (.int (2))) (.int (1))) (.sq (.par [(2, false), (3, false), (6, false)] (.cs (.cell (.compc (.bin .Mult (.int (2)) (.var 7)) (.var 7) (.cs (.var 2) .nl) .nl)) (.cs (.bin .Add (.var 3) (.int (1))) (.cs (.bin .Mult (.int (2)) (.var 6)) .nl)))) .nop) .nop) (.sq (.asg (.tup (.cs (.ix (.var 2) (.var 4)) (.cs (.ix (.var 2) (.var 5)) .nl))) (.tup (.cs (.bin .FloorDiv (.var 6) (.int (2))) (.cs (.bin .FloorDiv (.var 6) (.int (2))) .nl)))) .nop)))) (.sq (.ret (.call "_law_plate" (.cs (.var 2) (.cs (.var 3) .nl)))) .nop)))
def b_step : S := (.sq (.par [(1, false), (2, false)] (.cs (.ix (.call "_law_units" (.cs (.var 0) .nl)) (.int (0))) (.cs (.int (0)) .nl))) (.sq (.forc (.var 3) (.cs (.var 1) .nl) (.sq (.asg (.var 2) (.call "_law_common" (.cs (.var 2) (.cs (.b1 .abs (.bin .Sub (.var 3) (.ix (.var 1) (.int (0))))) .nl)))) .nop)) (.sq (.ret (.ife (.cmp .Eq (.var 2) (.int (0))) (.int (0)) (.call "_law_odd" (.cs (.var 2) .nl)))) .nop)))
def b_far : S := (.sq (.asg (.var 2) (.ix (.call "_law_units" (.cs (.var 0) .nl)) (.int (0)))) (.sq (.ret (.cmp .NotEq (.bin .Mod (.b1 .int (.bin .Sub (.b1 .sum (.var 2)) (.bin .Mult (.b1 .len (.var 2)) (.ix (.var 2) (.int (0)))))) (.bin .Mult (.var 1) (.call "_law_odd" (.cs (.b1 .len (.var 2)) .nl)))) (.int (0)))) .nop))
def b_mixes : S := (.sq (.seto 3 (.lst .nl)) (.sq (.for_ (.var 4) (.rng1 (.ife (.cmp .Gt (.var 1) (.int (1))) (.var 2) (.int (0)))) (.sq (.asg (.var 5) (.call "_law_draw" (.cs (.var 0) (.cs (.bin .Sub (.var 1) (.int (1))) .nl)))) (.sq (.app 3 (.tup (.cs (.var 5) (.cs (.bin .Add (.bin .Add (.var 5) (.int (1))) (.call "_law_draw" (.cs (.var 0) (.cs (.bin .Sub (.bin .Sub (.var 1) (.int (1))) (.var 5)) .nl)))) .nl)))) .nop))) (.sq (.ret (.b1 .tup (.own 3))) .nop)))
variable {G : Str → Option D} {T : Str → Option Fn}
theorem units (hT : T "_law_units" = some ⟨1, 4, b_units⟩) {k : Nat} {S : Store} {f m : Nat} {ns : List Int} (h0 : ns ≠ []) (h1 : ∀ x ∈ ns, Sz m x) (h2 : f ≤ 90000) (h3 : m ≤ 300000) (h4 : ns.length ≤ 1000) :
    callF G T (k + 1) "_law_units" [.tup (plD f ns)] S = .ok (.tup [.ref S.length, .int (top f ns : Nat)]) (S ++ [.lst ((wh f ns).map .int)]) := by
  refine Rw.toEq ?_
  refine Rw_call hT rfl ?_
  show Ow (exec G _ b_units [.val (.tup (plD f ns)), .no, .no, .no] S) _
  unfold b_units
  rwa [] at ⊢
  refine Rw.eq (comp_top (by omega) fun a ha => Rw.toEq ?_) ?_
  · unfold hD
    rwa [] at ⊢
  rw [max_top h0]
  rwa [] at ⊢
  refine Rw.eq (a := .lst ((wh f ns).map .int)) (by
    unfold wh
    rw [List.map_map]
    refine compF_okL (ds := ns) (fun a : Int => hD (lo f a)) (fun a => D.int ((lo f a).1 * 2 ^ (top f ns - (lo f a).2))) (fun a ha => Rw.toEq ?_) (by omega)
    have l1 := le_top (f := f) ha
    have t0 := top_le (f := f) (ns := ns)
    have e2 : ((top f ns : Nat) : Int) - (((lo f a).2 : Nat) : Int) = ((top f ns - (lo f a).2 : Nat) : Int) := by omega
    have e3 : ∀ S, binD .LShift (.int (lo f a).1) (.int ((top f ns - (lo f a).2 : Nat) : Int)) S = .ok (.int ((lo f a).1 * 2 ^ (top f ns - (lo f a).2))) S := fun S => shlX (m := m) (h1 a ha).lo (by omega)
    unfold hD
    rwa [e2, e3] at ⊢) ?_
  rwa [] at ⊢
/-- numbers in a cell over a power as a plate -/
theorem plate (hT : T "_law_plate" = some ⟨2, 5, b_plate⟩) {k : Nat} {S : Store} {c e : Nat} {ns : List Int} (hc : S[c]? = some (.lst (ns.map .int))) (h4 : ns.length ≤ 1000) :
    callF G T (k + 1) "_law_plate" [.ref c, .int e] S = .ok (.tup (plD e ns)) S := by
  refine Rw.toEq ?_
  refine Rw_call hT rfl ?_
  show Ow (exec G _ b_plate [.val (.ref c), .val (.int e), .no, .no, .no] S) _
  unfold b_plate
  have hls := lsC hc
  rwa [] at ⊢
  refine sx_forc ?_
  rwa [hls] at ⊢
  refine Ow_forC (fun t v S1 => ∃ s3 s4 : Slot, v = [.val (.ref c), .val (.int e), .own (plD e (ns.take t)), s3, s4] ∧ S1 = S) ⟨_, _, by rw [List.take_zero]; rfl, rfl⟩ (fun i v S1 ⟨_, _, _, q⟩ => by rw [q]; exact hc) ?_ ?_
  · rintro t a v S1 hd ⟨s3, s4, rfl, rfl⟩
    have ht := (List.getElem?_eq_some_iff.mp hd).1
    rwa [] at ⊢
    refine Ow_while (fun m v S2 => ∃ (b : Int) (g : Nat), v = [.val (.ref c), .val (.int e), .own (plD e (ns.take t)), .val (.int b), .val (.int g)] ∧ g = m ∧ lo e a = lo g b ∧ S2 = S1) ?_ e _ _ ⟨a, e, rfl, rfl, rfl, rfl⟩
    rintro m v S2 ⟨b, g, rfl, rfl, h0, rfl⟩
    have hlt : (plD e (ns.take t)).length < sizeLine := by
      rw [plD_len, List.length_take]
      exact Nat.lt_of_lt_of_le (show min t ns.length < 1000000 by omega) line_big
    have es : plD e (ns.take (t + 1)) = plD e (ns.take t) ++ [hD (lo e a)] := by
      rw [List.take_succ_eq_append_getElem ht, (List.getElem?_eq_some_iff.mp hd).2]
      unfold plD
      rw [List.map_append]
      rfl
    rwa [] at ⊢
    refine Rw.mono (Q1 := fun k S' => k = decide (0 < g ∧ b % 2 = 0) ∧ S' = S2) ?_ ?_
    · by_cases q1 : (0 : Int) < (g : Int)
      · by_cases q2 : b % 2 = 0
        · have dq : decide (0 < g ∧ b % 2 = 0) = true := decide_eq_true ⟨by omega, q2⟩
          rw [dq]
          rwa [q1, q2] at ⊢
        · have dq : decide (0 < g ∧ b % 2 = 0) = false := decide_eq_false (fun q => q2 q.2)
          rw [dq]
          rwa [q1, q2] at ⊢
      · have dq : decide (0 < g ∧ b % 2 = 0) = false := decide_eq_false (fun q => q1 (by omega))
        rw [dq]
        rwa [q1] at ⊢
    rintro kk S' ⟨rfl, rfl⟩
    by_cases q : 0 < g ∧ b % 2 = 0
    · rw [decide_eq_true q]
      obtain ⟨g', rfl⟩ : ∃ g', g = g' + 1 := ⟨g - 1, by omega⟩
      rwa [setPar] at ⊢
      exact ⟨g', by omega, b / 2, g', by rw [show ((g' + 1 : Nat) : Int) - 1 = (g' : Int) by omega], rfl, h0.trans (lo_even q.2)⟩
    · rw [decide_eq_false q]
      have hl : lo g b = (b, g) := by
        cases g with
        | zero => rfl
        | succ g => exact lo_odd (fun q2 => q ⟨by omega, q2⟩)
      rw [es, h0, hl]
      rwa [hlt] at ⊢
      exact ⟨_, _, rfl⟩
  · rintro v S1 ⟨s3, s4, rfl, rfl⟩
    rw [List.take_length]
    rwa [ev_tupL] at ⊢
end M
end IL
/-! MC: the second family's plates behind mixes; steps, distances, bars: the law's and the package's. -/
namespace IL.M
open PySem PySem.Spec PyProof.Rows L2 IL
variable {G : Str → Option D} {T : Str → Option Fn}
set_option maxHeartbeats 0 in
theorem after (hU : T "_law_units" = some ⟨1, 4, b_units⟩) (hP : T "_law_plate" = some ⟨2, 5, b_plate⟩) (hT : T "_law_after" = some ⟨2, 8, b_after⟩) {k : Nat} {S : Store} {f m : Nat} {ns : List Int} {row : List (Nat × Nat)} (h0 : ns ≠ []) (h1 : ∀ x ∈ ns, Sz m x) (h2 : OkRow ns.length row) (h3 : f ≤ 90000) (h4 : m ≤ 300000) (h5 : ns.length ≤ 1000) :
    Rw (callF G T (k + 2) "_law_after" [.tup (plD f ns), .tup (rowD row)] S) fun d S' => d = .tup (plD (f + row.length) (runN ns row)) ∧ Grow S S' := by
  refine Rw_call hT rfl ?_
  show Ow (exec G _ b_after [.val (.tup (plD f ns)), .val (.tup (rowD row)), .no, .no, .no, .no, .no, .no] S) _
  unfold b_after
  have hn : ∀ S, callF G T (k + 1) "_law_units" [.tup (plD f ns)] S = .ok (.tup [.ref S.length, .int (top f ns : Nat)]) (S ++ [.lst ((wh f ns).map .int)]) := fun S => units hU h0 h1 h3 h4 h5
  have hscale : ns = (wh f ns).map (· * 2 ^ (f - top f ns)) := wh_map.symm
  have hlen : (wh f ns).length = ns.length := wh_len
  have ht0 := top_le (f := f) (ns := ns)
  generalize top f ns = o0 at hn hscale ht0
  generalize wh f ns = ms0 at hn hscale hlen
  rwa [hn] at ⊢
  refine Ow_for (fun t v S1 => ∃ (c o d : Nat) (ms : List Int) (s4 s5 s6 s7 : Slot), v = [.val (.tup (plD f ns)), .val (.tup (rowD row)), .val (.ref c), .val (.int o), s4, s5, s6, s7] ∧ S.length ≤ c ∧ Grow S S1 ∧ S1[c]? = some (.lst (ms.map .int)) ∧ f + t = o + d ∧ runN ns (row.take t) = ms.map (· * 2 ^ d) ∧ ms.length = ns.length)
    ⟨S.length, o0, f - o0, ms0, _, _, _, _, rfl, Nat.le_refl _, Grow.app, new_here, by omega, hscale, hlen⟩ ?_ ?_
  · rintro t dd v S1 hd ⟨c, o, d, ms, s4, s5, s6, s7, rfl, hc, hg, hS, ht, hr, hl⟩
    unfold rowD at hd
    rw [List.getElem?_map] at hd
    obtain ⟨⟨i, j⟩, hij, rfl⟩ := Option.map_eq_some_iff.mp hd
    obtain ⟨hi, hj⟩ := h2 _ (List.mem_of_getElem? hij)
    have hi : i < ms.length := by rw [hl]; exact hi
    have hj : j < ms.length := by rw [hl]; exact hj
    have gi : ∀ {ms : List Int} {i : Nat}, i < ms.length → (ms.map D.int)[i]? = some (.int (ms.getD i 0)) := fun {ms i} h => by
      rw [List.getElem?_map, List.getElem?_eq_getElem h, List.getD_eq_getElem?_getD, List.getElem?_eq_getElem h]
      rfl
    have e1 := ixC hS (gi hi)
    have e2 := ixC hS (gi hj)
    have hrt := runN_take (ns := ns) hij
    rw [hr] at hrt
    have hls := lsC hS
    rwa [e1, e2] at ⊢
    refine if_p (fun hq => ?_) (fun hq => ?_)
    · rwa [hls] at ⊢
      refine Rw.eq (compC_ok (ds := ms) D.int (fun a => D.int (2 * a)) hS (fun a ha => ?_) (by omega)) ?_
      · refine Rw.toEq ?_
        rwa [] at ⊢
      · have q1 : (S1 ++ [Cell.lst (ms.map fun a => D.int (2 * a))])[S1.length]? = some (.lst (ms.map fun a => D.int (2 * a))) := new_here
        have w1 := setC (i := i) (d := .int (2 * (ms.getD i 0 + ms.getD j 0) / 2)) q1 (by rw [List.length_map]; exact hi)
        have q2 := A.set_here (c' := .lst ((ms.map fun a => D.int (2 * a)).set i (.int (2 * (ms.getD i 0 + ms.getD j 0) / 2)))) q1
        have w2 := setC (i := j) (d := .int (2 * (ms.getD i 0 + ms.getD j 0) / 2)) q2 (by rw [List.length_set, List.length_map]; exact hj)
        have q3 := A.set_here (c' := .lst (((ms.map fun a => D.int (2 * a)).set i (.int (2 * (ms.getD i 0 + ms.getD j 0) / 2))).set j (.int (2 * (ms.getD i 0 + ms.getD j 0) / 2)))) q2
        rwa [setPar, w1, w2] at ⊢
        refine ⟨S1.length, o + 1, d, stepN ms (i, j), _, _, _, _, rfl, hg.1, ((hg.trans Grow.app).set hg.1).set hg.1, ?_, by omega, hrt.trans stepN_odd, by rw [stepN_len]; exact hl⟩
        rw [q3]
        unfold stepN
        rw [List.map_set, List.map_set, List.map_map, show 2 * (ms.getD i 0 + ms.getD j 0) / 2 = ms.getD i 0 + ms.getD j 0 by omega]
        rfl
    · have w1 := setC (i := i) (d := .int ((ms.getD i 0 + ms.getD j 0) / 2)) hS (by rw [List.length_map]; exact hi)
      have q2 := A.set_here (c' := .lst ((ms.map D.int).set i (.int ((ms.getD i 0 + ms.getD j 0) / 2)))) hS
      have w2 := setC (i := j) (d := .int ((ms.getD i 0 + ms.getD j 0) / 2)) q2 (by rw [List.length_set, List.length_map]; exact hj)
      have q3 := A.set_here (c' := .lst (((ms.map D.int).set i (.int ((ms.getD i 0 + ms.getD j 0) / 2))).set j (.int ((ms.getD i 0 + ms.getD j 0) / 2)))) q2
      rwa [w1, w2] at ⊢
      refine ⟨c, o, d + 1, (ms.set i ((ms.getD i 0 + ms.getD j 0) / 2)).set j ((ms.getD i 0 + ms.getD j 0) / 2), _, _, _, _, rfl, hc, (hg.set hc).set hc, ?_, by omega, hrt.trans (stepN_even (by show ms.getD i 0 + ms.getD j 0 = _; omega)), by rw [List.length_set, List.length_set]; exact hl⟩
      rw [q3, List.map_set, List.map_set]
  · rintro v S1 ⟨c, o, d, ms, s4, s5, s6, s7, rfl, hc, hg, hS, ht, hr, hl⟩
    have e : (rowD row).length = row.length := List.length_map ..
    rw [e] at ht hr
    rw [List.take_length] at hr
    have kp : ∀ S', S' = S1 → callF G T (k + 1) "_law_plate" [.ref c, .int o] S' = .ok (.tup (plD o ms)) S' := fun S' q => by subst q; exact plate hP hS (by omega)
    have kp := kp S1 rfl
    rwa [kp] at ⊢
    exact ⟨by rw [ht, hr, plD_mul], hg⟩
theorem zero_get {ns : List Int} (h : 0 < ns.length) : (ns.map D.int)[0]? = some (.int (ns.getD 0 0)) := by
  rw [List.getElem?_map, List.getElem?_eq_getElem h, List.getD_eq_getElem?_getD, List.getElem?_eq_getElem h]
  rfl
set_option maxHeartbeats 0 in
theorem step (hC : T "_law_common" = some ⟨2, 2, b_common⟩) (hO : T "_law_odd" = some ⟨1, 1, b_odd⟩) (hU : T "_law_units" = some ⟨1, 4, b_units⟩) (hT : T "_law_step" = some ⟨1, 4, b_step⟩) {k : Nat} {S : Store} {f m : Nat} {ns : List Int} (h0 : ns ≠ []) (h1 : ∀ x ∈ ns, Sz m x) (h3 : f ≤ 90000) (h4 : m ≤ 300000) (h5 : ns.length ≤ 1000) :
    callF G T (k + 2) "_law_step" [.tup (plD f ns)] S = .ok (.int (sp (wh f ns) : Nat)) (S ++ [.lst ((wh f ns).map .int)]) := by
  refine Rw.toEq ?_
  refine Rw_call hT rfl ?_
  show Ow (exec G _ b_step [.val (.tup (plD f ns)), .no, .no, .no] S) _
  unfold b_step
  have hn : ∀ S, callF G T (k + 1) "_law_units" [.tup (plD f ns)] S = .ok (.tup [.ref S.length, .int (top f ns : Nat)]) (S ++ [.lst ((wh f ns).map .int)]) := fun S => units hU h0 h1 h3 h4 h5
  have hp := wh_cons (f := f) h0
  generalize wh f ns = ms at *
  have hS : (S ++ [Cell.lst (ms.map .int)])[S.length]? = some (.lst (ms.map .int)) := new_here
  have hls := lsC hS
  have i0 : ixD (.ref S.length) (.int 0) (S ++ [Cell.lst (ms.map .int)]) = .ok (.int (ms.getD 0 0)) (S ++ [Cell.lst (ms.map .int)]) := ixC (i := 0) hS (zero_get hp)
  rwa [hn, setPar] at ⊢
  refine sx_forc ?_
  rwa [hls] at ⊢
  refine Ow_forC (fun t v S1 => ∃ s3 : Slot, v = [.val (.tup (plD f ns)), .val (.ref S.length), .val (.int (dgt ms t : Nat)), s3] ∧ S1 = S ++ [Cell.lst (ms.map .int)]) ⟨_, rfl, rfl⟩ (fun i v S1 ⟨_, _, q⟩ => by rw [q]; exact hS) ?_ ?_
  · rintro t a v S1 hd ⟨s3, rfl, rfl⟩
    have ea : (if a - ms.getD 0 0 < 0 then -(a - ms.getD 0 0) else a - ms.getD 0 0) = ((a - ms.getD 0 0).natAbs : Int) := by split <;> omega
    have kc : ∀ S, callF G T (k + 1) "_law_common" [.int (dgt ms t : Nat), .int ((a - ms.getD 0 0).natAbs : Nat)] S = .ok (.int (dgt ms (t + 1) : Nat)) S := fun S => by rw [common hC, ← dgt_succ hd]
    rwa [i0, ea, kc] at ⊢
    exact ⟨_, rfl⟩
  · rintro v S1 ⟨s3, rfl, rfl⟩
    rw [dgt_all]
    by_cases hz : dg ms = 0
    · have hz2 : ((dg ms : Nat) : Int) = 0 := by omega
      rwa [hz2] at ⊢
      unfold sp
      rw [if_pos hz]
      rfl
    · have hz2 : ¬ ((dg ms : Nat) : Int) = 0 := by omega
      have ko : ∀ S, callF G T (k + 1) "_law_odd" [.int (dg ms : Nat)] S = .ok (.int (oddN (dg ms) : Nat)) S := fun S => odd hO (by omega)
      rwa [hz2, ko] at ⊢
      unfold sp
      rw [if_neg hz]
theorem far (hO : T "_law_odd" = some ⟨1, 1, b_odd⟩) (hU : T "_law_units" = some ⟨1, 4, b_units⟩) (hT : T "_law_far" = some ⟨2, 3, b_far⟩) {k : Nat} {S : Store} {f m : Nat} {ns : List Int} {d : Int} (h0 : ns ≠ []) (h1 : ∀ x ∈ ns, Sz m x) (h3 : f ≤ 90000) (h4 : m ≤ 300000) (h5 : ns.length ≤ 1000) (hd : 0 < d) :
    callF G T (k + 2) "_law_far" [.tup (plD f ns), .int d] S = .ok (.bl (farB (wh f ns) d)) (S ++ [.lst ((wh f ns).map .int)]) := by
  refine Rw.toEq ?_
  refine Rw_call hT rfl ?_
  show Ow (exec G _ b_far [.val (.tup (plD f ns)), .val (.int d), .no] S) _
  unfold b_far
  have hn : ∀ S, callF G T (k + 1) "_law_units" [.tup (plD f ns)] S = .ok (.tup [.ref S.length, .int (top f ns : Nat)]) (S ++ [.lst ((wh f ns).map .int)]) := fun S => units hU h0 h1 h3 h4 h5
  have hp := wh_cons (f := f) h0
  have hl : (wh f ns).length = ns.length := wh_len
  generalize wh f ns = ms at *
  have hS : (S ++ [Cell.lst (ms.map .int)])[S.length]? = some (.lst (ms.map .int)) := new_here
  have i0 : ixD (.ref S.length) (.int 0) (S ++ [Cell.lst (ms.map .int)]) = .ok (.int (ms.getD 0 0)) (S ++ [Cell.lst (ms.map .int)]) := ixC (i := 0) hS (zero_get hp)
  have il : b1D .len (.ref S.length) (S ++ [Cell.lst (ms.map .int)]) = .ok (.int (ms.length : Nat)) (S ++ [Cell.lst (ms.map .int)]) := by rw [lenC hS, List.length_map]
  have is : b1D .sum (.ref S.length) (S ++ [Cell.lst (ms.map .int)]) = .ok (.int ms.sum) (S ++ [Cell.lst (ms.map .int)]) := by
    show (match (itemsD (.ref S.length) (S ++ [Cell.lst (ms.map .int)])).bind intsD with | some ns => R.ok (D.int ns.sum) _ | none => .bad) = _
    unfold itemsD
    simp only [hS, Option.bind_some, intsD_map]
  have ho := oddN_pos (n := ms.length) hp
  have ko : ∀ S, callF G T (k + 1) "_law_odd" [.int (ms.length : Nat)] S = .ok (.int (oddN ms.length : Nat)) S := fun S => odd hO hp
  have hmul : 0 < d * ((oddN ms.length : Nat) : Int) := Int.mul_pos hd (by omega)
  have es : ms.sum - (ms.length : Int) * ms.getD 0 0 = sur ms := rfl
  unfold farB
  generalize hs : sur ms = s at *
  generalize hoo : oddN ms.length = o at *
  rwa [hn, i0, il, is, es, ko, hmul] at ⊢
end IL.M
/-! NB: the third family's halves, whole numbers, plates behind mixes. -/
namespace IL.N
open PySem PySem.Spec PyProof.Rows L2 IL
def b_ran : S := (.sq (.asg (.tup (.cs (.var 2) (.cs (.var 3) .nl))) (.call "_law_numbers" (.cs (.var 0) .nl))) (.sq (.for_ (.tup (.cs (.var 4) (.cs (.var 5) .nl))) (.cs (.var 1) .nl) (.sq (.asg (.var 6) (.bin .Add (.ix (.var 2) (.var 4)) (.ix (.var 2) (.var 5)))) (.sq (.ife (.cmp .Eq (.bin .Mod (.var 6) (.int (2))) (.int (1))) (.sq (.asg (.tup (.cs (.var 2) (.cs (.var 3) (.cs (.var 6) .nl)))) (.tup (.cs (.cell (.compc (.bin .Mult (.int (2)) (.var 7)) (.var 7) (.cs (.var 2) .nl) .nl)) (.cs (.bin .Add (.var 3) (.int (1))) (.cs (.bin .Mult (.int (2)) (.var 6)) .nl))))) .nop) .nop) (.sq (.asg (.tup (.cs (.ix (.var 2) (.var 4)) (.cs (.ix (.var 2) (.var 5)) .nl))) (.tup (.cs (.bin .FloorDiv (.var 6) (.int (2))) (.cs (.bin .FloorDiv (.var 6) (.int (2))) .nl)))) .nop)))) (.sq (.ret (.b1 .tup (.compc (.call "_law_half" (.cs (.var 7) (.cs (.var 3) .nl))) (.var 7) (.cs (.var 2) .nl) .nl))) .nop)))
variable {G : Str → Option D} {T : Str → Option Fn}
theorem half (hT : T "_law_half" = some ⟨2, 2, b_half⟩) {k : Nat} {S : Store} {a : Int} {f : Nat} : callF G T (k + 1) "_law_half" [.int a, .int f] S = .ok (hD (lo f a)) S := by
  refine Rw.toEq ?_
  refine Rw_call hT rfl ?_
  show Ow (exec G _ b_half [.val (.int a), .val (.int f)] S) _
  unfold b_half
  rwa [] at ⊢
  refine Ow_while (fun m v S1 => ∃ (a2 : Int) (f2 : Nat), v = [.val (.int a2), .val (.int f2)] ∧ f2 = m ∧ lo f a = lo f2 a2 ∧ S1 = S) ?_ f _ _ ⟨a, f, rfl, rfl, rfl, rfl⟩
  rintro m v S1 ⟨a2, f2, rfl, rfl, h0, rfl⟩
  by_cases c1 : 0 < f2
  · have c1' : (f2 : Int) > 0 := by omega
    have c1'' : (0 : Int) < (f2 : Int) := by omega
    by_cases c2 : a2 % 2 = 0
    · obtain ⟨g, rfl⟩ : ∃ g, f2 = g + 1 := ⟨f2 - 1, by omega⟩
      have e1 : ((g + 1 : Nat) : Int) - 1 = (g : Int) := by omega
      rwa [c1', c1'', c2, setPar, e1] at ⊢
      exact ⟨g, by omega, a2 / 2, g, rfl, rfl, h0.trans (lo_even c2)⟩
    · have e : (.tup [.int a2, .int f2] : D) = hD (lo f a) := by rw [h0, lo_odd c2]; rfl
      rwa [c1', c1'', c2] at ⊢
      first | exact e | exact ⟨e, rfl⟩
  · have hz : f2 = 0 := by omega
    subst hz
    have c1' : ¬ (((0 : Nat) : Int) > 0) := by omega
    have e : (.tup [.int a2, .int ((0 : Nat) : Int)] : D) = hD (lo f a) := by rw [h0]; rfl
    have e' : (.tup [.int a2, .int 0] : D) = hD (lo f a) := e
    rwa [c1'] at ⊢
    first | exact e | exact e' | exact ⟨e, rfl⟩
theorem numbers (hT : T "_law_numbers" = some ⟨1, 4, b_numbers⟩) {k : Nat} {S : Store} {f m : Nat} {ns : List Int} (h1 : ∀ x ∈ ns, Sz m x) (h2 : f ≤ 90000) (h3 : m ≤ 300000) (h4 : ns.length ≤ 1000) :
    callF G T (k + 1) "_law_numbers" [.tup (plD f ns)] S = .ok (.tup [.ref S.length, .int (top f ns : Nat)]) (S ++ [.lst ((wh f ns).map .int)]) := by
  refine Rw.toEq ?_
  refine Rw_call hT rfl ?_
  show Ow (exec G _ b_numbers [.val (.tup (plD f ns)), .no, .no, .no] S) _
  unfold b_numbers
  rwa [] at ⊢
  refine Rw.eq (a := .lst ((ns.map fun a => (((lo f a).2 : Nat) : Int)).map .int)) (by
    rw [List.map_map]
    refine compF_okL (ds := ns) (fun a : Int => hD (lo f a)) (fun a => D.int (((lo f a).2 : Nat) : Int)) (fun a ha => Rw.toEq ?_) (by omega)
    unfold hD
    rwa [] at ⊢) ?_
  have ea : ∀ S, binD .Add (.lst [.int 0]) (.lst ((ns.map fun a => (((lo f a).2 : Nat) : Int)).map .int)) S = .ok (.lst (((0 : Int) :: ns.map fun a => (((lo f a).2 : Nat) : Int)).map .int)) S := fun S => Rw.toEq ((ev_addL (by simp; omega)).mpr ⟨rfl, rfl⟩)
  have em : ∀ S, b1D .max (.lst (((0 : Int) :: ns.map fun a => (((lo f a).2 : Nat) : Int)).map .int)) S = .ok (.int ((top f ns : Nat) : Int)) S := fun S => by
    rw [maxL (by simp)]
    have := maxI_most (ps := ns.map (lo f))
    rw [List.map_map] at this
    have e : ((fun p : Int × Nat => ((p.2 : Nat) : Int)) ∘ lo f) = fun a => (((lo f a).2 : Nat) : Int) := rfl
    rw [e] at this
    rw [this]
    rfl
  generalize hq : (((0 : Int) :: ns.map fun a => (((lo f a).2 : Nat) : Int)).map D.int) = Q at ea em
  generalize hq2 : ((ns.map fun a => (((lo f a).2 : Nat) : Int)).map D.int) = Q2 at ea
  rwa [ea, em] at ⊢
  refine Rw.eq (a := .lst ((wh f ns).map .int)) (by
    unfold wh
    rw [List.map_map]
    refine compF_okL (ds := ns) (fun a : Int => hD (lo f a)) (fun a => D.int ((lo f a).1 * 2 ^ (top f ns - (lo f a).2))) (fun a ha => Rw.toEq ?_) (by omega)
    have l1 := le_top (f := f) ha
    have t0 := top_le (f := f) (ns := ns)
    have e2 : ((top f ns : Nat) : Int) - (((lo f a).2 : Nat) : Int) = ((top f ns - (lo f a).2 : Nat) : Int) := by omega
    have e3 : ∀ S, binD .LShift (.int 1) (.int ((top f ns - (lo f a).2 : Nat) : Int)) S = .ok (.int (2 ^ (top f ns - (lo f a).2))) S := fun S => by
      rw [shlX (m := 1) (a := 1) (by unfold Sz; decide) (by omega), Int.one_mul]
    have e4 : ∀ S, binD .Mult (.int (lo f a).1) (.int (2 ^ (top f ns - (lo f a).2))) S = .ok (.int ((lo f a).1 * 2 ^ (top f ns - (lo f a).2))) S := fun S => mulX (m := m) (n := top f ns - (lo f a).2 + 1) (h1 a ha).lo (by
      unfold Sz
      rw [Int.natAbs_pow]
      exact Nat.pow_lt_pow_right (by omega) (by omega)) (by omega)
    unfold hD
    rwa [e2, e3, e4] at ⊢) ?_
  rwa [] at ⊢
set_option maxHeartbeats 0 in
theorem ran (hH : T "_law_half" = some ⟨2, 2, b_half⟩) (hU : T "_law_numbers" = some ⟨1, 4, b_numbers⟩) (hT : T "_law_ran" = some ⟨2, 8, b_ran⟩) {k : Nat} {S : Store} {f m : Nat} {ns : List Int} {row : List (Nat × Nat)} (h1 : ∀ x ∈ ns, Sz m x) (h2 : OkRow ns.length row) (h3 : f ≤ 90000) (h4 : m ≤ 300000) (h5 : ns.length ≤ 1000) :
    Rw (callF G T (k + 2) "_law_ran" [.tup (plD f ns), .tup (rowD row)] S) fun d S' => d = .tup (plD (f + row.length) (runN ns row)) ∧ Grow S S' := by
  refine Rw_call hT rfl ?_
  show Ow (exec G _ b_ran [.val (.tup (plD f ns)), .val (.tup (rowD row)), .no, .no, .no, .no, .no, .no] S) _
  unfold b_ran
  have hn : ∀ S, callF G T (k + 1) "_law_numbers" [.tup (plD f ns)] S = .ok (.tup [.ref S.length, .int (top f ns : Nat)]) (S ++ [.lst ((wh f ns).map .int)]) := fun S => numbers hU h1 h3 h4 h5
  have hscale : ns = (wh f ns).map (· * 2 ^ (f - top f ns)) := wh_map.symm
  have hlen : (wh f ns).length = ns.length := wh_len
  have ht0 := top_le (f := f) (ns := ns)
  generalize top f ns = o0 at hn hscale ht0
  generalize wh f ns = ms0 at hn hscale hlen
  rwa [hn] at ⊢
  refine Ow_for (fun t v S1 => ∃ (c o d : Nat) (ms : List Int) (s4 s5 s6 s7 : Slot), v = [.val (.tup (plD f ns)), .val (.tup (rowD row)), .val (.ref c), .val (.int o), s4, s5, s6, s7] ∧ S.length ≤ c ∧ Grow S S1 ∧ S1[c]? = some (.lst (ms.map .int)) ∧ f + t = o + d ∧ runN ns (row.take t) = ms.map (· * 2 ^ d) ∧ ms.length = ns.length)
    ⟨S.length, o0, f - o0, ms0, _, _, _, _, rfl, Nat.le_refl _, Grow.app, new_here, by omega, hscale, hlen⟩ ?_ ?_
  · rintro t dd v S1 hd ⟨c, o, d, ms, s4, s5, s6, s7, rfl, hc, hg, hS, ht, hr, hl⟩
    unfold rowD at hd
    rw [List.getElem?_map] at hd
    obtain ⟨⟨i, j⟩, hij, rfl⟩ := Option.map_eq_some_iff.mp hd
    obtain ⟨hi, hj⟩ := h2 _ (List.mem_of_getElem? hij)
    have hi : i < ms.length := by rw [hl]; exact hi
    have hj : j < ms.length := by rw [hl]; exact hj
    have gi : ∀ {ms : List Int} {i : Nat}, i < ms.length → (ms.map D.int)[i]? = some (.int (ms.getD i 0)) := fun {ms i} h => by
      rw [List.getElem?_map, List.getElem?_eq_getElem h, List.getD_eq_getElem?_getD, List.getElem?_eq_getElem h]
      rfl
    have e1 := ixC hS (gi hi)
    have e2 := ixC hS (gi hj)
    have hrt := runN_take (ns := ns) hij
    rw [hr] at hrt
    have hls := lsC hS
    rwa [e1, e2] at ⊢
    refine if_p (fun hq => ?_) (fun hq => ?_)
    · rwa [hls] at ⊢
      refine Rw.eq (compC_ok (ds := ms) D.int (fun a => D.int (2 * a)) hS (fun a ha => ?_) (by omega)) ?_
      · refine Rw.toEq ?_
        rwa [] at ⊢
      · have q1 : (S1 ++ [Cell.lst (ms.map fun a => D.int (2 * a))])[S1.length]? = some (.lst (ms.map fun a => D.int (2 * a))) := new_here
        have w1 := setC (i := i) (d := .int (2 * (ms.getD i 0 + ms.getD j 0) / 2)) q1 (by rw [List.length_map]; exact hi)
        have q2 := A.set_here (c' := .lst ((ms.map fun a => D.int (2 * a)).set i (.int (2 * (ms.getD i 0 + ms.getD j 0) / 2)))) q1
        have w2 := setC (i := j) (d := .int (2 * (ms.getD i 0 + ms.getD j 0) / 2)) q2 (by rw [List.length_set, List.length_map]; exact hj)
        have q3 := A.set_here (c' := .lst (((ms.map fun a => D.int (2 * a)).set i (.int (2 * (ms.getD i 0 + ms.getD j 0) / 2))).set j (.int (2 * (ms.getD i 0 + ms.getD j 0) / 2)))) q2
        rwa [setPar, w1, w2] at ⊢
        refine ⟨S1.length, o + 1, d, stepN ms (i, j), _, _, _, _, rfl, hg.1, ((hg.trans Grow.app).set hg.1).set hg.1, ?_, by omega, hrt.trans stepN_odd, by rw [stepN_len]; exact hl⟩
        rw [q3]
        unfold stepN
        rw [List.map_set, List.map_set, List.map_map, show 2 * (ms.getD i 0 + ms.getD j 0) / 2 = ms.getD i 0 + ms.getD j 0 by omega]
        rfl
    · have w1 := setC (i := i) (d := .int ((ms.getD i 0 + ms.getD j 0) / 2)) hS (by rw [List.length_map]; exact hi)
      have q2 := A.set_here (c' := .lst ((ms.map D.int).set i (.int ((ms.getD i 0 + ms.getD j 0) / 2)))) hS
      have w2 := setC (i := j) (d := .int ((ms.getD i 0 + ms.getD j 0) / 2)) q2 (by rw [List.length_set, List.length_map]; exact hj)
      have q3 := A.set_here (c' := .lst (((ms.map D.int).set i (.int ((ms.getD i 0 + ms.getD j 0) / 2))).set j (.int ((ms.getD i 0 + ms.getD j 0) / 2)))) q2
      rwa [w1, w2] at ⊢
      refine ⟨c, o, d + 1, (ms.set i ((ms.getD i 0 + ms.getD j 0) / 2)).set j ((ms.getD i 0 + ms.getD j 0) / 2), _, _, _, _, rfl, hc, (hg.set hc).set hc, ?_, by omega, hrt.trans (stepN_even (by show ms.getD i 0 + ms.getD j 0 = _; omega)), by rw [List.length_set, List.length_set]; exact hl⟩
      rw [q3, List.map_set, List.map_set]
  · rintro v S1 ⟨c, o, d, ms, s4, s5, s6, s7, rfl, hc, hg, hS, ht, hr, hl⟩
    have e : (rowD row).length = row.length := List.length_map ..
    rw [e] at ht hr
    rw [List.take_length] at hr
    have hls := lsC hS
    rwa [hls] at ⊢
    refine Rw.eq (compC_ok (ds := ms) D.int (fun a => hD (lo o a)) hS (fun a ha => ?_) (by omega)) ?_
    · have kh : ∀ S, callF G T (k + 1) "_law_half" [.int a, .int (o : Int)] S = .ok (hD (lo o a)) S := fun S => half hH
      refine Rw.toEq ?_
      rwa [kh] at ⊢
    · have ep : (ms.map fun a => hD (lo o a)) = plD o ms := rfl
      rw [ep]
      rwa [ev_tupL] at ⊢
      exact ⟨by rw [ht, hr, plD_mul], hg⟩
end IL.N
/-! NC: the third family's strengths, plates, rows. -/
namespace IL.N
open PySem PySem.Spec PyProof.Rows L2 IL
def b_strength : S := (.sq (.ife (.and (.var 1) (.cmp .Eq (.call "_law_draw" (.cs (.var 0) (.cs (.int (5)) .nl))) (.int (0)))) (.sq (.asg (.var 2) (.lst (.cs (.tup (.cs (.bin .Pow (.int (10)) (.int (12))) (.cs (.int (0)) .nl))) (.cs (.tup (.cs (.bin .Sub (.bin .Mult (.bin .Pow (.int (10)) (.int (12))) (.bin .Pow (.int (2)) (.int (40)))) (.int (1))) (.cs (.int (40)) .nl))) (.cs (.tup (.cs (.int (1)) (.cs (.int (40)) .nl))) (.cs (.tup (.cs (.int (3)) (.cs (.int (39)) .nl))) (.cs (.tup (.cs (.bin .Sub (.bin .Pow (.int (10)) (.int (12))) (.int (1))) (.cs (.int (0)) .nl))) (.cs (.tup (.cs (.int (0)) (.cs (.int (0)) .nl))) .nl)))))))) (.sq (.ret (.call "_law_pick" (.cs (.var 0) (.cs (.var 2) .nl)))) .nop)) .nop) (.sq (.ret (.call "_law_half" (.cs (.call "_law_draw" (.cs (.var 0) (.cs (.int (12)) .nl))) (.cs (.call "_law_pick" (.cs (.var 0) (.cs (.lst (.cs (.int (0)) (.cs (.int (0)) (.cs (.int (0)) (.cs (.int (1)) (.cs (.int (2)) (.cs (.int (3)) .nl))))))) .nl))) .nl)))) .nop))
def b_plate : S := (.sq (.asg (.tup (.cs (.var 3) (.cs (.var 4) .nl))) (.tup (.cs (.call "_law_draw" (.cs (.var 0) (.cs (.int (4)) .nl))) (.cs (.call "_law_strength" (.cs (.var 0) (.cs (.var 2) .nl))) .nl)))) (.sq (.asg (.var 5) (.comp (.ife (.and (.cmp .Eq (.var 3) (.int (0))) (.cmp .Gt (.call "_law_draw" (.cs (.var 0) (.cs (.int (3)) .nl))) (.int (0)))) (.var 4) (.call "_law_strength" (.cs (.var 0) (.cs (.var 2) .nl)))) (.var 6) (.rng1 (.var 1)) .nl)) (.sq (.ife (.cmp .Eq (.var 3) (.int (1))) (.sq (.asg (.var 5) (.bin .Add (.bin .Mult (.lst (.cs (.var 4) .nl)) (.bin .Sub (.var 1) (.int (1)))) (.sl (.var 5) .nl (.cs (.int (1)) .nl)))) .nop) .nop) (.sq (.ret (.b1 .tup (.call "_law_mixed_up" (.cs (.var 0) (.cs (.var 5) .nl))))) .nop))))
def b_row : S := (.sq (.seto 3 (.lst .nl)) (.sq (.for_ (.var 4) (.rng1 (.ife (.cmp .Gt (.var 1) (.int (1))) (.var 2) (.int (0)))) (.sq (.asg (.var 5) (.call "_law_draw" (.cs (.var 0) (.cs (.bin .Sub (.var 1) (.int (1))) .nl)))) (.sq (.app 3 (.tup (.cs (.var 5) (.cs (.bin .Add (.bin .Add (.var 5) (.int (1))) (.call "_law_draw" (.cs (.var 0) (.cs (.bin .Sub (.bin .Sub (.var 1) (.int (1))) (.var 5)) .nl)))) .nl)))) .nop))) (.sq (.ret (.b1 .tup (.own 3))) .nop)))
variable {G : Str → Option D} {T : Str → Option Fn}
theorem isS40' {x : Int} {g : Nat} (hg : g ≤ 40) (h0 : 0 ≤ x) (h : x ≤ 1000000000000) : IsS40 (hD (lo g x)) := isS40 hg h0 (by
  have : (1 : Int) ≤ 2 ^ g := by have := Int.pow_pos (n := 2) (m := g) (by omega); omega
  have h2 : (1000000000000 : Int) * 1 ≤ 1000000000000 * 2 ^ g := Int.mul_le_mul_of_nonneg_left this (by omega)
  omega)
set_option maxHeartbeats 0 in
theorem strength (dT : T "_law_draw" = some ⟨2, 4, b_draw⟩) (pT : T "_law_pick" = some ⟨2, 2, b_pick⟩) (hH : T "_law_half" = some ⟨2, 2, b_half⟩) (hT : T "_law_strength" = some ⟨2, 3, b_strength⟩) {k : Nat} {S : Store} {j f n : Nat} {g : Bool} (hJ0 : Jar S j f n) (hn : n < 1000000) :
    Rw (callF G T (k + 3) "_law_strength" [.ref j, .bl g] S) fun d S' => IsS40 d ∧ Jar S' j f (n + 3) ∧ A.Keep S S' j f := by
  refine Rw_call hT rfl ?_
  show Ow (exec G _ b_strength [.val (.ref j), .val (.bl g), .no] S) _
  unfold b_strength
  refine sx_sq (sx_ife ?_)
  refine Rw.mono (Q1 := fun (b : Bool) S' => Jar S' j f (n + 1) ∧ A.Keep S S' j f) ?_ ?_
  · cases g with
    | true =>
      rwa [] at ⊢
      refine Rw.mono (draw dT hJ0 (by omega) (by omega) (by omega)) ?_
      rintro d S1 ⟨i, rfl, i0, i1, hJ1, hK1⟩
      rwa [] at ⊢
      exact ⟨hJ1, hK1⟩
    | false =>
      rwa [] at ⊢
      exact ⟨jar_grow hJ0 (by omega), A.Keep.refl⟩
  rintro b S1 ⟨hJ1, hK1⟩
  have e12 : (10 : Int) ^ (12 : Int).toNat = 1000000000000 := by decide
  have e40 : (2 : Int) ^ (40 : Int).toNat = 1099511627776 := by decide
  cases b with
  | true =>
    rwa [e12, e40] at ⊢
    refine Rw.mono (pick dT pT hJ1 (by omega) (by simp) (by simp)) ?_
    rintro d S2 ⟨hd, hJ2, hK2⟩
    refine ⟨?_, jar_grow hJ2 (by omega), hK1.trans hK2⟩
    simp only [List.mem_cons, List.not_mem_nil, or_false] at hd
    have q0 : (2 : Int) ^ 40 = 1099511627776 := by decide
    rcases hd with rfl | rfl | rfl | rfl | rfl | rfl
    · exact isS40 (g := 0) (x := 1000000000000) (by omega) (by omega) (by decide)
    · have := isS40 (g := 40) (x := 1099511627775999999999999) (by omega) (by omega) (by rw [q0]; decide)
      rw [lo_odd (by decide)] at this
      exact this
    · have := isS40 (g := 40) (x := 1) (by omega) (by omega) (by rw [q0]; decide)
      rw [lo_odd (by decide)] at this
      exact this
    · have := isS40 (g := 39) (x := 3) (by omega) (by omega) (by decide)
      rw [lo_odd (by decide)] at this
      exact this
    · exact isS40 (g := 0) (x := 999999999999) (by omega) (by omega) (by decide)
    · exact isS40 (g := 0) (x := 0) (by omega) (by omega) (by decide)
  | false =>
    rwa [] at ⊢
    refine Rw.mono (draw dT hJ1 (by omega) (by omega) (by omega)) ?_
    rintro d S2 ⟨a, rfl, a0, a1, hJ2, hK2⟩
    rwa [] at ⊢
    refine Rw.mono (pick dT pT hJ2 (by omega) (by simp) (by simp)) ?_
    rintro d S3 ⟨hd, hJ3, hK3⟩
    obtain ⟨e, rfl, he⟩ : ∃ e : Nat, d = .int (e : Int) ∧ e ≤ 3 := by
      simp only [List.mem_cons, List.not_mem_nil, or_false] at hd
      rcases hd with rfl | rfl | rfl | rfl | rfl | rfl <;> exact ⟨_, rfl, by decide⟩
    have kh : ∀ S, callF G T (k + 2) "_law_half" [.int a, .int (e : Int)] S = .ok (hD (lo e a)) S := fun S => half (k := k + 1) hH
    rwa [kh] at ⊢
    exact ⟨isS40' (by omega) a0 (by omega), jar_grow hJ3 (by omega), (hK1.trans hK2).trans hK3⟩
theorem s40_list : ∀ {xs : List D}, (∀ x ∈ xs, IsS40 x) → ∃ ns : List Int, xs = plD 40 ns ∧ ns.length = xs.length ∧ ∀ x ∈ ns, 0 ≤ x ∧ Sz 100 x
  | [], _ => ⟨[], rfl, rfl, fun x h => by cases h⟩
  | x :: xs, h => by
    obtain ⟨ns, rfl, hl, hI⟩ := s40_list fun y hy => h y (List.mem_cons_of_mem _ hy)
    obtain ⟨z, rfl, z0, z1⟩ := h x List.mem_cons_self
    refine ⟨z :: ns, rfl, by simp [hl], fun y hy => ?_⟩
    rcases List.mem_cons.mp hy with rfl | hy
    · exact ⟨z0, z1⟩
    · exact hI y hy
set_option maxHeartbeats 0 in
theorem plate (dT : T "_law_draw" = some ⟨2, 4, b_draw⟩) (pT : T "_law_pick" = some ⟨2, 2, b_pick⟩) (mT : T "_law_mixed_up" = some ⟨2, 4, b_mixed⟩) (hH : T "_law_half" = some ⟨2, 2, b_half⟩) (hS : T "_law_strength" = some ⟨2, 3, b_strength⟩) (hT : T "_law_plate" = some ⟨3, 7, b_plate⟩) {k : Nat} {S : Store} {j f m n : Nat} {g : Bool} (hJ0 : Jar S j f m) (hm : m < 900000) (h0 : 1 ≤ n) (h1 : n ≤ 17) :
    Rw (callF G T (k + 4) "_law_plate" [.ref j, .int (n : Int), .bl g] S) fun d S' => (∃ ns : List Int, d = .tup (plD 40 ns) ∧ ns.length = n ∧ ∀ x ∈ ns, 0 ≤ x ∧ Sz 100 x) ∧ Jar S' j f (m + 100) ∧ A.Keep' S S' j f := by
  refine Rw_call hT rfl ?_
  show Ow (exec G _ b_plate [.val (.ref j), .val (.int (n : Int)), .val (.bl g), .no, .no, .no, .no] S) _
  unfold b_plate
  rwa [] at ⊢
  refine Rw.mono (draw dT hJ0 (by omega) (by omega) (by omega)) ?_
  rintro d S1 ⟨sh, rfl, s0, s1, hJ1, hK1⟩
  rwa [] at ⊢
  refine Rw.mono (strength (k := k) dT pT hH hS hJ1 (by omega)) ?_
  rintro first S2 ⟨hf, hJ2, hK2⟩
  rwa [] at ⊢
  refine Rw_req (rngOk_of (by omega) (by omega)) ?_
  rwa [] at ⊢
  have hln : (rngD 0 (n : Int)).length = n := by rw [rngD_len]; omega
  refine Rw_comp (fun i acc S' => acc.length = i ∧ (∀ x ∈ acc, IsS40 x) ∧ Jar S' j f (m + 4 + 4 * i) ∧ A.Keep S S' j f) ⟨rfl, (fun x hx => by cases hx), hJ2, hK1.trans hK2⟩ ?_ ?_
  · rintro i d acc S3 hd ⟨ha, hI, hJ3, hK3⟩
    obtain ⟨hi, rfl⟩ := rngD_get hd
    have hi : i < n := by omega
    rwa [] at ⊢
    refine Rw.mono (Q1 := fun (b : Bool) S' => Jar S' j f (m + 4 + 4 * i + 1) ∧ A.Keep S S' j f) (Rw_if (fun _ => ?_) (fun _ => ?_)) ?_
    · rwa [] at ⊢
      refine Rw.mono (draw dT hJ3 (by omega) (by omega) (by omega)) ?_
      rintro d S4 ⟨z, rfl, z0, z1, hJ4, hK4⟩
      rwa [] at ⊢
      exact ⟨hJ4, hK3.trans hK4⟩
    · rwa [] at ⊢
      exact ⟨jar_grow hJ3 (by omega), hK3⟩
    rintro b S4 ⟨hJ4, hK4⟩
    refine Rw.mono (Q1 := fun (d : D) S' => IsS40 d ∧ Jar S' j f (m + 4 + 4 * i + 4) ∧ A.Keep S S' j f) ?_ ?_
    · cases b with
      | true =>
        rwa [] at ⊢
        exact ⟨hf, jar_grow hJ4 (by omega), hK4⟩
      | false =>
        rwa [] at ⊢
        refine Rw.mono (strength (k := k) dT pT hH hS hJ4 (by omega)) ?_
        rintro d S5 ⟨hd, hJ5, hK5⟩
        exact ⟨hd, jar_grow hJ5 (by omega), hK4.trans hK5⟩
    rintro d S5 ⟨hd5, hJ5, hK5⟩
    exact ⟨by simp [ha], fun x hx => (List.mem_append.mp hx).elim (hI x) (fun hx => by rw [List.mem_singleton.mp hx]; exact hd5), jar_grow hJ5 (by omega), hK5⟩
  rintro acc S3 ⟨ha, hI, hJ3, hK3⟩
  rw [hln] at ha hJ3
  refine ⟨by rw [ha]; exact Nat.le_trans (show n ≤ 1000000 by omega) line_big, ?_⟩
  have fin : ∀ xs : List D, xs.length = n → (∀ x ∈ xs, IsS40 x) → Rw (callF G T (k + 3) "_law_mixed_up" [.ref j, .lst xs] S3) fun d S' => (∃ ns : List Int, d = .lst (plD 40 ns) ∧ ns.length = n ∧ ∀ x ∈ ns, 0 ≤ x ∧ Sz 100 x) ∧ Jar S' j f (m + 100) ∧ A.Keep' S S' j f := fun xs hl hx => by
    refine Rw.mono (mixed (k := k + 1) dT mT hJ3 (.inl rfl) (by omega) (by omega)) ?_
    rintro d S4 ⟨⟨ys, rfl, hp⟩, hJ4, hK4⟩
    obtain ⟨ns, rfl, hnl, hnI⟩ := s40_list fun y hy => hx y (hp.mem_iff.mp hy)
    exact ⟨⟨ns, rfl, by rw [hnl, hp.length_eq, hl], hnI⟩, jar_grow hJ4 (by omega), hK3.up.trans hK4⟩
  rwa [] at ⊢
  refine if_p (fun _ => ?_) (fun _ => ?_)
  · have er : rep (n - 1) [first] = List.replicate (n - 1) first := by
      unfold rep
      induction (n - 1) with
      | zero => rfl
      | succ q ih => rw [List.replicate_succ, List.replicate_succ, List.flatten_cons, ih]; rfl
    have e1 : ∀ S, binD .Mult (.lst [first]) (.int ((n : Int) - 1)) S = .ok (.lst (List.replicate (n - 1) first)) S := fun S => Rw.toEq ((ev_repL (by omega) (by omega) (by simp)).mpr ⟨by rw [show ((n : Int) - 1).toNat = n - 1 by omega, er], rfl⟩)
    have e2 : cut acc none (some 1) = acc.take 1 := by rw [cut_to (by omega) (by omega)]; rfl
    have e3 : ∀ S, binD .Add (.lst (List.replicate (n - 1) first)) (.lst (acc.take 1)) S = .ok (.lst (List.replicate (n - 1) first ++ acc.take 1)) S := fun S => Rw.toEq ((ev_addL (by rw [List.length_replicate, List.length_take]; omega)).mpr ⟨rfl, rfl⟩)
    rwa [e1, sl_l, e2, e3] at ⊢
    refine Rw.mono (fin _ (by rw [List.length_append, List.length_replicate, List.length_take]; omega) fun x hx => ?_) ?_
    · rcases List.mem_append.mp hx with hx | hx
      · rw [(List.mem_replicate.mp hx).2]; exact hf
      · exact hI x (List.mem_of_mem_take hx)
    rintro d S4 ⟨⟨ns, rfl, hnl, hnI⟩, hJ4, hK4⟩
    rwa [ev_tupL] at ⊢
    exact ⟨⟨ns, rfl, hnl, hnI⟩, hJ4, hK4⟩
  · rwa [] at ⊢
    refine Rw.mono (fin _ ha hI) ?_
    rintro d S4 ⟨⟨ns, rfl, hnl, hnI⟩, hJ4, hK4⟩
    rwa [ev_tupL] at ⊢
    exact ⟨⟨ns, rfl, hnl, hnI⟩, hJ4, hK4⟩
theorem rowD_ln {row : List (Nat × Nat)} : (rowD row).length = row.length := List.length_map ..
theorem row (dT : T "_law_draw" = some ⟨2, 4, b_draw⟩) (hT : T "_law_row" = some ⟨3, 6, b_row⟩) {k : Nat} {S : Store} {j f m n many : Nat} (hJ0 : Jar S j f m) (h0 : 1 ≤ n) (h1 : n ≤ 20) (h2 : many ≤ 1000) (hm : m < 900000) :
    Rw (callF G T (k + 2) "_law_row" [.ref j, .int n, .int many] S) fun d S' => (∃ row, d = .tup (rowD row) ∧ UpRow n row ∧ row.length ≤ many ∧ (2 ≤ n → row.length = many)) ∧ Jar S' j f (m + 2 * many) ∧ A.Keep S S' j f := by
  refine Rw_call hT rfl ?_
  show Ow (exec G _ b_row [.val (.ref j), .val (.int n), .val (.int many), .no, .no, .no] S) _
  unfold b_row
  rwa [] at ⊢
  refine Rw.mono (Q1 := fun d S' => (∃ q : Nat, d = .int q ∧ q ≤ many ∧ (2 ≤ n → q = many) ∧ (n = 1 → q = 0)) ∧ S' = S) (Rw_if (fun _ => ?_) (fun _ => ?_)) ?_
  · rwa [] at ⊢
    exact ⟨many, rfl, Nat.le_refl _, fun _ => rfl, fun _ => by omega⟩
  · rwa [] at ⊢
    exact ⟨0, rfl, by omega, fun _ => by omega, fun _ => rfl⟩
  rintro d S' ⟨⟨q, rfl, q1, q2, q3⟩, rfl⟩
  rwa [] at ⊢
  refine Rw_req (rngOk_of (by omega) (by omega)) ?_
  rwa [] at ⊢
  refine Ow_for (fun t v S1 => ∃ (row : List (Nat × Nat)) (s4 s5 : Slot), v = [.val (.ref j), .val (.int n), .val (.int many), .own (rowD row), s4, s5] ∧ UpRow n row ∧ row.length = t ∧ Jar S1 j f (m + 2 * t) ∧ A.Keep S' S1 j f) ⟨[], _, _, rfl, (fun q h => by cases h), rfl, hJ0, A.Keep.refl⟩ ?_ ?_
  · rintro t d v S1 hd ⟨row, s4, s5, rfl, hU, hl, hJ1, hK1⟩
    obtain ⟨ht, rfl⟩ := rngD_get hd
    have ht : t < q := by omega
    have hn2 : 2 ≤ n := by
      apply Classical.byContradiction
      intro hc
      have := q3 (by omega)
      omega
    rwa [] at ⊢
    refine Rw.mono (draw dT hJ1 (by omega) (by omega) (by omega)) ?_
    rintro d S2 ⟨a, rfl, a0, a1, hJ2, hK2⟩
    rwa [] at ⊢
    refine Rw.mono (draw dT hJ2 (by omega) (by omega) (by omega)) ?_
    rintro d S3 ⟨b, rfl, b0, b1, hJ3, hK3⟩
    have hlt : (rowD row).length < sizeLine := by rw [rowD_ln]; exact Nat.lt_of_lt_of_le (show row.length < 1000000 by omega) line_big
    obtain ⟨p, hp⟩ : ∃ p : Nat, a = (p : Int) := ⟨a.toNat, by omega⟩
    obtain ⟨r, hr⟩ : ∃ r : Nat, a + 1 + b = (r : Int) := ⟨(a + 1 + b).toNat, by omega⟩
    rwa [hlt, hr] at ⊢
    have e : rowD row ++ [D.tup [.int a, .int (r : Int)]] = rowD (row ++ [(p, r)]) := by
      unfold rowD
      rw [List.map_append, hp]
      rfl
    rw [e]
    refine ⟨row ++ [(p, r)], _, _, rfl, fun x hx => ?_, by rw [List.length_append, hl]; rfl, jar_grow hJ3 (by omega), (hK1.trans hK2).trans hK3⟩
    rcases List.mem_append.mp hx with hx | hx
    · exact hU x hx
    · rw [List.mem_singleton.mp hx]
      exact ⟨by show p < r; omega, by show r < n; omega⟩
  · rintro v S1 ⟨row, s4, s5, rfl, hU, hl, hJ1, hK1⟩
    rw [rngD_len] at hl hJ1
    have hq : ((q : Int) - 0).toNat = q := by omega
    rw [hq] at hl hJ1
    rwa [ev_tupL] at ⊢
    exact ⟨⟨row, rfl, hU, by omega, fun h => by rw [hl, q2 h]⟩, jar_grow hJ1 (by omega), hK1⟩
end IL.N
/-! ND: sums of the greatest drops; which plate is more even. -/
namespace IL
open PySem PySem.Spec PyProof.Rows L2
def desc (ns : List Int) : List Int := (srt ns).reverse
def psum (l : List Int) : List Int := (List.range l.length).map fun k => (l.take (k + 1)).sum
def tpD (ns : List Int) : List Int := psum (desc ns)
theorem srtN_perm (ns : List Int) : (srt ns).Perm ns := List.mergeSort_perm ns _
theorem srtN_le (ns : List Int) : (srt ns).Pairwise (· ≤ ·) := by
  have := List.pairwise_mergeSort (le := fun a b : Int => decide (a ≤ b)) (fun a b c h1 h2 => by simp only [decide_eq_true_eq] at *; omega) (fun a b => by simp only [Bool.or_eq_true, decide_eq_true_eq]; omega) ns
  exact this.imp fun h => of_decide_eq_true h
theorem srtN_one {ns ms : List Int} (p : ms.Perm ns) (h : ms.Pairwise (· ≤ ·)) : ms = srt ns := by
  have h3 : ms.Perm (srt ns) := p.trans (srtN_perm ns).symm
  exact h3.eq_of_pairwise (fun x y _ _ hx hy => by omega) h (srtN_le ns)
theorem desc_perm (ns : List Int) : (desc ns).Perm ns := (List.reverse_perm _).trans (srtN_perm ns)
theorem desc_len {ns : List Int} : (desc ns).length = ns.length := (desc_perm ns).length_eq
theorem desc_mul {ns : List Int} {c : Int} (hc : 0 < c) : desc (ns.map (· * c)) = (desc ns).map (· * c) := by
  have h : (srt ns).map (· * c) = srt (ns.map (· * c)) := srtN_one ((srtN_perm ns).map _) (by
    rw [List.pairwise_map]
    exact (srtN_le ns).imp fun h => Int.mul_le_mul_of_nonneg_right h (by omega))
  unfold desc
  rw [← h, List.map_reverse]
theorem desc_eq {a b : List Int} (p : a.Perm b) : desc a = desc b := by
  unfold desc
  rw [← srtN_one (ns := b) (ms := srt a) ((srtN_perm a).trans p) (srtN_le a)]
theorem psum_len {l : List Int} : (psum l).length = l.length := by unfold psum; rw [List.length_map, List.length_range]
theorem tpD_len {ns : List Int} : (tpD ns).length = ns.length := by unfold tpD; rw [psum_len, desc_len]
theorem psum_getD {l : List Int} {k : Nat} (h : k < l.length) : (psum l).getD k 0 = (l.take (k + 1)).sum := by
  unfold psum
  rw [List.getD_eq_getElem?_getD, List.getElem?_map, List.getElem?_range h]
  rfl
theorem sum_mulC {c : Int} : ∀ {l : List Int}, (l.map (· * c)).sum = l.sum * c
  | [] => by simp
  | x :: l => by rw [List.map_cons, List.sum_cons, List.sum_cons, sum_mulC, Int.add_mul]
theorem tpD_mul {ns : List Int} {c : Int} (hc : 0 < c) : tpD (ns.map (· * c)) = (tpD ns).map (· * c) := by
  unfold tpD
  rw [desc_mul hc]
  unfold psum
  rw [List.length_map, List.map_map]
  refine List.map_congr_left fun k _ => ?_
  show (((desc ns).map (· * c)).take (k + 1)).sum = ((desc ns).take (k + 1)).sum * c
  rw [← List.map_take, sum_mulC]
theorem psum_inj : ∀ {a b : List Int}, psum a = psum b → a = b := by
  intro a b h
  have hl : a.length = b.length := by rw [← psum_len (l := a), ← psum_len (l := b), h]
  have key : ∀ k, k ≤ a.length → a.take k = b.take k := by
    intro k
    induction k with
    | zero => intro _; simp
    | succ k ih =>
      intro hk
      have h1 := ih (by omega)
      have h2 := congrArg (fun l : List Int => l.getD k 0) h
      rw [psum_getD (by omega), psum_getD (by omega), List.take_succ_eq_append_getElem (by omega), List.take_succ_eq_append_getElem (by omega), List.sum_append, List.sum_append, h1] at h2
      simp only [List.sum_cons, List.sum_nil, Int.add_zero] at h2
      rw [List.take_succ_eq_append_getElem (by omega), List.take_succ_eq_append_getElem (by omega), h1, show a[k] = b[k] by omega]
  have := key a.length (Nat.le_refl _)
  rw [List.take_length, hl, List.take_length] at this
  exact this
theorem sumN_perm {l m : List Int} (h : l.Perm m) : l.sum = m.sum := by
  induction h with
  | nil => rfl
  | cons x _ ih => rw [List.sum_cons, List.sum_cons, ih]
  | swap x y l => rw [List.sum_cons, List.sum_cons, List.sum_cons, List.sum_cons]; omega
  | trans _ _ h1 h2 => rw [h1, h2]
theorem tpD_last {ns : List Int} (h : 0 < ns.length) : (tpD ns).getD (ns.length - 1) 0 = ns.sum := by
  unfold tpD
  rw [psum_getD (by rw [desc_len]; omega), List.take_of_length_le (by rw [desc_len]; omega), sumN_perm (desc_perm ns)]
/-- whether a is more even than b, or as even -/
def moreE (a b : List Int) : Bool := decide (a.length = b.length) && (decide (a.sum = b.sum) && !((List.range a.length).any fun k => decide ((tpD b).getD k 0 < (tpD a).getD k 0)))
theorem moreE_iff {a b : List Int} : moreE a b = true ↔ a.length = b.length ∧ a.sum = b.sum ∧ ∀ k, k < a.length → (tpD a).getD k 0 ≤ (tpD b).getD k 0 := by
  unfold moreE
  simp only [Bool.and_eq_true, decide_eq_true_eq, Bool.not_eq_true', List.any_eq_false, List.mem_range, Int.not_lt]
theorem moreE_trans {a b c : List Int} (h1 : moreE a b = true) (h2 : moreE b c = true) : moreE a c = true := by
  obtain ⟨a1, a2, a3⟩ := moreE_iff.mp h1
  obtain ⟨b1, b2, b3⟩ := moreE_iff.mp h2
  exact moreE_iff.mpr ⟨a1.trans b1, a2.trans b2, fun k hk => Int.le_trans (a3 k hk) (b3 k (by omega))⟩
theorem moreE_both {a b : List Int} : (moreE a b && moreE b a) = decide (a.Perm b) := by
  by_cases p : a.Perm b
  · rw [decide_eq_true p, Bool.and_eq_true]
    have e : tpD a = tpD b := by unfold tpD; rw [desc_eq p]
    exact ⟨moreE_iff.mpr ⟨p.length_eq, sumN_perm p, fun k _ => by rw [e]; exact Int.le_refl _⟩, moreE_iff.mpr ⟨p.length_eq.symm, (sumN_perm p).symm, fun k _ => by rw [e]; exact Int.le_refl _⟩⟩
  · rw [decide_eq_false p]
    cases h1 : moreE a b with
    | false => rfl
    | true =>
      cases h2 : moreE b a with
      | false => rfl
      | true =>
        obtain ⟨a1, a2, a3⟩ := moreE_iff.mp h1
        obtain ⟨b1, b2, b3⟩ := moreE_iff.mp h2
        refine absurd ?_ p
        have e : tpD a = tpD b := by
          apply List.ext_getElem (by rw [tpD_len, tpD_len, a1])
          intro i g1 g2
          have h3 := a3 i (by rw [tpD_len] at g1; exact g1)
          have h4 := b3 i (by rw [tpD_len] at g2; exact g2)
          rw [List.getD_eq_getElem?_getD, List.getD_eq_getElem?_getD, List.getElem?_eq_getElem g1, List.getElem?_eq_getElem g2] at h3
          rw [List.getD_eq_getElem?_getD, List.getD_eq_getElem?_getD, List.getElem?_eq_getElem g1, List.getElem?_eq_getElem g2] at h4
          simp only [Option.getD_some] at h3 h4
          omega
        have e2 := psum_inj e
        exact (desc_perm a).symm.trans (by rw [e2]; exact desc_perm b)
/-- over a common power -/
def upF (f : Nat) (ns : List Int) : List Int := ns.map (· * 2 ^ (1500 - f))
theorem upF_len {f : Nat} {ns : List Int} : (upF f ns).length = ns.length := List.length_map ..
theorem tpD_up {f : Nat} {ns : List Int} : tpD (upF f ns) = upF f (tpD ns) := tpD_mul (Int.pow_pos (by omega))
theorem upF_getD {f k : Nat} {ns : List Int} : (upF f ns).getD k 0 = ns.getD k 0 * 2 ^ (1500 - f) := by
  unfold upF
  rw [List.getD_eq_getElem?_getD, List.getD_eq_getElem?_getD, List.getElem?_map]
  cases ns[k]? <;> simp
theorem upF_sum {f : Nat} {ns : List Int} : (upF f ns).sum = ns.sum * 2 ^ (1500 - f) := sum_mulC
theorem lo_upF {f : Nat} {a : Int} (h : f ≤ 1500) : lo 1500 (a * 2 ^ (1500 - f)) = lo f a := by
  have := lo_pow (f := f) (a := a) (1500 - f)
  rw [show f + (1500 - f) = 1500 by omega] at this
  exact this
/-! ### walked -/
theorem srtT' {ms : List Int} {S : Store} (h : ms.length < 64) : b1D .sorted (.tup (ms.map .int)) S = .ok (.lst ((srt ms).map .int)) S := by
  show (match (some (ms.map D.int)).bind intsD with | some ns => if ns.length < 64 then R.ok (D.lst ((srt ns).map .int)) S else .bad | none => match pairsD (ms.map D.int) with | some ps => R.ok (D.lst ((srtP ps).map pairT)) S | none => .bad) = _
  rw [Option.bind_some, intsD_map]
  dsimp only
  rw [if_pos h]
theorem srtC' {ms : List Int} {S : Store} {c : Nat} (hS : S[c]? = some (.lst (ms.map .int))) (h : ms.length < 64) : b1D .sorted (.ref c) S = .ok (.lst ((srt ms).map .int)) S := by
  have e : itemsD (.ref c) S = some (ms.map .int) := by
    unfold itemsD
    simp only [hS]
  have e2 : b1D .sorted (.ref c) S = (match (itemsD (.ref c) S).bind intsD with
    | some ns => if ns.length < 64 then R.ok (.lst ((srt ns).map .int)) S else .bad
    | none => match (itemsD (.ref c) S).bind pairsD with
        | some ps => R.ok (D.lst ((srtP ps).map pairT)) S
        | none => .bad) := rfl
  rw [e2, e, Option.bind_some, intsD_map]
  dsimp only
  rw [if_pos h]
theorem itemsL {xs : List D} {S : Store} : itemsD (.lst xs) S = some xs := rfl
theorem take_psum {l : List Int} {t : Nat} (h : t < l.length) : (l.take (t + 1)).sum = (l.take t).sum + l[t] := by
  rw [List.take_succ_eq_append_getElem h, List.sum_append]
  simp
theorem desc_wh {f : Nat} {ns : List Int} : desc ns = (desc (wh f ns)).map (· * 2 ^ (f - top f ns)) := by
  conv => lhs; rw [← wh_map (f := f) (ns := ns)]
  exact desc_mul (Int.pow_pos (by omega))
theorem tp_wh {f : Nat} {ns : List Int} : plD (top f ns) (tpD (wh f ns)) = plD f (tpD ns) := by
  have h := top_le (f := f) (ns := ns)
  have e : tpD ns = (tpD (wh f ns)).map (· * 2 ^ (f - top f ns)) := by
    conv => lhs; rw [← wh_map (f := f) (ns := ns)]
    exact tpD_mul (Int.pow_pos (by omega))
  have e2 := plD_mul (f := top f ns) (d := f - top f ns) (ns := tpD (wh f ns))
  rw [← e, show top f ns + (f - top f ns) = f by omega] at e2
  exact e2.symm
namespace H
def b_tops : S := (.sq (.asg (.tup (.cs (.var 1) (.cs (.var 2) .nl))) (.call "whole" (.cs (.var 0) .nl))) (.sq (.par [(3, false), (4, true)] (.cs (.int (0)) (.cs (.lst .nl) .nl))) (.sq (.for_ (.var 5) (.cs (.revl (.b1 .sorted (.var 1))) .nl) (.sq (.asg (.var 3) (.bin .Add (.var 3) (.var 5))) (.sq (.app 4 (.call "half" (.cs (.var 3) (.cs (.var 2) .nl)))) .nop))) (.sq (.ret (.b1 .tup (.own 4))) .nop))))
def b_is_less : S := (.sq (.asg (.var 2) (.b2 .max (.ix (.var 0) (.int (1))) (.ix (.var 1) (.int (1))))) (.sq (.ret (.cmp .Lt (.call "in_parts" (.cs (.var 0) (.cs (.var 2) .nl))) (.call "in_parts" (.cs (.var 1) (.cs (.var 2) .nl))))) .nop))
def b_more_even : S := (.sq (.ife (.cmp .NotEq (.b1 .len (.var 0)) (.b1 .len (.var 1))) (.sq (.ret (.bl false)) .nop) .nop) (.sq (.asg (.tup (.cs (.var 2) (.cs (.var 3) .nl))) (.tup (.cs (.call "tops" (.cs (.var 0) .nl)) (.cs (.call "tops" (.cs (.var 1) .nl)) .nl)))) (.sq (.ret (.and (.cmp .Eq (.ix (.var 2) (.neg (.int (1)))) (.ix (.var 3) (.neg (.int (1))))) (.not (.b1 .any (.comp (.call "is_less" (.cs (.ix (.var 3) (.var 4)) (.cs (.var 5) .nl))) (.tup (.cs (.var 4) (.cs (.var 5) .nl))) (.enu (.var 2)) .nl))))) .nop)))
variable {G : Str → Option D} {T : Str → Option Fn}
theorem is_less (hI : T "in_parts" = some ⟨2, 2, b_in_parts⟩) (hT : T "is_less" = some ⟨2, 3, b_is_less⟩) {k : Nat} {S : Store} {f g m : Nat} {a b : Int} (hf : f ≤ 1500) (hg : g ≤ 1500) (h1 : Sz m a) (h2 : Sz m b) (h3 : m ≤ 300000) :
    callF G T (k + 2) "is_less" [hD (lo f a), hD (lo g b)] S = .ok (.bl (decide (a * 2 ^ (1500 - f) < b * 2 ^ (1500 - g)))) S := by
  refine Rw.toEq ?_
  have la := lo_spec f a
  have lb := lo_spec g b
  have sa : Sz m (lo f a).1 := h1.lo
  have sb : Sz m (lo g b).1 := h2.lo
  have e1 : a * 2 ^ (1500 - f) = (lo f a).1 * 2 ^ (1500 - (lo f a).2) := by
    conv => lhs; rw [la.2.1]
    rw [Int.mul_assoc, ← Int.pow_add]
    congr 2
    have := la.1
    omega
  have e2 : b * 2 ^ (1500 - g) = (lo g b).1 * 2 ^ (1500 - (lo g b).2) := by
    conv => lhs; rw [lb.2.1]
    rw [Int.mul_assoc, ← Int.pow_add]
    congr 2
    have := lb.1
    omega
  have q1 := la.1
  have q2 := lb.1
  rw [e1, e2]
  generalize lo f a = p at *
  generalize lo g b = r at *
  obtain ⟨p1, p2⟩ := p
  obtain ⟨r1, r2⟩ := r
  simp only at *
  show Rw (callF G T (k + 2) "is_less" [.tup [.int p1, .int (p2 : Int)], .tup [.int r1, .int (r2 : Int)]] S) _
  refine Rw_call hT rfl ?_
  show Ow (exec G _ b_is_less [.val (.tup [.int p1, .int (p2 : Int)]), .val (.tup [.int r1, .int (r2 : Int)]), .no] S) _
  unfold b_is_less
  have em : (if ((r2 : Nat) : Int) > ((p2 : Nat) : Int) then ((r2 : Nat) : Int) else ((p2 : Nat) : Int)) = ((max p2 r2 : Nat) : Int) := by split <;> omega
  have k1 : ∀ S, callF G T (k + 1) "in_parts" [.tup [.int p1, .int (p2 : Int)], .int ((max p2 r2 : Nat) : Int)] S = .ok (.int (p1 * 2 ^ (max p2 r2 - p2))) S := fun S => in_parts (p := (p1, p2)) hI (by show p2 ≤ _; omega) (by omega) sa (by omega)
  have k2 : ∀ S, callF G T (k + 1) "in_parts" [.tup [.int r1, .int (r2 : Int)], .int ((max p2 r2 : Nat) : Int)] S = .ok (.int (r1 * 2 ^ (max p2 r2 - r2))) S := fun S => in_parts (p := (r1, r2)) hI (by show r2 ≤ _; omega) (by omega) sb (by omega)
  have ed : decide (p1 * 2 ^ (max p2 r2 - p2) < r1 * 2 ^ (max p2 r2 - r2)) = decide (p1 * 2 ^ (1500 - p2) < r1 * 2 ^ (1500 - r2)) := by
    have x1 : p1 * 2 ^ (1500 - p2) = p1 * 2 ^ (max p2 r2 - p2) * 2 ^ (1500 - max p2 r2) := by
      rw [Int.mul_assoc, ← Int.pow_add]; congr 2; omega
    have x2 : r1 * 2 ^ (1500 - r2) = r1 * 2 ^ (max p2 r2 - r2) * 2 ^ (1500 - max p2 r2) := by
      rw [Int.mul_assoc, ← Int.pow_add]; congr 2; omega
    rw [x1, x2]
    have hp : (0 : Int) < 2 ^ (1500 - max p2 r2) := Int.pow_pos (by omega)
    generalize (2 : Int) ^ (1500 - max p2 r2) = c at hp
    generalize p1 * 2 ^ (max p2 r2 - p2) = x
    generalize r1 * 2 ^ (max p2 r2 - r2) = y
    by_cases h : x < y
    · rw [decide_eq_true h, decide_eq_true (Int.mul_lt_mul_of_pos_right h hp)]
    · rw [decide_eq_false h, decide_eq_false (by
        intro z
        exact h (Int.lt_of_mul_lt_mul_right z (by omega)))]
  rw [← ed]
  generalize (2 : Int) ^ (max p2 r2 - p2) = c1 at *
  generalize (2 : Int) ^ (max p2 r2 - r2) = c2 at *
  generalize max p2 r2 = mx at *
  rwa [em, k1, k2] at ⊢
end H
end IL
/-! NE: sums of the greatest drops, walked. -/
namespace IL
open PySem PySem.Spec PyProof.Rows L2
theorem ix_plM {f : Nat} {ns : List Int} {S : Store} (h : 0 < ns.length) : ixD (.tup (plD f ns)) (.int (-1)) S = .ok (hD (lo f (ns.getD (ns.length - 1) 0))) S := by
  have e : atI (plD f ns) (-1) = some (hD (lo f (ns.getD (ns.length - 1) 0))) := by
    unfold atI ixN
    rw [plD_len, if_neg (by omega), if_pos (by omega), Option.bind_some]
    have : ((-1 : Int) + (ns.length : Int)).toNat = ns.length - 1 := by omega
    unfold plD
    rw [this, List.getElem?_map, List.getElem?_eq_getElem (by omega), List.getD_eq_getElem?_getD, List.getElem?_eq_getElem (by omega)]
    rfl
  show (match atI (plD f ns) (-1) with | some d => R.ok d S | none => .bad) = _
  rw [e]
theorem tpD_sz {m : Nat} {ns : List Int} (h : ∀ x ∈ ns, Sz m x) (hl : ns.length ≤ 64) : ∀ x ∈ tpD ns, Sz (m + 7) x := by
  have key : ∀ l : List Int, (∀ x ∈ l, Sz m x) → l.sum.natAbs ≤ l.length * 2 ^ m := by
    intro l
    induction l with
    | nil => intro _; simp
    | cons y l ih =>
      intro hy
      have h1 := ih fun x hx => hy x (List.mem_cons_of_mem _ hx)
      have h2 := hy y List.mem_cons_self
      unfold Sz at h2
      rw [List.sum_cons, List.length_cons, Nat.add_mul, Nat.one_mul]
      omega
  intro x hx
  unfold tpD psum at hx
  obtain ⟨k, hk, rfl⟩ := List.mem_map.mp hx
  have h1 := key ((desc ns).take (k + 1)) fun x hx => h x ((desc_perm ns).mem_iff.mp (List.mem_of_mem_take hx))
  have h2 : ((desc ns).take (k + 1)).length ≤ 64 := Nat.le_trans (by rw [List.length_take, desc_len]; omega) hl
  unfold Sz
  have h3 : ((desc ns).take (k + 1)).length * 2 ^ m ≤ 64 * 2 ^ m := Nat.mul_le_mul_right _ h2
  have h4 : 2 ^ (m + 7) = 128 * 2 ^ m := by rw [Nat.pow_add]; omega
  have h5 : 0 < 2 ^ m := Nat.two_pow_pos m
  omega
theorem eq_hh {f g : Nat} {a b : Int} {S : Store} (hf : f ≤ 1500) (hg : g ≤ 1500) : cmpD .Eq (hD (lo f a)) (hD (lo g b)) S = .ok (.bl (decide (a * 2 ^ (1500 - f) = b * 2 ^ (1500 - g)))) S := by
  rw [← lo_upF (a := a) hf, ← lo_upF (a := b) hg, eq_h]
theorem ne_hh {f g : Nat} {a b : Int} {S : Store} (hf : f ≤ 1500) (hg : g ≤ 1500) : cmpD .NotEq (hD (lo f a)) (hD (lo g b)) S = .ok (.bl (!decide (a * 2 ^ (1500 - f) = b * 2 ^ (1500 - g)))) S := by
  rw [← lo_upF (a := a) hf, ← lo_upF (a := b) hg, ne_h]
theorem lt_scale {a b c : Int} (hc : 0 < c) : decide (a < b) = decide (a * c < b * c) := by
  by_cases h : a < b
  · rw [decide_eq_true h, decide_eq_true (Int.mul_lt_mul_of_pos_right h hc)]
  · rw [decide_eq_false h, decide_eq_false (by
      intro z
      exact h (Int.lt_of_mul_lt_mul_right z (by omega)))]
namespace H
variable {G : Str → Option D} {T : Str → Option Fn}
theorem tops (hH : T "half" = some ⟨2, 2, b_half⟩) (hI : T "in_parts" = some ⟨2, 2, b_in_parts⟩) (hW : T "whole" = some ⟨1, 3, b_whole⟩) (hT : T "tops" = some ⟨1, 6, b_tops⟩) {k : Nat} {S : Store} {f m : Nat} {ns : List Int} (h0 : ns ≠ []) (h1 : ∀ x ∈ ns, Sz m x) (h2 : f ≤ 90000) (h3 : m ≤ 300000) (h4 : ns.length < 64) :
    callF G T (k + 3) "tops" [.tup (plD f ns)] S = .ok (.tup (plD f (tpD ns))) S := by
  refine Rw.toEq ?_
  refine Rw_call hT rfl ?_
  show Ow (exec G _ b_tops [.val (.tup (plD f ns)), .no, .no, .no, .no, .no] S) _
  unfold b_tops
  have kw : ∀ S, callF G T (k + 2) "whole" [.tup (plD f ns)] S = .ok (.tup [.tup ((wh f ns).map .int), .int (top f ns)]) S := fun S => whole hI hW h0 h1 h2 h3 (by omega)
  have hl : (wh f ns).length = ns.length := wh_len
  have hfin := tp_wh (f := f) (ns := ns)
  have hs : ∀ S, b1D .sorted (.tup ((wh f ns).map .int)) S = .ok (.lst ((srt (wh f ns)).map .int)) S := fun S => srtT' (by omega)
  have hd : (srt (wh f ns)).reverse = desc (wh f ns) := rfl
  have hdl : (desc (wh f ns)).length = ns.length := by rw [desc_len, hl]
  have hdef : tpD (wh f ns) = psum (desc (wh f ns)) := rfl
  rw [hdef] at hfin
  generalize wh f ns = ws at *
  generalize top f ns = o at *
  rw [← hfin]
  generalize hde : desc ws = ds at *
  rwa [kw, setPar, hs, itemsL] at ⊢
  rw [← List.map_reverse, hd]
  refine Ow_for (fun t v S1 => ∃ s5 : Slot, v = [.val (.tup (plD f ns)), .val (.tup (ws.map .int)), .val (.int (o : Int)), .val (.int (ds.take t).sum), .own (plD o ((psum ds).take t)), s5] ∧ S1 = S) ⟨_, rfl, rfl⟩ ?_ ?_
  · rintro t d v S1 hd' ⟨s5, rfl, rfl⟩
    rw [List.getElem?_map] at hd'
    obtain ⟨x, hx, rfl⟩ := Option.map_eq_some_iff.mp hd'
    obtain ⟨ht, rfl⟩ := List.getElem?_eq_some_iff.mp hx
    have e1 := take_psum ht
    have kh : ∀ a S, callF G T (k + 2) "half" [.int a, .int (o : Int)] S = .ok (hD (lo o a)) S := fun a S => half hH
    have hlt : ((plD o ((psum ds).take t)).length < sizeLine) = True := eq_true (Nat.lt_of_lt_of_le (show _ < 1000000 by rw [plD_len, List.length_take]; omega) line_big)
    have e2 : plD o ((psum ds).take (t + 1)) = plD o ((psum ds).take t) ++ [hD (lo o (ds.take (t + 1)).sum)] := by
      rw [List.take_succ_eq_append_getElem (by rw [psum_len]; exact ht)]
      unfold plD
      rw [List.map_append]
      congr 1
      have := psum_getD ht
      rw [List.getD_eq_getElem?_getD, List.getElem?_eq_getElem (by rw [psum_len]; exact ht), Option.getD_some] at this
      rw [this]
      rfl
    rw [e2, e1]
    rwa [kh, hlt] at ⊢
    exact ⟨_, rfl⟩
  · rintro v S1 ⟨s5, rfl, rfl⟩
    have ep : (psum ds).take ds.length = psum ds := List.take_of_length_le (by rw [psum_len]; exact Nat.le_refl _)
    rw [List.length_map, ep]
    rwa [ev_tupL] at ⊢
theorem more_even (hH : T "half" = some ⟨2, 2, b_half⟩) (hI : T "in_parts" = some ⟨2, 2, b_in_parts⟩) (hW : T "whole" = some ⟨1, 3, b_whole⟩) (hL : T "is_less" = some ⟨2, 3, b_is_less⟩) (hO : T "tops" = some ⟨1, 6, b_tops⟩) (hT : T "more_even" = some ⟨2, 6, b_more_even⟩) {k : Nat} {S : Store} {f g m : Nat} {ns ms : List Int} (n0 : ns ≠ []) (m0 : ms ≠ []) (h1 : ∀ x ∈ ns, Sz m x) (h2 : ∀ x ∈ ms, Sz m x) (hf : f ≤ 1500) (hg : g ≤ 1500) (h3 : m ≤ 200000) (h4 : ns.length < 64) (h5 : ms.length < 64) :
    callF G T (k + 4) "more_even" [.tup (plD f ns), .tup (plD g ms)] S = .ok (.bl (moreE (upF f ns) (upF g ms))) S := by
  refine Rw.toEq ?_
  refine Rw_call hT rfl ?_
  show Ow (exec G _ b_more_even [.val (.tup (plD f ns)), .val (.tup (plD g ms)), .no, .no, .no, .no] S) _
  unfold b_more_even
  have kt1 : ∀ S, callF G T (k + 3) "tops" [.tup (plD f ns)] S = .ok (.tup (plD f (tpD ns))) S := fun S => tops hH hI hW hO n0 h1 (by omega) (by omega) h4
  have kt2 : ∀ S, callF G T (k + 3) "tops" [.tup (plD g ms)] S = .ok (.tup (plD g (tpD ms))) S := fun S => tops hH hI hW hO m0 h2 (by omega) (by omega) h5
  have l1 := List.length_pos_iff.mpr n0
  have l2 := List.length_pos_iff.mpr m0
  have hl1 : (plD f ns).length = ns.length := plD_len
  have hl2 : (plD g ms).length = ms.length := plD_len
  by_cases hlen : ns.length = ms.length
  · have hlen' : ((ns.length : Int) = (ms.length : Int)) := by omega
    have em : moreE (upF f ns) (upF g ms) = (decide (ns.sum * 2 ^ (1500 - f) = ms.sum * 2 ^ (1500 - g)) && !((List.range ns.length).any fun k => decide ((tpD ms).getD k 0 * 2 ^ (1500 - g) < (tpD ns).getD k 0 * 2 ^ (1500 - f)))) := by
      unfold moreE
      rw [upF_len, upF_len, decide_eq_true hlen, Bool.true_and, upF_sum, upF_sum, tpD_up, tpD_up]
      simp only [upF_getD]
    have i1 : ∀ S, ixD (.tup (plD f (tpD ns))) (.int (-1)) S = .ok (hD (lo f ns.sum)) S := fun S => by
      rw [ix_plM (by rw [tpD_len]; exact l1), tpD_len, tpD_last l1]
    have i2 : ∀ S, ixD (.tup (plD g (tpD ms))) (.int (-1)) S = .ok (hD (lo g ms.sum)) S := fun S => by
      rw [ix_plM (by rw [tpD_len]; exact l2), tpD_len, tpD_last l2]
    have z1 := tpD_sz h1 (by omega)
    have z2 := tpD_sz h2 (by omega)
    have t1 : (tpD ns).length = ns.length := tpD_len
    have t2 : (tpD ms).length = ms.length := tpD_len
    rw [em]
    generalize tpD ns = ps at *
    generalize tpD ms = qs at *
    have ec : ∀ S, cmpD .Eq (hD (lo f ns.sum)) (hD (lo g ms.sum)) S = .ok (.bl (decide (ns.sum * 2 ^ (1500 - f) = ms.sum * 2 ^ (1500 - g)))) S := fun S => eq_hh hf hg
    generalize hE : decide (ns.sum * 2 ^ (1500 - f) = ms.sum * 2 ^ (1500 - g)) = be at *
    rwa [hl1, hl2, hlen', kt1, kt2, i1, i2, ec] at ⊢
    cases be with
    | false =>
      rwa [] at ⊢
      rfl
    | true =>
      rwa [] at ⊢
      have eenu : enuD 0 (plD f ps) = (List.range ps.length).map fun (i : Nat) => D.tup [.int (i : Int), hD (lo f (ps.getD i 0))] := by
        apply List.ext_getElem?
        intro i
        rw [enuD_get, List.getElem?_map, Nat.zero_add]
        by_cases hi : i < ps.length
        · unfold plD
          have eg : ps.getD i 0 = ps[i] := by rw [List.getD_eq_getElem?_getD, List.getElem?_eq_getElem hi]; rfl
          rw [List.getElem?_map, List.getElem?_eq_getElem hi, List.getElem?_range hi]
          simp only [Option.map_some, eg]
        · rw [List.getElem?_eq_none (by rw [plD_len]; omega), List.getElem?_eq_none (by rw [List.length_range]; omega)]
          rfl
      rw [eenu]
      refine Rw.eq (compF_okL (fun (i : Nat) => D.tup [.int (i : Int), hD (lo f (ps.getD i 0))]) (fun i => D.bl (decide (qs.getD i 0 * 2 ^ (1500 - g) < ps.getD i 0 * 2 ^ (1500 - f)))) (fun i hi => Rw.toEq ?_) (by rw [List.length_range]; omega)) ?_
      · have hi := List.mem_range.mp hi
        have j1 : ∀ S, ixD (.tup (plD g qs)) (.int (i : Int)) S = .ok (hD (lo g (qs.getD i 0))) S := fun S => ix_plT (by omega)
        have y1 : Sz (m + 7) (qs.getD i 0) := by
          rcases getD_mem (ns := qs) (i := i) with q | q
          · rw [q]; exact Sz.zero
          · exact z2 _ q
        have y2 : Sz (m + 7) (ps.getD i 0) := by
          rcases getD_mem (ns := ps) (i := i) with q | q
          · rw [q]; exact Sz.zero
          · exact z1 _ q
        have j2 : ∀ S, callF G T (k + 3) "is_less" [hD (lo g (qs.getD i 0)), hD (lo f (ps.getD i 0))] S = .ok (.bl (decide (qs.getD i 0 * 2 ^ (1500 - g) < ps.getD i 0 * 2 ^ (1500 - f)))) S := fun S => is_less (k := k + 1) hI hL hg hf y1 y2 (by omega)
        rwa [j1, j2] at ⊢
      · have e5 : ((List.range ps.length).map fun i => D.bl (decide (qs.getD i 0 * 2 ^ (1500 - g) < ps.getD i 0 * 2 ^ (1500 - f)))) = ((List.range ps.length).map fun i => decide (qs.getD i 0 * 2 ^ (1500 - g) < ps.getD i 0 * 2 ^ (1500 - f))).map .bl := by rw [List.map_map]; rfl
        have e6 : ((List.range ps.length).map fun i => decide (qs.getD i 0 * 2 ^ (1500 - g) < ps.getD i 0 * 2 ^ (1500 - f))).any id = (List.range ns.length).any fun k => decide (qs.getD k 0 * 2 ^ (1500 - g) < ps.getD k 0 * 2 ^ (1500 - f)) := by rw [List.any_map, t1]; rfl
        rw [e5]
        rwa [anyL] at ⊢
        rw [e6]
        cases (List.range ns.length).any fun k => decide (qs.getD k 0 * 2 ^ (1500 - g) < ps.getD k 0 * 2 ^ (1500 - f)) <;> rfl
  · have hlen' : ¬ ((ns.length : Int) = (ms.length : Int)) := by omega
    have em : moreE (upF f ns) (upF g ms) = false := by
      unfold moreE
      rw [upF_len, upF_len, decide_eq_false hlen, Bool.false_and]
    rwa [hl1, hl2, hlen'] at ⊢
    exact congrArg D.bl em.symm
end H
namespace N
def b_sums : S := (.sq (.asg (.tup (.cs (.var 1) (.cs (.var 2) .nl))) (.call "_law_numbers" (.cs (.var 0) .nl))) (.sq (.par [(3, true), (4, false)] (.cs (.lst .nl) (.cs (.int (0)) .nl))) (.sq (.for_ (.var 5) (.cs (.revl (.b1 .sorted (.var 1))) .nl) (.sq (.asg (.var 4) (.bin .Add (.var 4) (.var 5))) (.sq (.app 3 (.call "_law_half" (.cs (.var 4) (.cs (.var 2) .nl)))) .nop))) (.sq (.ret (.b1 .tup (.own 3))) .nop))))
def b_lmore : S := (.sq (.par [(2, false), (3, false)] (.cs (.call "_law_sums" (.cs (.var 0) .nl)) (.cs (.call "_law_sums" (.cs (.var 1) .nl)) .nl))) (.sq (.ife (.or (.cmp .NotEq (.b1 .len (.var 2)) (.b1 .len (.var 3))) (.cmp .NotEq (.ix (.var 2) (.neg (.int (1)))) (.ix (.var 3) (.neg (.int (1)))))) (.sq (.ret (.bl false)) .nop) .nop) (.sq (.ret (.cmp .Eq (.comp (.int (1)) (.tup (.cs (.var 4) (.cs (.var 5) .nl))) (.zip (.var 2) (.var 3)) (.cs (.cmp .Gt (.bin .Mult (.ix (.var 4) (.int (0))) (.bin .LShift (.int (1)) (.ix (.var 5) (.int (1))))) (.bin .Mult (.ix (.var 5) (.int (0))) (.bin .LShift (.int (1)) (.ix (.var 4) (.int (1)))))) .nl)) (.lst .nl))) .nop)))
variable {G : Str → Option D} {T : Str → Option Fn}
theorem sums (hH : T "_law_half" = some ⟨2, 2, b_half⟩) (hN : T "_law_numbers" = some ⟨1, 4, b_numbers⟩) (hT : T "_law_sums" = some ⟨1, 6, b_sums⟩) {k : Nat} {S : Store} {f m : Nat} {ns : List Int} (h1 : ∀ x ∈ ns, Sz m x) (h2 : f ≤ 90000) (h3 : m ≤ 300000) (h4 : ns.length < 64) :
    callF G T (k + 2) "_law_sums" [.tup (plD f ns)] S = .ok (.tup (plD f (tpD ns))) (S ++ [.lst ((wh f ns).map .int)]) := by
  refine Rw.toEq ?_
  refine Rw_call hT rfl ?_
  show Ow (exec G _ b_sums [.val (.tup (plD f ns)), .no, .no, .no, .no, .no] S) _
  unfold b_sums
  have kw : callF G T (k + 1) "_law_numbers" [.tup (plD f ns)] S = .ok (.tup [.ref S.length, .int (top f ns : Nat)]) (S ++ [.lst ((wh f ns).map .int)]) := numbers hN h1 h2 h3 (by omega)
  have hl : (wh f ns).length = ns.length := wh_len
  have hfin := tp_wh (f := f) (ns := ns)
  have hS : (S ++ [Cell.lst ((wh f ns).map .int)])[S.length]? = some (.lst ((wh f ns).map .int)) := new_here
  have hs := srtC' hS (by omega)
  have hd : (srt (wh f ns)).reverse = desc (wh f ns) := rfl
  have hdl : (desc (wh f ns)).length = ns.length := by rw [desc_len, hl]
  have hdef : tpD (wh f ns) = psum (desc (wh f ns)) := rfl
  rw [hdef] at hfin
  generalize wh f ns = ws at *
  generalize top f ns = o at *
  rw [← hfin]
  generalize hde : desc ws = ds at *
  generalize hSx : S ++ [Cell.lst (ws.map .int)] = SX at *
  rwa [kw, setPar, hs, itemsL] at ⊢
  rw [← List.map_reverse, hd]
  refine Ow_for (fun t v S1 => ∃ s5 : Slot, v = [.val (.tup (plD f ns)), .val (.ref S.length), .val (.int (o : Int)), .own (plD o ((psum ds).take t)), .val (.int (ds.take t).sum), s5] ∧ S1 = SX) ⟨_, rfl, rfl⟩ ?_ ?_
  · rintro t d v S1 hd' ⟨s5, rfl, rfl⟩
    rw [List.getElem?_map] at hd'
    obtain ⟨x, hx, rfl⟩ := Option.map_eq_some_iff.mp hd'
    obtain ⟨ht, rfl⟩ := List.getElem?_eq_some_iff.mp hx
    have e1 := take_psum ht
    have kh : ∀ a S, callF G T (k + 1) "_law_half" [.int a, .int (o : Int)] S = .ok (hD (lo o a)) S := fun a S => half hH
    have hlt : ((plD o ((psum ds).take t)).length < sizeLine) = True := eq_true (Nat.lt_of_lt_of_le (show _ < 1000000 by rw [plD_len, List.length_take]; omega) line_big)
    have e2 : plD o ((psum ds).take (t + 1)) = plD o ((psum ds).take t) ++ [hD (lo o (ds.take (t + 1)).sum)] := by
      rw [List.take_succ_eq_append_getElem (by rw [psum_len]; exact ht)]
      unfold plD
      rw [List.map_append]
      congr 1
      have := psum_getD ht
      rw [List.getD_eq_getElem?_getD, List.getElem?_eq_getElem (by rw [psum_len]; exact ht), Option.getD_some] at this
      rw [this]
      rfl
    rw [e2, e1]
    rwa [kh, hlt] at ⊢
    exact ⟨_, rfl⟩
  · rintro v S1 ⟨s5, rfl, rfl⟩
    have ep : (psum ds).take ds.length = psum ds := List.take_of_length_le (by rw [psum_len]; exact Nat.le_refl _)
    rw [List.length_map, ep]
    rwa [ev_tupL] at ⊢
theorem lmore (hH : T "_law_half" = some ⟨2, 2, b_half⟩) (hN : T "_law_numbers" = some ⟨1, 4, b_numbers⟩) (hS : T "_law_sums" = some ⟨1, 6, b_sums⟩) (hT : T "_law_is_more_even" = some ⟨2, 6, b_lmore⟩) {k : Nat} {S : Store} {f g m : Nat} {ns ms : List Int} (n0 : ns ≠ []) (m0 : ms ≠ []) (h1 : ∀ x ∈ ns, Sz m x) (h2 : ∀ x ∈ ms, Sz m x) (hf : f ≤ 1500) (hg : g ≤ 1500) (h3 : m ≤ 200000) (h4 : ns.length < 64) (h5 : ms.length < 64) :
    Rw (callF G T (k + 3) "_law_is_more_even" [.tup (plD f ns), .tup (plD g ms)] S) fun d S' => d = .bl (moreE (upF f ns) (upF g ms)) ∧ Grow S S' := by
  refine Rw_call hT rfl ?_
  show Ow (exec G _ b_lmore [.val (.tup (plD f ns)), .val (.tup (plD g ms)), .no, .no, .no, .no] S) _
  unfold b_lmore
  have kt1 : callF G T (k + 2) "_law_sums" [.tup (plD f ns)] S = .ok (.tup (plD f (tpD ns))) (S ++ [.lst ((wh f ns).map .int)]) := sums hH hN hS h1 (by omega) (by omega) h4
  have kt2 : ∀ S, callF G T (k + 2) "_law_sums" [.tup (plD g ms)] S = .ok (.tup (plD g (tpD ms))) (S ++ [.lst ((wh g ms).map .int)]) := fun S => sums hH hN hS h2 (by omega) (by omega) h5
  have l1 := List.length_pos_iff.mpr n0
  have l2 := List.length_pos_iff.mpr m0
  have hl1 : (plD f (tpD ns)).length = ns.length := by rw [plD_len, tpD_len]
  have hl2 : (plD g (tpD ms)).length = ms.length := by rw [plD_len, tpD_len]
  obtain ⟨SX, hSX, gX⟩ : ∃ SX, SX = (S ++ [Cell.lst ((wh f ns).map .int)]) ++ [Cell.lst ((wh g ms).map .int)] ∧ Grow S SX := ⟨_, rfl, Grow.app.trans Grow.app⟩
  have kt2' := kt2 (S ++ [Cell.lst ((wh f ns).map .int)])
  rw [← hSX] at kt2'
  by_cases hlen : ns.length = ms.length
  · have hlen' : ((ns.length : Int) = (ms.length : Int)) := by omega
    have em : moreE (upF f ns) (upF g ms) = (decide (ns.sum * 2 ^ (1500 - f) = ms.sum * 2 ^ (1500 - g)) && !((List.range ns.length).any fun k => decide ((tpD ms).getD k 0 * 2 ^ (1500 - g) < (tpD ns).getD k 0 * 2 ^ (1500 - f)))) := by
      unfold moreE
      rw [upF_len, upF_len, decide_eq_true hlen, Bool.true_and, upF_sum, upF_sum, tpD_up, tpD_up]
      simp only [upF_getD]
    have i1 : ∀ S, ixD (.tup (plD f (tpD ns))) (.int (-1)) S = .ok (hD (lo f ns.sum)) S := fun S => by
      rw [ix_plM (by rw [tpD_len]; exact l1), tpD_len, tpD_last l1]
    have i2 : ∀ S, ixD (.tup (plD g (tpD ms))) (.int (-1)) S = .ok (hD (lo g ms.sum)) S := fun S => by
      rw [ix_plM (by rw [tpD_len]; exact l2), tpD_len, tpD_last l2]
    have z1 := tpD_sz h1 (by omega)
    have z2 := tpD_sz h2 (by omega)
    have t1 : (tpD ns).length = ns.length := tpD_len
    have t2 : (tpD ms).length = ms.length := tpD_len
    rw [em]
    generalize tpD ns = ps at *
    generalize tpD ms = qs at *
    have ec : ∀ S, cmpD .NotEq (hD (lo f ns.sum)) (hD (lo g ms.sum)) S = .ok (.bl (!decide (ns.sum * 2 ^ (1500 - f) = ms.sum * 2 ^ (1500 - g)))) S := fun S => ne_hh hf hg
    generalize hE : decide (ns.sum * 2 ^ (1500 - f) = ms.sum * 2 ^ (1500 - g)) = be at *
    rwa [kt1, kt2', setPar, hl1, hl2, hlen', i1, i2, ec] at ⊢
    cases be with
    | false =>
      rwa [] at ⊢
      exact ⟨rfl, gX⟩
    | true =>
      rwa [] at ⊢
      have ez : zipD (plD f ps) (plD g qs) = (List.range ps.length).map fun (i : Nat) => D.tup [hD (lo f (ps.getD i 0)), hD (lo g (qs.getD i 0))] := by
        have : ∀ (ps qs : List Int), ps.length = qs.length → zipD (plD f ps) (plD g qs) = (ps.zip qs).map fun p => D.tup [hD (lo f p.1), hD (lo g p.2)] := by
          intro ps
          induction ps with
          | nil => intro qs h; simp [plD, zipD]
          | cons a ps ih =>
            intro qs h
            cases qs with
            | nil => simp at h
            | cons b qs =>
              have := ih qs (by simpa using h)
              unfold plD at this ⊢
              rw [List.map_cons, List.map_cons, zipD, this, List.zip_cons_cons, List.map_cons]
        rw [this ps qs (by omega)]
        apply List.ext_getElem
        · simp; omega
        · intro i g1 g2
          have hi : i < ps.length := by simpa using g2
          have hi2 : i < qs.length := by omega
          have e1 : ps.getD i 0 = ps[i] := by rw [List.getD_eq_getElem?_getD, List.getElem?_eq_getElem hi]; rfl
          have e2 : qs.getD i 0 = qs[i] := by rw [List.getD_eq_getElem?_getD, List.getElem?_eq_getElem hi2]; rfl
          rw [List.getElem_map, List.getElem_map, List.getElem_zip, List.getElem_range, e1, e2]
      rw [ez]
      refine Rw.eq (comp_ones (ds := List.range ps.length) (fun (i : Nat) => D.tup [hD (lo f (ps.getD i 0)), hD (lo g (qs.getD i 0))]) (fun i => decide (qs.getD i 0 * 2 ^ (1500 - g) < ps.getD i 0 * 2 ^ (1500 - f))) (fun i hi => Rw.toEq ?_) (by rw [List.length_range]; omega)) ?_
      · have hi := List.mem_range.mp hi
        have y1 : Sz (m + 7) (qs.getD i 0) := by
          rcases getD_mem (ns := qs) (i := i) with q | q
          · rw [q]; exact Sz.zero
          · exact z2 _ q
        have y2 : Sz (m + 7) (ps.getD i 0) := by
          rcases getD_mem (ns := ps) (i := i) with q | q
          · rw [q]; exact Sz.zero
          · exact z1 _ q
        have la := lo_spec f (ps.getD i 0)
        have lb := lo_spec g (qs.getD i 0)
        have e1 : ps.getD i 0 * 2 ^ (1500 - f) = (lo f (ps.getD i 0)).1 * 2 ^ (1500 - (lo f (ps.getD i 0)).2) := by
          conv => lhs; rw [la.2.1]
          rw [Int.mul_assoc, ← Int.pow_add]
          congr 2
          have := la.1
          omega
        have e2 : qs.getD i 0 * 2 ^ (1500 - g) = (lo g (qs.getD i 0)).1 * 2 ^ (1500 - (lo g (qs.getD i 0)).2) := by
          conv => lhs; rw [lb.2.1]
          rw [Int.mul_assoc, ← Int.pow_add]
          congr 2
          have := lb.1
          omega
        have q1 := la.1
        have q2 := lb.1
        have sa := y2.lo (f := f)
        have sb := y1.lo (f := g)
        rw [e1, e2]
        generalize lo f (ps.getD i 0) = p at *
        generalize lo g (qs.getD i 0) = r at *
        obtain ⟨p1, p2⟩ := p
        obtain ⟨r1, r2⟩ := r
        simp only at q1 q2 sa sb
        have ed : decide (r1 * 2 ^ (1500 - r2) < p1 * 2 ^ (1500 - p2)) = decide (r1 * 2 ^ p2 < p1 * 2 ^ r2) := by
          rw [lt_scale (a := r1 * 2 ^ (1500 - r2)) (c := 2 ^ (p2 + r2)) (Int.pow_pos (by omega)), lt_scale (a := r1 * 2 ^ p2) (c := 2 ^ 1500) (Int.pow_pos (by omega))]
          have x1 : r1 * 2 ^ (1500 - r2) * 2 ^ (p2 + r2) = r1 * 2 ^ p2 * 2 ^ 1500 := by
            rw [Int.mul_assoc, ← Int.pow_add, Int.mul_assoc, ← Int.pow_add]; congr 2; omega
          have x2 : p1 * 2 ^ (1500 - p2) * 2 ^ (p2 + r2) = p1 * 2 ^ r2 * 2 ^ 1500 := by
            rw [Int.mul_assoc, ← Int.pow_add, Int.mul_assoc, ← Int.pow_add]; congr 2; omega
          rw [x1, x2]
        have sh : ∀ (j : Nat) S, j ≤ 90000 → binD .LShift (.int 1) (.int (j : Int)) S = .ok (.int (2 ^ j)) S := fun j S hj => by
          rw [shlX (m := 1) (a := 1) (by unfold Sz; decide) (by omega), Int.one_mul]
        have szp : ∀ j : Nat, Sz (j + 1) ((2 : Int) ^ j) := fun j => by
          unfold Sz
          rw [Int.natAbs_pow]
          exact Nat.pow_lt_pow_right (by omega) (by omega)
        have w1 : ∀ S, binD .LShift (.int 1) (.int (r2 : Int)) S = .ok (.int (2 ^ r2)) S := fun S => sh r2 S (by omega)
        have w2 : ∀ S, binD .LShift (.int 1) (.int (p2 : Int)) S = .ok (.int (2 ^ p2)) S := fun S => sh p2 S (by omega)
        have w3 : ∀ S, binD .Mult (.int p1) (.int (2 ^ r2)) S = .ok (.int (p1 * 2 ^ r2)) S := fun S => mulX sa (szp _) (by omega)
        have w4 : ∀ S, binD .Mult (.int r1) (.int (2 ^ p2)) S = .ok (.int (r1 * 2 ^ p2)) S := fun S => mulX sb (szp _) (by omega)
        simp only [ed]
        generalize r1 * 2 ^ p2 = u at *
        generalize p1 * 2 ^ r2 = w at *
        generalize (2 : Int) ^ p2 = c1 at *
        generalize (2 : Int) ^ r2 = c2 at *
        unfold hD
        by_cases hlt : u < w
        · have hlt' : w > u := hlt
          rwa [w1, w2, w3, w4, hlt, hlt'] at ⊢
        · have hlt' : ¬ w > u := hlt
          rwa [w1, w2, w3, w4, hlt, hlt'] at ⊢
      · rw [eq_ones]
        rwa [] at ⊢
        have e6 : ((List.range ps.length).any fun i => decide (qs.getD i 0 * 2 ^ (1500 - g) < ps.getD i 0 * 2 ^ (1500 - f))) = (List.range ns.length).any fun k => decide (qs.getD k 0 * 2 ^ (1500 - g) < ps.getD k 0 * 2 ^ (1500 - f)) := by rw [t1]
        rw [e6]
        refine ⟨?_, gX⟩
        cases (List.range ns.length).any fun k => decide (qs.getD k 0 * 2 ^ (1500 - g) < ps.getD k 0 * 2 ^ (1500 - f)) <;> rfl
  · have hlen' : ¬ ((ns.length : Int) = (ms.length : Int)) := by omega
    have em : moreE (upF f ns) (upF g ms) = false := by
      unfold moreE
      rw [upF_len, upF_len, decide_eq_false hlen, Bool.false_and]
    rwa [kt1, kt2', setPar, hl1, hl2, hlen'] at ⊢
    exact ⟨congrArg D.bl em.symm, gX⟩
end N
end IL
namespace IL.k48
open PySem PySem.Spec PyProof.Rows L2 IL
theorem t_half : T "half" = some ⟨2, 2, IL.H.b_half⟩ := rfl
theorem t_in_parts : T "in_parts" = some ⟨2, 2, IL.H.b_in_parts⟩ := rfl
theorem t_is_less : T "is_less" = some ⟨2, 3, IL.H.b_is_less⟩ := rfl
theorem t_whole : T "whole" = some ⟨1, 3, IL.H.b_whole⟩ := rfl
theorem t_tops : T "tops" = some ⟨1, 6, IL.H.b_tops⟩ := rfl
theorem t_more_even : T "more_even" = some ⟨2, 6, IL.H.b_more_even⟩ := rfl
theorem t__law_deck : T "_law_deck" = some ⟨1, 4, IL.B.b_deck 15748⟩ := rfl
theorem t__law_deck_2 : T "_law_deck" = some ⟨1, 4, IL.N.b_deck 15748⟩ := rfl
theorem t__law_draw : T "_law_draw" = some ⟨2, 4, IL.B.b_draw⟩ := rfl
theorem t__law_draw_2 : T "_law_draw" = some ⟨2, 4, IL.N.b_draw⟩ := rfl
theorem t__law_pick_2 : T "_law_pick" = some ⟨2, 2, IL.B.b_pick⟩ := rfl
theorem t__law_pick_4 : T "_law_pick" = some ⟨2, 2, IL.N.b_pick⟩ := rfl
theorem t__law_mixed_up_3 : T "_law_mixed_up" = some ⟨2, 4, IL.N.b_mixed⟩ := rfl
theorem t__law_half : T "_law_half" = some ⟨2, 2, IL.N.b_half⟩ := rfl
theorem t__law_numbers : T "_law_numbers" = some ⟨1, 4, IL.N.b_numbers⟩ := rfl
theorem t__law_ran : T "_law_ran" = some ⟨2, 8, IL.N.b_ran⟩ := rfl
theorem t__law_strength : T "_law_strength" = some ⟨2, 3, IL.N.b_strength⟩ := rfl
theorem t__law_plate : T "_law_plate" = some ⟨3, 7, IL.N.b_plate⟩ := rfl
theorem t__law_row_2 : T "_law_row" = some ⟨3, 6, IL.N.b_row⟩ := rfl
theorem t__law_sums : T "_law_sums" = some ⟨1, 6, IL.N.b_sums⟩ := rfl
theorem t__law_is_more_even : T "_law_is_more_even" = some ⟨2, 6, IL.N.b_lmore⟩ := rfl
def r_draw := @IL.B.draw G T t__law_draw
def r_pick := @IL.B.pick G T t__law_draw t__law_pick_2
def r_jar := @IL.B.jar G T _ t__law_deck
def r_half := @IL.H.half G T t_half
def r_in_parts := @IL.H.in_parts G T t_in_parts
def r_whole := @IL.H.whole G T t_in_parts t_whole
def r_N_draw := @IL.N.draw G T t__law_draw_2
def r_N_pick := @IL.N.pick G T t__law_draw_2 t__law_pick_4
def r_N_jar := @IL.N.jar G T _ t__law_deck_2
def r_mixed := @IL.N.mixed G T t__law_draw_2 t__law_mixed_up_3
def r_N_half := @IL.N.half G T t__law_half
def r_numbers := @IL.N.numbers G T t__law_numbers
def r_ran := @IL.N.ran G T t__law_half t__law_numbers t__law_ran
def r_strength := @IL.N.strength G T t__law_draw_2 t__law_pick_4 t__law_half t__law_strength
def r_plate := @IL.N.plate G T t__law_draw_2 t__law_pick_4 t__law_mixed_up_3 t__law_half t__law_strength t__law_plate
def r_row := @IL.N.row G T t__law_draw_2 t__law_row_2
def r_is_less := @IL.H.is_less G T t_in_parts t_is_less
def r_tops := @IL.H.tops G T t_half t_in_parts t_whole t_tops
def r_more_even := @IL.H.more_even G T t_half t_in_parts t_whole t_is_less t_tops t_more_even
def r_sums := @IL.N.sums G T t__law_half t__law_numbers t__law_sums
def r_lmore := @IL.N.lmore G T t__law_half t__law_numbers t__law_sums t__law_is_more_even
end IL.k48
namespace IL.k48
open PySem PySem.Spec PyProof.Rows L2 IL
theorem nat_of {j n : Int} (h0 : 0 ≤ j) (h1 : j < n) : ∃ i : Nat, j = (i : Int) ∧ i < n.toNat := ⟨j.toNat, by omega, by omega⟩
def Pt (F m n : Nat) (d : D) : Prop := ∃ (f : Nat) (ns : List Int), d = .tup (plD f ns) ∧ 40 ≤ f ∧ f ≤ F ∧ ns.length = n ∧ ∀ x ∈ ns, 0 ≤ x ∧ Sz m x
theorem Pt.mono {F m F' m' n : Nat} {d : D} (h : Pt F m n d) (h1 : F ≤ F') (h2 : m ≤ m') : Pt F' m' n d := by
  obtain ⟨f, ns, rfl, a, b, c, e⟩ := h
  exact ⟨f, ns, rfl, a, by omega, c, fun x hx => ⟨(e x hx).1, (e x hx).2.mono h2⟩⟩
/-! shown -/
theorem sh_hDL {f : Nat} {a : Int} (h : Sz 1400 a) (hf : f ≤ 90000) : Sh 900 1 (hD (lo f a)) := by
  have p : (2 : Nat) ^ 1400 ≤ 10 ^ 430 := by decide +kernel
  have q := (lo_spec f a).1
  have s1 : Sh 431 0 (.int (lo f a).1) := Sh.int (k := 430) (by omega) (by omega) (Nat.lt_of_lt_of_le h.lo p)
  have s2 : Sh 431 0 (.int (lo f a).2) := (Sh.int (k := 10) (by omega) (by omega) (by omega)).mono (by omega) (by omega)
  unfold hD
  refine (Sh.tup (n := 431) (m := 0) fun x hx => ?_).mono (by simp) (by omega)
  simp only [List.mem_cons, List.not_mem_nil, or_false] at hx
  rcases hx with rfl | rfl
  · exact s1
  · exact s2
theorem sh_plDL {f : Nat} {ns : List Int} (h : ∀ x ∈ ns, Sz 1400 x) (hf : f ≤ 90000) (hl : ns.length ≤ 20) : Sh 20000 2 (.tup (plD f ns)) := by
  refine (Sh.tup (n := 900) (m := 1) fun x hx => ?_).mono (by rw [plD_len]; omega) (by omega)
  obtain ⟨a, ha, rfl⟩ := List.mem_map.mp hx
  exact sh_hDL (h a ha) hf
theorem rp_2 {a b : D} (h1 : Sh 20000 2 a) (h2 : Sh 20000 2 b) : Rp (.lst [a, b]) := by
  refine rp_lst (n := 20000) (m := 2) (fun x hx => ?_) (by simp) (by omega)
  simp only [List.mem_cons, List.not_mem_nil, or_false] at hx
  rcases hx with rfl | rfl
  · exact h1
  · exact h2
/-! sorted, as pairs -/
def prs (f : Nat) (ns : List Int) : List (Int × Int) := ns.map fun a => ((lo f a).1, (((lo f a).2 : Nat) : Int))
theorem pairs_pl {f : Nat} : ∀ {ns : List Int}, pairsD (plD f ns) = some (prs f ns)
  | [] => rfl
  | a :: ns => by
    show (match pairsD (plD f ns) with | some is => some (((lo f a).1, (((lo f a).2 : Nat) : Int)) :: is) | none => none) = _
    rw [pairs_pl]
    rfl
theorem sortPl {f : Nat} {ns : List Int} {S : Store} (h0 : ns ≠ []) : b1D .sorted (.tup (plD f ns)) S = .ok (.lst ((srtP (prs f ns)).map pairT)) S := by
  show (match (some (plD f ns)).bind intsD with | some ns => if ns.length < 64 then R.ok (D.lst ((srt ns).map .int)) S else .bad | none => match pairsD (plD f ns) with | some ps => R.ok (D.lst ((srtP ps).map pairT)) S | none => .bad) = _
  rw [Option.bind_some]
  match ns, h0 with
  | a :: r, _ =>
    have e : intsD (plD f (a :: r)) = none := rfl
    rw [e]
    simp only [pairs_pl]
theorem srtP_perm {a b : List (Int × Int)} : srtP a = srtP b ↔ a.Perm b := by
  have tr : ∀ a b c : Int × Int, leP a b = true → leP b c = true → leP a c = true := fun a b c h1 h2 => by unfold leP at *; simp only [decide_eq_true_eq] at *; omega
  have tt : ∀ a b : Int × Int, (leP a b || leP b a) = true := fun a b => by unfold leP; simp only [Bool.or_eq_true, decide_eq_true_eq]; omega
  constructor
  · intro h
    have h1 : (srtP a).Perm a := List.mergeSort_perm a _
    rw [h] at h1
    exact h1.symm.trans (List.mergeSort_perm b _)
  · intro p
    have h1 : (srtP a).Pairwise (fun p q => leP p q = true) := List.pairwise_mergeSort tr tt a
    have h2 : (srtP b).Pairwise (fun p q => leP p q = true) := List.pairwise_mergeSort tr tt b
    have h3 : (srtP a).Perm (srtP b) := (List.mergeSort_perm a _).trans (p.trans (List.mergeSort_perm b _).symm)
    refine h3.eq_of_pairwise (fun x y _ _ hx hy => ?_) h1 h2
    unfold leP at hx hy
    simp only [decide_eq_true_eq] at hx hy
    exact Prod.ext (by omega) (by omega)
theorem prs_up {f : Nat} {ns : List Int} (h : f ≤ 1500) : prs f ns = (upF f ns).map fun x => ((lo 1500 x).1, (((lo 1500 x).2 : Nat) : Int)) := by
  unfold prs upF
  rw [List.map_map]
  refine List.map_congr_left fun a _ => ?_
  show _ = ((lo 1500 (a * 2 ^ (1500 - f))).1, (((lo 1500 (a * 2 ^ (1500 - f))).2 : Nat) : Int))
  rw [lo_upF h]
theorem prs_back {l : List Int} : (l.map fun x => ((lo 1500 x).1, (((lo 1500 x).2 : Nat) : Int))).map (fun p : Int × Int => p.1 * 2 ^ (1500 - p.2.toNat)) = l := by
  rw [List.map_map]
  conv => rhs; rw [← List.map_id l]
  refine List.map_congr_left fun x _ => ?_
  show (lo 1500 x).1 * 2 ^ (1500 - (((lo 1500 x).2 : Nat) : Int).toNat) = x
  rw [Int.toNat_natCast]
  exact (lo_spec 1500 x).2.1.symm
theorem prs_perm {f g : Nat} {ns ms : List Int} (hf : f ≤ 1500) (hg : g ≤ 1500) : srtP (prs f ns) = srtP (prs g ms) ↔ (upF f ns).Perm (upF g ms) := by
  rw [srtP_perm, prs_up hf, prs_up hg]
  constructor
  · intro h
    have := h.map (fun p : Int × Int => p.1 * 2 ^ (1500 - p.2.toNat))
    rw [prs_back, prs_back] at this
    exact this
  · exact fun h => h.map _
theorem cm_pairs {l : List (Int × Int)} : Cm 2 (.lst (l.map pairT)) := Cm.lst fun x hx => by
  obtain ⟨a, _, rfl⟩ := List.mem_map.mp hx
  refine Cm.tup fun x hx => ?_
  simp only [List.mem_cons, List.not_mem_nil, or_false] at hx
  rcases hx with rfl | rfl <;> exact Cm.int
theorem pairT_inj {a b : List (Int × Int)} (h : a.map pairT = b.map pairT) : a = b := by
  have e : ∀ l : List (Int × Int), (l.map pairT).map (fun d => match d with | .tup [.int i, .int j] => (i, j) | _ => (0, 0)) = l := fun l => by
    rw [List.map_map]
    conv => rhs; rw [← List.map_id l]
    exact List.map_congr_left fun x _ => rfl
  rw [← e a, h, e b]
theorem eqSorted {f g : Nat} {ns ms : List Int} {S : Store} (hf : f ≤ 1500) (hg : g ≤ 1500) : cmpD .Eq (.lst ((srtP (prs f ns)).map pairT)) (.lst ((srtP (prs g ms)).map pairT)) S = .ok (.bl (decide ((upF f ns).Perm (upF g ms)))) S := by
  have e : eqD (.lst ((srtP (prs f ns)).map pairT)) (.lst ((srtP (prs g ms)).map pairT)) S = some (decide ((upF f ns).Perm (upF g ms))) := eqD_cm cm_pairs cm_pairs (by omega) (by omega) (fun xs _ ys q => by cases q) (fun xs q => by cases q) _ (by
    rw [← prs_perm hf hg]
    constructor
    · intro h
      injection h with h
      exact pairT_inj h
    · intro h
      rw [h])
  show (match eqD (.lst ((srtP (prs f ns)).map pairT)) (.lst ((srtP (prs g ms)).map pairT)) S with | some c => R.ok (D.bl c) S | none => .bad) = _
  rw [e]
theorem neBl {b : Bool} {S : Store} : cmpD .NotEq (.bl b) (.bl b) S = .ok (.bl false) S := by cases b <;> rfl
/-! told -/
theorem more {k : Nat} {S : Store} {f g m : Nat} {ns ms : List Int} (n0 : ns ≠ []) (m0 : ms ≠ []) (h1 : ∀ x ∈ ns, Sz m x) (h2 : ∀ x ∈ ms, Sz m x) (hf : f ≤ 1500) (hg : g ≤ 1500) (h3 : m ≤ 200000) (h4 : ns.length < 64) (h5 : ms.length < 64) :
    callF G T (k + 4) "more_even" [.tup (plD f ns), .tup (plD g ms)] S = .ok (.bl (moreE (upF f ns) (upF g ms))) S := r_more_even n0 m0 h1 h2 hf hg h3 h4 h5
set_option maxHeartbeats 0 in
theorem told {k : Nat} {S : Store} {F m a b : Nat} {x y : D} {nm : Bool} (hx : Pt F m a x) (hy : Pt F m b y) (hF : F ≤ 1450) (hm : m ≤ 1380) (ha : 1 ≤ a) (ha2 : a ≤ 16) (hb : 1 ≤ b) (hb2 : b ≤ 16) :
    Rw (callF G T (k + 5) "_law_is_told" [x, y, .bl nm] S) fun d S' => d = .bl true ∧ Grow S S' := by
  obtain ⟨f, ns, rfl, f0, f1, nl, nI⟩ := hx
  obtain ⟨g, ms, rfl, g0, g1, ml, mI⟩ := hy
  have n0 : ns ≠ [] := fun q => by rw [q] at nl; simp at nl; omega
  have m0 : ms ≠ [] := fun q => by rw [q] at ml; simp at ml; omega
  have nS : ∀ x ∈ ns, Sz m x := fun x hx => (nI x hx).2
  have mS : ∀ x ∈ ms, Sz m x := fun x hx => (mI x hx).2
  refine Rw_call T__law_is_told rfl ?_
  show Ow (exec G _ b__law_is_told [.val (.tup (plD f ns)), .val (.tup (plD g ms)), .val (.bl nm), .no, .no, .no] S) _
  unfold b__law_is_told
  have k1 : ∀ S, callF G T (k + 4) "tops" [.tup (plD f ns)] S = .ok (.tup (plD f (tpD ns))) S := fun S => r_tops (k := k + 1) n0 nS (by omega) (by omega) (by omega)
  have k2 : ∀ S, callF G T (k + 4) "more_even" [.tup (plD f ns), .tup (plD g ms)] S = .ok (.bl (moreE (upF f ns) (upF g ms))) S := fun S => more n0 m0 nS mS (by omega) (by omega) (by omega) (by omega) (by omega)
  have k3 : ∀ S, callF G T (k + 4) "more_even" [.tup (plD g ms), .tup (plD f ns)] S = .ok (.bl (moreE (upF g ms) (upF f ns))) S := fun S => more m0 n0 mS nS (by omega) (by omega) (by omega) (by omega) (by omega)
  have k4 : ∀ S, callF G T (k + 4) "_law_sums" [.tup (plD f ns)] S = .ok (.tup (plD f (tpD ns))) (S ++ [.lst ((wh f ns).map .int)]) := fun S => r_sums (k := k + 2) nS (by omega) (by omega) (by omega)
  have s1 := sh_plDL (f := f) (ns := ns) (fun x hx => (nS x hx).mono (by omega)) (by omega) (by omega)
  have s2 := sh_plDL (f := g) (ns := ms) (fun x hx => (mS x hx).mono (by omega)) (by omega) (by omega)
  have s3 := sh_plDL (f := f) (ns := tpD ns) (fun x hx => (tpD_sz nS (by omega) x hx).mono (by omega)) (by omega) (by rw [tpD_len]; omega)
  obtain ⟨x1, hx1⟩ := rp_2 s1 s2
  obtain ⟨x2, hx2⟩ := rp_2 s3 ((Sh.bl (moreE (upF f ns) (upF g ms))).mono (by omega) (by omega))
  obtain ⟨x3, hx3⟩ := (Sh.bl (moreE (upF g ms) (upF f ns))).rp (by omega) (by omega)
  have kp1 : ∀ a : D, permD [0] [a] = [a] := fun _ => rfl
  have kp2 : ∀ a b : D, permD [1, 0] [a, b] = [b, a] := fun _ _ => rfl
  have lm1 : ∀ S, Rw (callF G T (k + 4) "_law_is_more_even" [.tup (plD f ns), .tup (plD g ms)] S) fun d S' => d = .bl (moreE (upF f ns) (upF g ms)) ∧ Grow S S' := fun S => r_lmore (k := k + 1) n0 m0 nS mS (by omega) (by omega) (by omega) (by omega) (by omega)
  have lm2 : ∀ S, Rw (callF G T (k + 4) "_law_is_more_even" [.tup (plD g ms), .tup (plD f ns)] S) fun d S' => d = .bl (moreE (upF g ms) (upF f ns)) ∧ Grow S S' := fun S => r_lmore (k := k + 1) m0 n0 mS nS (by omega) (by omega) (by omega) (by omega) (by omega)
  generalize moreE (upF f ns) (upF g ms) = b1 at *
  generalize moreE (upF g ms) (upF f ns) = b2 at *
  rwa [hx1] at ⊢
  refine Rw.mono (Q1 := fun d S' => d = .lst [.tup (plD f (tpD ns)), .bl b1] ∧ S' = S) ?_ ?_
  · cases nm with
    | true => rwa [kp1, kp2, k1, k2] at ⊢
    | false => rwa [k1, k2] at ⊢
  rintro d S' ⟨rfl, rfl⟩
  rwa [k4] at ⊢
  refine Rw.mono (lm1 _) ?_
  rintro d S1 ⟨rfl, g1'⟩
  rwa [hx2, k3, hx3] at ⊢
  refine Rw.mono (lm2 _) ?_
  rintro d S2 ⟨rfl, g2'⟩
  rwa [hx3, k1, k2, hx2, hx1] at ⊢
  exact (Grow.app.trans g1').trans g2'
end IL.k48
namespace IL.k48
open PySem PySem.Spec PyProof.Rows L2 IL
theorem cutP {f : Nat} {lo' hi : Option Int} {r : List Int} : cut (plD f r) lo' hi = plD f (cut r lo' hi) := cut_map _ _ _ _
theorem plD_ap {f : Nat} {a b : List Int} : plD f (a ++ b) = plD f a ++ plD f b := List.map_append ..
theorem s40_at {d : D} (h : IsS40 d) {f : Nat} (hf : 40 ≤ f) : ∃ z : Int, d = hD (lo f z) ∧ 0 ≤ z ∧ Sz (100 + (f - 40)) z := by
  obtain ⟨z, rfl, z0, z1⟩ := h
  refine ⟨z * 2 ^ (f - 40), ?_, Int.mul_nonneg z0 (Int.le_of_lt (Int.pow_pos (by omega))), ?_⟩
  · have := lo_pow (f := 40) (a := z) (f - 40)
    rw [show 40 + (f - 40) = f by omega] at this
    rw [this]
  · unfold Sz at *
    rw [Int.natAbs_mul, Int.natAbs_pow, Nat.pow_add]
    exact Nat.mul_lt_mul_of_pos_right z1 (Nat.two_pow_pos _)
theorem pos_wh {f : Nat} {ns : List Int} (h : ∀ x ∈ ns, 0 ≤ x) : ∀ x ∈ wh f ns, 0 ≤ x := fun x hx => by
  have hb := wh_map (f := f) (ns := ns)
  have : x * 2 ^ (f - top f ns) ∈ (wh f ns).map (· * 2 ^ (f - top f ns)) := List.mem_map.mpr ⟨x, hx, rfl⟩
  rw [hb] at this
  have h2 := h _ this
  have hp : (0 : Int) < 2 ^ (f - top f ns) := Int.pow_pos (by omega)
  exact Int.nonneg_of_mul_nonneg_left h2 hp
theorem sum_mem {l : List Int} {x : Int} (h : x ∈ l) (h1 : ∀ y ∈ l, y ≤ maxI l) : x ≤ maxI l := h1 x h
/-- lifted to forty halvings -/
theorem lift40 {f : Nat} {ns : List Int} (hf : f ≤ 40) : plD f ns = plD 40 (ns.map (· * 2 ^ (40 - f))) := by
  have := plD_mul (f := f) (d := 40 - f) (ns := ns)
  rw [show f + (40 - f) = 40 by omega] at this
  exact this.symm
def Im (b : Bool) (P : Prop) : Prop := b = true → P
theorem Im.no {P : Prop} : Im false P := fun q => by cases q
theorem Im.yes {b : Bool} {P : Prop} (h : P) : Im b P := fun _ => h
theorem stepN_pos {ns : List Int} {ij : Nat × Nat} (h : ∀ x ∈ ns, 0 ≤ x) : ∀ x ∈ stepN ns ij, 0 ≤ x := by
  have hg : ∀ i, 0 ≤ ns.getD i 0 := fun i => by
    rcases getD_mem (ns := ns) (i := i) with q | q
    · omega
    · exact h _ q
  intro x hx
  have g1 := hg ij.1
  have g2 := hg ij.2
  unfold stepN at hx
  rcases mem_set hx with hx | rfl
  · rcases mem_set hx with hx | rfl
    · obtain ⟨y, hy, rfl⟩ := List.mem_map.mp hx
      have := h y hy
      show 0 ≤ 2 * y
      omega
    · omega
  · omega
theorem runN_pos : ∀ {row : List (Nat × Nat)} {ns : List Int}, (∀ x ∈ ns, 0 ≤ x) → ∀ x ∈ runN ns row, 0 ≤ x
  | [], _, h => h
  | ij :: row, ns, h => runN_pos (row := row) (stepN_pos (ij := ij) h)
set_option maxHeartbeats 0 in
theorem kin {k : Nat} {S : Store} {j f m F M n : Nat} {x : D} (hJ0 : N.Jar S j f m) (hx : Pt F M n x) (hm : m < 500000) (h0 : 1 ≤ n) (h1 : n ≤ 16) (hF : 86 ≤ F) (hM : 200 ≤ M) (hF2 : F ≤ 120) (hM2 : M ≤ 300) :
    Rw (callF G T (k + 6) "_law_kin" [.ref j, x] S) fun d S' => (∃ n' : Nat, Pt (F + 4) (M + 4) n' d ∧ 1 ≤ n' ∧ n' ≤ 16) ∧ N.Jar S' j f (m + 40) := by
  obtain ⟨e, ns, rfl, e0, e1, nl, nI⟩ := hx
  have n0 : ns ≠ [] := fun q => by rw [q] at nl; simp at nl; omega
  have nS : ∀ x ∈ ns, Sz M x := fun x hx => (nI x hx).2
  have hpl : (plD e ns).length = n := by rw [plD_len, nl]
  refine Rw_call T__law_kin rfl ?_
  show Ow (exec G _ b__law_kin [.val (.ref j), .val (.tup (plD e ns)), .no, .no, .no, .no, .no, .no, .no, .no, .no, .no] S) _
  unfold b__law_kin
  rwa [hpl] at ⊢
  refine Rw.mono (r_N_draw hJ0 (by omega) (by omega) (by omega)) ?_
  rintro d S1 ⟨sh, rfl, sh0, sh1, hJ1, _⟩
  rwa [setPar] at ⊢
  refine if_p (fun hq => ?_) (fun hq => ?_)
  · rwa [ev_lstT] at ⊢
    refine Rw.mono (r_mixed (k := k + 3) hJ1 (.inl rfl) (by rw [hpl]; omega) (by rw [hpl]; omega)) ?_
    rintro d S2 ⟨⟨ys, rfl, hp⟩, hJ2, _⟩
    obtain ⟨zs, hz, rfl⟩ := perm_map_inv hp ns rfl
    rwa [ev_tupL] at ⊢
    exact ⟨⟨n, ⟨e, zs, rfl, e0, by omega, by rw [hz.length_eq, nl], fun x hx => ⟨(nI x (hz.mem_iff.mp hx)).1, (nS x (hz.mem_iff.mp hx)).mono (by omega)⟩⟩, h0, h1⟩, N.jar_grow hJ2 (by rw [hpl]; omega)⟩
  refine sx_nop (sx_sq (sx_ife ?_))
  refine Rw.mono (Q1 := fun (b : Bool) S' => Im b (2 ≤ n) ∧ S' = S1) ?_ ?_
  · rwa [] at ⊢
    refine Rw_if (fun _ => ?_) (fun _ => ?_)
    · rwa [] at ⊢
      by_cases hn : 1 < n
      · have hn' : (n : Int) > 1 := by omega
        have hn'' : (1 : Int) < (n : Int) := by omega
        rwa [hn', hn''] at ⊢
        exact Im.yes (by omega)
      · have hn' : ¬ (n : Int) > 1 := by omega
        have hn'' : ¬ (1 : Int) < (n : Int) := by omega
        rwa [hn', hn''] at ⊢
        exact Im.no
    · rwa [] at ⊢
      exact Im.no
  rintro b S' ⟨hb, rfl⟩
  cases b with
  | true =>
    have hn2 := hb rfl
    rwa [] at ⊢
    refine Rw.mono (r_N_draw hJ1 (by omega) (by omega) (by omega)) ?_
    rintro d S2 ⟨c, rfl, c0, c1, hJ2, _⟩
    obtain ⟨w, hw⟩ : ∃ w : Nat, 1 + c = (w : Int) := ⟨(1 + c).toNat, by omega⟩
    rwa [hw] at ⊢
    refine Rw.mono (r_row (k := k + 3) hJ2 (by omega) (by omega) (by omega) (by omega)) ?_
    rintro d S3 ⟨⟨row, rfl, hU, hrl, _⟩, hJ3, _⟩
    rwa [] at ⊢
    refine Rw.mono (r_ran (k := k + 3) nS (by rw [nl]; exact hU.ok) (by omega) (by omega) (by omega)) ?_
    rintro d S4 ⟨rfl, g4⟩
    refine ⟨⟨n, ⟨_, _, rfl, by omega, by omega, by rw [runN_len, nl], fun x hx => ⟨?_, (runN_sz nS x hx).mono (by omega)⟩⟩, h0, h1⟩, N.jar_grow (N.jar_more hJ3 g4) (by omega)⟩
    exact runN_pos (fun x hx => (nI x hx).1) x hx
  | false =>
  clear hb
  have kn : callF G T (k + 5) "_law_numbers" [.tup (plD e ns)] S' = .ok (.tup [.ref S'.length, .int (top e ns : Nat)]) (S' ++ [.lst ((wh e ns).map .int)]) := r_numbers (k := k + 4) nS (by omega) (by omega) (by omega)
  have hwl : (wh e ns).length = n := by rw [wh_len, nl]
  have hw0 := pos_wh (f := e) (fun x hx => (nI x hx).1)
  have ht := top_le (f := e) (ns := ns)
  have hS : (S' ++ [Cell.lst ((wh e ns).map .int)])[S'.length]? = some (.lst ((wh e ns).map .int)) := new_here
  have hJ2 : N.Jar (S' ++ [Cell.lst ((wh e ns).map .int)]) j f (m + 1) := N.jar_app hJ1
  have hlt := N.jar_lt hJ1
  have hwne : wh e ns ≠ [] := wh_ne n0
  generalize wh e ns = ws at *
  generalize top e ns = o at *
  generalize hSX : S' ++ [Cell.lst (ws.map .int)] = SX at *
  rwa [kn] at ⊢
  refine Rw.mono (Q1 := fun (b : Bool) S2 => Im b (2 ≤ n ∧ maxI ws < 1000000) ∧ S2 = SX) ?_ ?_
  · refine Rw_if (fun _ => ?_) (fun _ => ?_)
    · rwa [] at ⊢
      by_cases hn : 1 < n
      · have hn' : (n : Int) > 1 := by omega
        have hn'' : (1 : Int) < (n : Int) := by omega
        have e6 : (10 : Int) ^ (6 : Int).toNat = 1000000 := by decide
        have em : b1D .max (.ref S'.length) SX = .ok (.int (maxI ws)) SX := by
          have h := maxL (S := SX) hwne
          have ei : itemsD (.ref S'.length) SX = some (ws.map .int) := by
            unfold itemsD
            simp only [hS]
          show (match (itemsD (.ref S'.length) SX).bind intsD with | some ns => if ns ≠ [] then R.ok (D.int (maxI ns)) SX else .bad | none => .bad) = _
          rw [ei, Option.bind_some, intsD_map]
          dsimp only
          rw [if_pos hwne]
        by_cases hmx : maxI ws < 1000000
        · rwa [hn', hn'', em, e6, hmx] at ⊢
          first | exact Im.yes ⟨by omega, hmx⟩ | exact Im.yes (by omega)
        · rwa [hn', hn'', em, e6, hmx] at ⊢
          exact Im.no
      · have hn' : ¬ (n : Int) > 1 := by omega
        have hn'' : ¬ (1 : Int) < (n : Int) := by omega
        rwa [hn', hn''] at ⊢
        exact Im.no
    · rwa [] at ⊢
      exact Im.no
  rintro b S2 ⟨hb, rfl⟩
  cases b with
  | true =>
    obtain ⟨hn2, hmx⟩ := hb rfl
    rwa [] at ⊢
    refine Rw.mono (r_row (k := k + 3) (many := 1) hJ2 (by omega) (by omega) (by omega) (by omega)) ?_
    rintro d S3 ⟨⟨row, rfl, hU, _, hrl⟩, hJ3, hK3⟩
    have hrl := hrl hn2
    obtain ⟨⟨i, j'⟩, rfl⟩ : ∃ q, row = [q] := by
      match row, hrl with
      | [q], _ => exact ⟨q, rfl⟩
    obtain ⟨hij, hjn⟩ := hU (i, j') (by simp)
    simp only at hij hjn
    have erow : rowD [(i, j')] = [.tup [.int (i : Int), .int (j' : Int)]] := rfl
    have hS3 : S3[S'.length]? = some (.lst (ws.map .int)) := (hK3.2 _ (by omega) (by omega)).trans hS
    have gi : ∀ {ms : List Int} {i : Nat}, i < ms.length → (ms.map D.int)[i]? = some (.int (ms.getD i 0)) := fun {ms i} h => by
      rw [List.getElem?_map, List.getElem?_eq_getElem h, List.getD_eq_getElem?_getD, List.getElem?_eq_getElem h]
      rfl
    have e1 := ixC hS3 (gi (ms := ws) (i := i) (by omega))
    rw [erow]
    rwa [e1] at ⊢
    have wi : ws.getD i 0 ∈ ws := by
      rw [List.getD_eq_getElem?_getD, List.getElem?_eq_getElem (by omega)]
      exact List.getElem_mem _
    have wi0 := hw0 _ wi
    have wi1 := (maxI_spec hwne).2 _ wi
    refine Rw.mono (r_N_draw hJ3 (by omega) (by omega) (by omega)) ?_
    rintro d S4 ⟨som, rfl, so0, so1, hJ4, hK4⟩
    have hS4 : S4[S'.length]? = some (.lst (ws.map .int)) := (hK4.2 _ (by omega) (by omega)).trans hS3
    have wj : ws.getD j' 0 ∈ ws := by
      rw [List.getD_eq_getElem?_getD, List.getElem?_eq_getElem (by omega)]
      exact List.getElem_mem _
    have wj0 := hw0 _ wj
    have wj1 := (maxI_spec hwne).2 _ wj
    have e2 := ixC hS4 (gi (ms := ws) (i := i) (by omega))
    have e3 := ixC hS4 (gi (ms := ws) (i := j') (by omega))
    have w1 := setC (i := i) (d := .int (ws.getD i 0 - som)) hS4 (by rw [List.length_map]; omega)
    have q2 := A.set_here (c' := .lst ((ws.map D.int).set i (.int (ws.getD i 0 - som)))) hS4
    have w2 := setC (i := j') (d := .int (ws.getD j' 0 + som)) q2 (by rw [List.length_set, List.length_map]; omega)
    have q3 := A.set_here (c' := .lst (((ws.map D.int).set i (.int (ws.getD i 0 - som))).set j' (.int (ws.getD j' 0 + som)))) q2
    have em : ((ws.map D.int).set i (.int (ws.getD i 0 - som))).set j' (.int (ws.getD j' 0 + som)) = ((ws.set i (ws.getD i 0 - som)).set j' (ws.getD j' 0 + som)).map .int := by rw [List.map_set, List.map_set]
    rw [em] at w2 q3
    have hml : ((ws.set i (ws.getD i 0 - som)).set j' (ws.getD j' 0 + som)).length = n := by rw [List.length_set, List.length_set, hwl]
    have hmI : ∀ x ∈ (ws.set i (ws.getD i 0 - som)).set j' (ws.getD j' 0 + som), 0 ≤ x ∧ x ≤ 2000000 := fun x hx => by
      rcases mem_set hx with hx | rfl
      · rcases mem_set hx with hx | rfl
        · have a1 := hw0 x hx
          have a2 := (maxI_spec hwne).2 x hx
          omega
        · omega
      · omega
    generalize ((ws.set i (ws.getD i 0 - som)).set j' (ws.getD j' 0 + som)) = zs at *
    obtain ⟨S5, hS5, hJ5⟩ : ∃ S5, S5 = ((S4.set S'.length (.lst ((ws.map D.int).set i (.int (ws.getD i 0 - som))))).set S'.length (.lst (zs.map .int))) ∧ N.Jar S5 j f (m + 1 + 2 * 1 + 1) := ⟨_, rfl, N.jar_set (N.jar_set hJ4 (by omega) (by omega)) (by omega) (by omega)⟩
    rw [← hS5] at w2 q3
    have hls := lsC q3
    rwa [e2, e3, w1, w2, hls] at ⊢
    refine Rw.eq (compC_ok (ds := zs) D.int (fun a => hD (lo o a)) q3 (fun a ha => ?_) (by omega)) ?_
    · have kh : ∀ S, callF G T (k + 5) "_law_half" [.int a, .int (o : Int)] S = .ok (hD (lo o a)) S := fun S => r_N_half
      refine Rw.toEq ?_
      rwa [kh] at ⊢
    have ep : (zs.map fun a => hD (lo o a)) = plD o zs := rfl
    rw [ep]
    rwa [ev_tupL] at ⊢
    have hSz : ∀ x ∈ zs, Sz 21 x := fun x hx => by
      have := hmI x hx
      have e21 : (2 : Nat) ^ 21 = 2097152 := by decide
      unfold Sz
      omega
    refine ⟨⟨n, ?_, h0, h1⟩, N.jar_grow hJ5 (by omega)⟩
    by_cases ho : o ≤ 40
    · refine ⟨40, _, congrArg D.tup (lift40 ho), by omega, by omega, by rw [List.length_map, hml], fun x hx => ?_⟩
      obtain ⟨y, hy, rfl⟩ := List.mem_map.mp hx
      refine ⟨Int.mul_nonneg (hmI y hy).1 (Int.le_of_lt (Int.pow_pos (by omega))), ?_⟩
      have h2 := hSz y hy
      have h3 : Sz (21 + (40 - o)) (y * 2 ^ (40 - o)) := by
        unfold Sz at *
        rw [Int.natAbs_mul, Int.natAbs_pow, Nat.pow_add]
        exact Nat.mul_lt_mul_of_pos_right h2 (Nat.two_pow_pos _)
      exact h3.mono (by omega)
    · exact ⟨o, zs, rfl, by omega, by omega, hml, fun x hx => ⟨(hmI x hx).1, (hSz x hx).mono (by omega)⟩⟩
  | false =>
    clear hb
    have hS40 : IsS40 (.tup [.int 0, .int 0]) := isS40 (g := 0) (x := 0) (by omega) (by omega) (by decide)
    rwa [] at ⊢
    refine if_p (fun _ => ?_) (fun _ => ?_)
    · rwa [] at ⊢
      refine Rw.mono (r_strength (k := k + 2) hJ2 (by omega)) ?_
      rintro d S3 ⟨hd, hJ3, _⟩
      rwa [] at ⊢
      refine Rw.mono (r_N_pick hJ3 (by omega) (by simp) (by simp)) ?_
      rintro d2 S4 ⟨hd2, hJ4, _⟩
      have h40 : IsS40 d2 := by
        simp only [List.mem_cons, List.not_mem_nil, or_false] at hd2
        rcases hd2 with rfl | rfl
        · exact hS40
        · exact hd
      obtain ⟨z, rfl, z0, z1⟩ := s40_at h40 e0
      have ea : ∀ S, binD .Add (.tup (plD e ns)) (.tup [hD (lo e z)]) S = .ok (.tup (plD e (ns ++ [z]))) S := fun S => by
        rw [addT (by rw [hpl]; simp; omega), plD_ap]; rfl
      have ec : cut (plD e ns) (some 1) none = plD e (ns.drop 1) := by
        rw [cut_from (by omega) (by rw [hpl]; omega)]
        unfold plD
        rw [List.map_drop]
        rfl
      rwa [ea] at ⊢
      refine Rw.mono (Q1 := fun (b : Bool) S' => Im b (n ≤ 15) ∧ Im (!b) (2 ≤ n) ∧ N.Jar S' j f (m + 20)) ?_ ?_
      · by_cases hn1 : n = 1
        · have hn1' : (n : Int) = 1 := by omega
          rwa [hn1'] at ⊢
          exact ⟨Im.yes (by omega), Im.no, N.jar_grow hJ4 (by omega)⟩
        · have hn1' : ¬ (n : Int) = 1 := by omega
          by_cases hn2 : n < 16
          · have hn2' : (n : Int) < 16 := by omega
            rwa [hn1', hn2'] at ⊢
            refine Rw.mono (r_N_draw hJ4 (by omega) (by omega) (by omega)) ?_
            rintro d S5 ⟨c, rfl, c0, c1, hJ5, _⟩
            rwa [] at ⊢
            exact ⟨Im.yes (by omega), Im.yes (by omega), N.jar_grow hJ5 (by omega)⟩
          · have hn2' : ¬ (n : Int) < 16 := by omega
            rwa [hn1', hn2'] at ⊢
            exact ⟨Im.no, Im.yes (by omega), N.jar_grow hJ4 (by omega)⟩
      rintro b S5 ⟨hb1, hb2, hJ5⟩
      cases b with
      | true =>
        have := hb1 rfl
        rwa [] at ⊢
        refine ⟨⟨n + 1, ⟨e, ns ++ [z], rfl, e0, by omega, by simp [nl], fun x hx => ?_⟩, by omega, by omega⟩, N.jar_grow hJ5 (by omega)⟩
        rcases List.mem_append.mp hx with hx | hx
        · exact ⟨(nI x hx).1, (nS x hx).mono (by omega)⟩
        · rw [List.mem_singleton.mp hx]; exact ⟨z0, z1.mono (by omega)⟩
      | false =>
        have := hb2 rfl
        rwa [sl_t, ec] at ⊢
        exact ⟨⟨n - 1, ⟨e, ns.drop 1, rfl, e0, by omega, by rw [List.length_drop, nl], fun x hx => ⟨(nI x (List.mem_of_mem_drop hx)).1, (nS x (List.mem_of_mem_drop hx)).mono (by omega)⟩⟩, by omega, by omega⟩, N.jar_grow hJ5 (by omega)⟩
    · rwa [] at ⊢
      refine Rw.mono (r_N_draw hJ2 (by omega) (by omega) (by omega)) ?_
      rintro d S3 ⟨s, rfl, s0, s1, hJ3, _⟩
      obtain ⟨s, rfl, hs⟩ := nat_of s0 s1
      have hs : s < n := by omega
      have c1 : cut (plD e ns) none (some (s : Int)) = plD e (ns.take s) := by
        rw [cut_to (by omega) (by rw [hpl]; omega), Int.toNat_natCast]
        unfold plD
        rw [List.map_take]
      rwa [sl_t, c1] at ⊢
      refine Rw.mono (r_strength (k := k + 2) hJ3 (by omega)) ?_
      rintro d S4 ⟨hd, hJ4, _⟩
      obtain ⟨z, rfl, z0, z1⟩ := s40_at hd e0
      have es : (s : Int) + 1 = ((s + 1 : Nat) : Int) := by omega
      have c2 : cut (plD e ns) (some ((s + 1 : Nat) : Int)) none = plD e (ns.drop (s + 1)) := by
        rw [cut_from (by omega) (by rw [hpl]; omega), Int.toNat_natCast]
        unfold plD
        rw [List.map_drop]
      have a1 : ∀ S, binD .Add (.tup (plD e (ns.take s))) (.tup [hD (lo e z)]) S = .ok (.tup (plD e (ns.take s ++ [z]))) S := fun S => by
        rw [addT (by rw [plD_len, List.length_take]; simp; omega), plD_ap]; rfl
      have a2 : ∀ S, binD .Add (.tup (plD e (ns.take s ++ [z]))) (.tup (plD e (ns.drop (s + 1)))) S = .ok (.tup (plD e (ns.take s ++ [z] ++ ns.drop (s + 1)))) S := fun S => by
        rw [addT (by rw [plD_len, plD_len]; simp; omega), plD_ap (a := ns.take s ++ [z]) (b := ns.drop (s + 1))]
      rwa [sl_t, c1, es, c2, a1, a2] at ⊢
      refine ⟨⟨n, ⟨e, _, rfl, e0, by omega, by simp; omega, fun x hx => ?_⟩, h0, h1⟩, N.jar_grow hJ4 (by omega)⟩
      rcases List.mem_append.mp hx with hx | hx
      · rcases List.mem_append.mp hx with hx | hx
        · exact ⟨(nI x (List.mem_of_mem_take hx)).1, (nS x (List.mem_of_mem_take hx)).mono (by omega)⟩
        · rw [List.mem_singleton.mp hx]; exact ⟨z0, z1.mono (by omega)⟩
      · exact ⟨(nI x (List.mem_of_mem_drop hx)).1, (nS x (List.mem_of_mem_drop hx)).mono (by omega)⟩
end IL.k48
namespace IL.k48
open PySem PySem.Spec PyProof.Rows L2 IL
/-- one of the three plates -/
def Q3 (d : D) (n : Nat) : Prop := Pt 120 300 n d ∧ 1 ≤ n ∧ n ≤ 16
theorem Q3.parts {d : D} {n : Nat} (h : Q3 d n) : ∃ (f : Nat) (ns : List Int), d = .tup (plD f ns) ∧ f ≤ 1500 ∧ ns ≠ [] ∧ ns.length < 64 ∧ (∀ x ∈ ns, Sz 300 x) := by
  obtain ⟨⟨f, ns, rfl, a, b, c, e⟩, h1, h2⟩ := h
  exact ⟨f, ns, rfl, by omega, fun q => by rw [q] at c; simp at c; omega, by omega, fun x hx => (e x hx).2⟩
theorem ow_ite {b : Bool} {A B : O} {E : En} (h : Ow (if b = true then A else B) E) : if b = true then Ow A E else Ow B E := by cases b <;> simpa using h
theorem lo79 {x : Int} : lo ((lo 40 x).2 + 39) (lo 40 x).1 = lo 79 x := by
  obtain ⟨h1, h2, _⟩ := lo_spec 40 x
  generalize lo 40 x = p at *
  rw [h2]
  refine lo_eq ?_
  rw [Int.mul_assoc, ← Int.pow_add]
  congr 2
  omega
set_option maxHeartbeats 0 in
theorem law_go {ns : List Int} (hn : ns.length ≤ 63) : Rw (callF G T (39 + 1) "law" [.ref 0] [.ro (ns.map .int)]) fun d _ => d = .bl true := by
  refine Rw_call T_law rfl ?_
  show Ow (exec G _ b_law [.val (.ref 0), .no, .no, .no, .no, .no, .no, .no, .no, .no, .no, .no, .no, .no, .no, .no] _) _
  unfold b_law
  rwa [] at ⊢
  refine Rw.mono (r_N_jar (k := 38) hn) ?_
  rintro d S1 ⟨rfl, hJ⟩
  rwa [] at ⊢
  refine Rw.mono (r_N_draw hJ (by omega) (by omega) (by omega)) ?_
  rintro d S2 ⟨i0, rfl, p0, q0, hJ2, _⟩
  rwa [] at ⊢
  refine if_p (fun _ => ?_) (fun _ => ?_)
  · rwa [] at ⊢
    refine Rw.mono (r_N_pick hJ2 (by omega) (by simp) (by simp)) ?_
    rintro d1 S3 ⟨hd1, hJ3, _⟩
    obtain ⟨n, rfl, hn0, hn1⟩ : ∃ n : Nat, d1 = .int n ∧ 2 ≤ n ∧ n ≤ 8 := by
      simp only [List.mem_cons, List.not_mem_nil, or_false] at hd1
      rcases hd1 with rfl | rfl | rfl | rfl <;> exact ⟨_, rfl, by decide, by decide⟩
    rwa [] at ⊢
    refine Rw.mono (r_N_draw hJ3 (by omega) (by omega) (by omega)) ?_
    rintro d S4 ⟨c, rfl, c0, c1, hJ4, _⟩
    obtain ⟨f, hf, hf0, hf1⟩ : ∃ f : Nat, 1050 + c = (f : Int) ∧ 1050 ≤ f ∧ f < 1350 := ⟨(1050 + c).toNat, by omega, by omega, by omega⟩
    rwa [hf] at ⊢
    refine Rw_req (rngOk_of (by omega) (by omega)) ?_
    rwa [] at ⊢
    refine Rw_comp (fun i acc S' => (∃ zs : List Int, acc = plD f zs ∧ zs.length = i ∧ ∀ x ∈ zs, 0 ≤ x ∧ Sz 6 x) ∧ N.Jar S' 2 1 (10 + i)) ⟨⟨[], rfl, rfl, fun x hx => by cases hx⟩, N.jar_grow hJ4 (by omega)⟩ ?_ ?_
    · rintro i d acc S' hd ⟨⟨zs, rfl, hl, hI⟩, hJ5⟩
      have hi := (rngD_get hd).1
      rwa [] at ⊢
      refine Rw.mono (r_N_draw hJ5 (by omega) (by omega) (by omega)) ?_
      rintro d S6 ⟨a, rfl, a0, a1, hJ6, _⟩
      have kh : ∀ S, callF G T 39 "_law_half" [.int (1 + a), .int (f : Int)] S = .ok (hD (lo f (1 + a))) S := fun S => r_N_half (k := 38)
      rwa [kh] at ⊢
      refine ⟨⟨zs ++ [1 + a], by rw [plD_ap]; rfl, by simp [hl], fun x hx => ?_⟩, N.jar_grow hJ6 (by omega)⟩
      rcases List.mem_append.mp hx with hx | hx
      · exact hI x hx
      · rw [List.mem_singleton.mp hx]
        refine ⟨by omega, ?_⟩
        show (1 + a).natAbs < 2 ^ 6
        omega
    rintro acc S5 ⟨⟨zs, rfl, hl, hI⟩, hJ5⟩
    rw [rngD_len, Int.sub_zero, Int.toNat_natCast] at hl hJ5
    refine ⟨by rw [plD_len]; exact Nat.le_trans (by omega) line_big, ?_⟩
    rwa [ev_tupL] at ⊢
    refine Rw.mono (r_row (k := 37) (many := 3) hJ5 (by omega) (by omega) (by omega) (by omega)) ?_
    rintro d S6 ⟨⟨row, rfl, hU, hrl, _⟩, hJ6, _⟩
    rwa [] at ⊢
    have hzS : ∀ x ∈ zs, Sz 6 x := fun x hx => (hI x hx).2
    refine Rw.mono (r_ran (k := 37) hzS (by rw [hl]; exact hU.ok) (by omega) (by omega) (by omega)) ?_
    rintro d S7 ⟨rfl, g7⟩
    rwa [] at ⊢
    have P1 : Pt 1400 20 n (.tup (plD f zs)) := ⟨f, zs, rfl, by omega, by omega, hl, fun x hx => ⟨(hI x hx).1, (hzS x hx).mono (by omega)⟩⟩
    have P2 : Pt 1400 20 n (.tup (plD (f + row.length) (runN zs row))) := ⟨_, _, rfl, by omega, by omega, by rw [runN_len, hl], fun x hx => ⟨runN_pos (fun x hx => (hI x hx).1) x hx, (runN_sz hzS x hx).mono (by omega)⟩⟩
    exact Rw.mono (told (k := 34) P1 P2 (by omega) (by omega) (by omega) (by omega) (by omega) (by omega)) fun d S h => h.1
  rwa [] at ⊢
  refine Rw_req (by decide) ?_
  rwa [] at ⊢
  refine Ow_for (fun i v S => ∃ s2 s3 s4 s5 s6 s7 s8 s9 s10 s11 s12 s13 s14 s15 : Slot, v = [.val (.ref 0), .val (.ref 2), s2, s3, s4, s5, s6, s7, s8, s9, s10, s11, s12, s13, s14, s15] ∧ N.Jar S 2 1 (1000 * i + 10)) ⟨_, _, _, _, _, _, _, _, _, _, _, _, _, _, rfl, N.jar_grow hJ2 (by omega)⟩ ?_ ?_
  · rintro i d v S hd ⟨s2, s3, s4, s5, s6, s7, s8, s9, s10, s11, s12, s13, s14, s15, rfl, hJ0⟩
    obtain ⟨hi, rfl⟩ := rngD_get hd
    have hi : i < 5 := by simpa using hi
    rw [Int.zero_add]
    rwa [] at ⊢
    refine Rw.mono (r_N_pick hJ0 (by omega) (by simp) (by simp)) ?_
    rintro d1 S1 ⟨hd1, hJ1, _⟩
    obtain ⟨n, rfl, hn0, hn1⟩ : ∃ n : Nat, d1 = .int n ∧ 1 ≤ n ∧ n ≤ 16 := by
      simp only [List.mem_cons, List.not_mem_nil, or_false] at hd1
      rcases hd1 with rfl | rfl | rfl | rfl | rfl | rfl | rfl <;> exact ⟨_, rfl, by decide, by decide⟩
    rwa [] at ⊢
    refine Rw.mono (r_plate (k := 35) hJ1 (by omega) (by omega) (by omega)) ?_
    rintro d S2 ⟨⟨zs, rfl, hzl, hzI⟩, hJ2, _⟩
    have hzS : ∀ x ∈ zs, Sz 100 x := fun x hx => (hzI x hx).2
    have hpl : (plD 40 zs).length = n := by rw [plD_len, hzl]
    rwa [] at ⊢
    have hstep : ∃ Q : Env → Store → Prop, ∀ v S, Q v S ↔ ∃ p s4 s14 : _, v = [.val (.ref 0), .val (.ref 2), .val (.int (i : Int)), s3, s4, .val p, s6, s7, s8, s9, s10, s11, s12, s13, s14, s15] ∧ Pt 86 200 n p ∧ N.Jar S 2 1 (1000 * i + 200) := ⟨_, fun _ _ => Iff.rfl⟩
    obtain ⟨Q, hQ⟩ := hstep
    refine Rw.mono (Q1 := fun (b : Bool) S' => N.Jar S' 2 1 (1000 * i + 120)) (Rw_if (fun _ => ?_) (fun _ => ?_)) ?_
    · rwa [] at ⊢
      refine Rw.mono (r_N_draw (N.jar_more hJ2 Grow.refl) (by omega) (by omega) (by omega)) ?_
      rintro d S3 ⟨c, rfl, c0, c1, hJ3, _⟩
      rwa [] at ⊢
      exact N.jar_grow hJ3 (by omega)
    · rwa [] at ⊢
      exact N.jar_grow hJ2 (by omega)
    rintro b S3 hJ3
    refine ow_ite (Ow.mono (E := ⟨Q, fun d S => d = .bl true, fun _ _ => False, fun _ _ => False⟩) ?_ ?_ (fun d S h => h) (fun _ _ h => h.elim) (fun _ _ h => h.elim))
    · cases b with
      | false =>
        rwa [] at ⊢
        exact (hQ _ _).mpr ⟨_, _, _, rfl, ⟨40, zs, rfl, by omega, by omega, hzl, fun x hx => ⟨(hzI x hx).1, (hzS x hx).mono (by omega)⟩⟩, N.jar_grow hJ3 (by omega)⟩
      | true =>
        rwa [] at ⊢
        refine Rw.eq (compF_okL (fun x : Int => D.tup [.int (lo 40 x).1, .int ((lo 40 x).2 : Nat)]) (fun x => hD (lo 79 x)) (fun x hx => Rw.toEq ?_) (by omega)) ?_
        · have kh : ∀ S, callF G T 39 "_law_half" [.int (lo 40 x).1, .int (((lo 40 x).2 : Int) + 39)] S = .ok (hD (lo 79 x)) S := fun S => by
            have := r_N_half (k := 38) (S := S) (a := (lo 40 x).1) (f := (lo 40 x).2 + 39)
            rw [show (((lo 40 x).2 + 39 : Nat) : Int) = ((lo 40 x).2 : Int) + 39 by omega, lo79] at this
            exact this
          rwa [kh] at ⊢
        have ep : (zs.map fun x => hD (lo 79 x)) = plD 79 zs := rfl
        rw [ep]
        rwa [ev_tupL, hpl] at ⊢
        refine Rw.mono (r_row (k := 37) (many := 4) hJ3 (by omega) (by omega) (by omega) (by omega)) ?_
        rintro d S4 ⟨⟨row, rfl, hU, hrl, _⟩, hJ4, _⟩
        rwa [] at ⊢
        refine Rw.mono (r_ran (k := 37) hzS (by rw [hzl]; exact hU.ok) (by omega) (by omega) (by omega)) ?_
        rintro d S5 ⟨rfl, g5⟩
        rwa [] at ⊢
        exact (hQ _ _).mpr ⟨_, _, _, rfl, ⟨_, _, rfl, by omega, by omega, by rw [runN_len, hzl], fun x hx => ⟨runN_pos (fun x hx => (hzI x hx).1) x hx, (runN_sz hzS x hx).mono (by omega)⟩⟩, N.jar_grow (N.jar_more hJ4 g5) (by omega)⟩
    intro v S4 hv
    obtain ⟨p1, s4, s14, rfl, hP1, hJ4⟩ := (hQ v S4).mp hv
    clear hv hQ Q
    rwa [] at ⊢
    refine Rw.mono (kin (k := 33) hJ4 hP1 (by omega) hn0 hn1 (by omega) (by omega) (by omega) (by omega)) ?_
    rintro p2 S5 ⟨⟨n2, hP2, n20, n21⟩, hJ5⟩
    obtain ⟨f2, ns2, rfl, hf20, hf21, hl2, hI2⟩ := id hP2
    have hpl2 : (plD f2 ns2).length = n2 := by rw [plD_len, hl2]
    rwa [hpl2] at ⊢
    refine Rw.mono (Q1 := fun d S' => (∃ n', Pt 90 204 n' d ∧ 1 ≤ n' ∧ n' ≤ 16) ∧ S' = S5) (Rw_if (fun _ => ?_) (fun _ => ?_)) ?_
    · rwa [] at ⊢
      exact ⟨n2, hP2, n20, n21⟩
    · rwa [] at ⊢
      exact ⟨n, hP1.mono (by omega) (by omega), hn0, hn1⟩
    rintro d S' ⟨⟨n4, hP4, n40, n41⟩, rfl⟩
    rwa [] at ⊢
    refine Rw.mono (kin (k := 33) hJ5 hP4 (by omega) n40 n41 (by omega) (by omega) (by omega) (by omega)) ?_
    rintro p3 S6 ⟨⟨n3, hP3, n30, n31⟩, hJ6⟩
    have w1 : Pt 94 208 n p1 := hP1.mono (by omega) (by omega)
    have w2 : Pt 94 208 n2 (.tup (plD f2 ns2)) := hP2.mono (by omega) (by omega)
    have w3 : Pt 94 208 n3 p3 := hP3
    generalize hp2 : D.tup (plD f2 ns2) = p2 at *
    clear hpl2 hI2 hl2 hf21 hf20 hp2
    rwa [] at ⊢
    refine Ow_for (fun t v S => ∃ s9 s10 s11 : Slot, v = [.val (.ref 0), .val (.ref 2), .val (.int (i : Int)), s3, s4, .val p1, .val p2, .val p3, .val (.lst [p1, p2, p3]), s9, s10, s11, s12, s13, s14, s15] ∧ N.Jar S 2 1 (1000 * i + 500)) ⟨_, _, _, rfl, N.jar_grow hJ6 (by omega)⟩ ?_ ?_
    · rintro t d v S hd ⟨s9, s10, s11, rfl, hJt⟩
      rw [enuD_get] at hd
      obtain ⟨d', hd', rfl⟩ := Option.map_eq_some_iff.mp hd
      obtain ⟨x, y, a, b, rfl, hx, hy, a0, a1, b0, b1⟩ : ∃ x y a b, d' = .tup [x, y] ∧ Pt 94 208 a x ∧ Pt 94 208 b y ∧ 1 ≤ a ∧ a ≤ 16 ∧ 1 ≤ b ∧ b ≤ 16 := by
        have := List.mem_of_getElem? hd'
        simp only [List.mem_cons, List.not_mem_nil, or_false] at this
        rcases this with rfl | rfl | rfl | rfl
        · exact ⟨_, _, n, n2, rfl, w1, w2, hn0, hn1, n20, n21⟩
        · exact ⟨_, _, n2, n3, rfl, w2, w3, n20, n21, n30, n31⟩
        · exact ⟨_, _, n, n3, rfl, w1, w3, hn0, hn1, n30, n31⟩
        · exact ⟨_, _, n, n, rfl, w1, w1, hn0, hn1, hn0, hn1⟩
      rw [Nat.zero_add]
      rwa [] at ⊢
      refine Rw.mono (told (k := 34) hx hy (by omega) (by omega) a0 a1 b0 b1) ?_
      rintro d S7 ⟨rfl, g7⟩
      rwa [] at ⊢
      exact ⟨_, _, _, rfl, N.jar_more hJt g7⟩
    rintro v S7 ⟨s9, s10, s11, rfl, hJ7⟩
    have hmem : ∀ d, d ∈ [p1, p2, p3] → ∃ n, Q3 d n := fun d hd => by
      simp only [List.mem_cons, List.not_mem_nil, or_false] at hd
      rcases hd with rfl | rfl | rfl
      · exact ⟨n, w1.mono (by omega) (by omega), hn0, hn1⟩
      · exact ⟨n2, w2.mono (by omega) (by omega), n20, n21⟩
      · exact ⟨n3, w3.mono (by omega) (by omega), n30, n31⟩
    rwa [] at ⊢
    refine Ow_for (fun t v S => ∃ s10 s11 s12 s15 : Slot, v = [.val (.ref 0), .val (.ref 2), .val (.int (i : Int)), s3, s4, .val p1, .val p2, .val p3, .val (.lst [p1, p2, p3]), s9, s10, s11, s12, s13, s14, s15] ∧ S = S7) ⟨_, _, _, _, rfl, rfl⟩ ?_ ?_
    · rintro t x v S hd ⟨s10, s11, s12, s15, rfl, rfl⟩
      obtain ⟨nx, hx⟩ := hmem x (List.mem_of_getElem? hd)
      rwa [] at ⊢
      refine Ow_for (fun t v S' => ∃ s11 s12 s15 : Slot, v = [.val (.ref 0), .val (.ref 2), .val (.int (i : Int)), s3, s4, .val p1, .val p2, .val p3, .val (.lst [p1, p2, p3]), s9, .val x, s11, s12, s13, s14, s15] ∧ S' = S) ⟨_, _, _, rfl, rfl⟩ ?_ ?_
      · rintro t y v S' hd ⟨s11, s12, s15, rfl, rfl⟩
        obtain ⟨ny, hy⟩ := hmem y (List.mem_of_getElem? hd)
        have km : ∀ z, z ∈ [p1, p2, p3] → ∃ h hs : _, z = .tup (plD h hs) ∧ h ≤ 1500 ∧ hs ≠ [] ∧ hs.length < 64 ∧ ∀ x ∈ hs, Sz 300 x := fun z hz => by
          obtain ⟨nz, hz⟩ := hmem z hz
          exact hz.parts
        obtain ⟨f, ns1, rfl, hf, n0, nl, nS⟩ := hx.parts
        obtain ⟨g, ms1, rfl, hg, m0, ml, mS⟩ := hy.parts
        have k1 : ∀ S, callF G T 39 "more_even" [.tup (plD f ns1), .tup (plD g ms1)] S = .ok (.bl (moreE (upF f ns1) (upF g ms1))) S := fun S => more (k := 35) n0 m0 nS mS hf hg (by omega) nl ml
        have k2 : ∀ S, callF G T 39 "more_even" [.tup (plD g ms1), .tup (plD f ns1)] S = .ok (.bl (moreE (upF g ms1) (upF f ns1))) S := fun S => more (k := 35) m0 n0 mS nS hg hf (by omega) ml nl
        have hboth := moreE_both (a := upF f ns1) (b := upF g ms1)
        have ks1 : ∀ S, b1D .sorted (.tup (plD f ns1)) S = .ok (.lst ((srtP (prs f ns1)).map pairT)) S := fun S => sortPl n0
        have ks2 : ∀ S, b1D .sorted (.tup (plD g ms1)) S = .ok (.lst ((srtP (prs g ms1)).map pairT)) S := fun S => sortPl m0
        have ke : ∀ S, cmpD .Eq (.lst ((srtP (prs f ns1)).map pairT)) (.lst ((srtP (prs g ms1)).map pairT)) S = .ok (.bl (decide ((upF f ns1).Perm (upF g ms1)))) S := fun S => eqSorted hf hg
        have ktr : moreE (upF f ns1) (upF g ms1) = true → ∀ z ∈ [p1, p2, p3], ∃ b1 b2 : Bool, (∀ S, callF G T 39 "more_even" [.tup (plD g ms1), z] S = .ok (.bl b1) S) ∧ (∀ S, callF G T 39 "more_even" [.tup (plD f ns1), z] S = .ok (.bl b2) S) ∧ (b1 = true → b2 = true) := fun hm z hz => by
          obtain ⟨h, hs, rfl, hh, h0, hl, hS⟩ := km z hz
          exact ⟨_, _, fun S => more (k := 35) m0 h0 mS hS hg hh (by omega) ml hl, fun S => more (k := 35) n0 h0 nS hS hf hh (by omega) nl hl, fun q => moreE_trans hm q⟩
        generalize decide ((upF f ns1).Perm (upF g ms1)) = dp at *
        generalize moreE (upF f ns1) (upF g ms1) = b1 at *
        generalize moreE (upF g ms1) (upF f ns1) = b2 at *
        subst hboth
        cases b1 with
        | false =>
          rwa [k1, ks1, ks2, ke, Bool.false_and, neBl] at ⊢
          exact ⟨_, _, _, rfl⟩
        | true =>
          rwa [k1, k2, ks1, ks2, ke, Bool.true_and, neBl] at ⊢
          refine Rw.eq (compF_ok (ds := [p1, p2, p3]) (fun _ => none) (fun z hz => Rw.toEq ?_) (by simp)) ?_
          · obtain ⟨c1, c2, j1, j2, j3⟩ := ktr rfl z hz
            cases c1 with
            | false => rwa [j1] at ⊢
            | true =>
              have := j3 rfl
              subst this
              rwa [j1, j2] at ⊢
          · have hnil : ([p1, p2, p3].filterMap fun _ => (none : Option D)) = [] := by simp
            rw [hnil]
            rwa [neL] at ⊢
            exact ⟨_, _, _, rfl⟩
      · rintro v S' ⟨s11, s12, s15, rfl, rfl⟩
        exact ⟨_, _, _, _, rfl, rfl⟩
    · rintro v S ⟨s10, s11, s12, s15, rfl, rfl⟩
      exact ⟨_, _, _, _, _, _, _, _, _, _, _, _, _, _, rfl, N.jar_grow hJ7 (by omega)⟩
  · rintro v S ⟨s2, s3, s4, s5, s6, s7, s8, s9, s10, s11, s12, s13, s14, s15, rfl, hJ0⟩
    rwa [] at ⊢
theorem law_ok : ∀ ns : List Int, ns.length ≤ 63 → ∃ S', lawR G T 40 ns = .ok (.bl true) S' := by
  intro ns hn
  obtain ⟨a, S, h1, h2⟩ := (law_go hn).ok
  have h2 : a = .bl true := h2
  subst h2
  exact ⟨S, h1⟩
end IL.k48
open PySem PySem.W PyProof.Rows
set_option maxRecDepth 100000 in
set_option maxHeartbeats 0 in
theorem PySem.Challenge.cw_leveldrops_k48_whole_tops_and_what_is_mo_holds : PySem.Challenge.rw_leveldrops_k48_whole_tops_and_what_is_mo.Holds := by
  w_on; o_law; k_head; (case hw => w_witness2)
  k_fill
  refine IL.walkD (l := PySem.Challenge.rw_leveldrops_k48_whole_tops_and_what_is_mo) (n := 63) (k := 40) (G := IL.k48.G) (W := IL.k48.kwT) (T := IL.k48.T) rfl (by decide) rfl ⟨rfl, by decide, by decide⟩ (fun w h Y => PySem.W.kIn_of Y) ?hL rfl rfl ⟨_, rfl, rfl⟩ ?F IL.k48.law_ok
  case hL =>
    intro w
    rfl
  case F =>
    intro w mg h KX N
    refine' IL.k48.glob KX N ?il_a0 ?il_l0 ?il_c0 ?il_k0 ?il_a1 ?il_l1 ?il_c1 ?il_k1 ?il_a2 ?il_l2 ?il_c2 ?il_k2 ?il_a3 ?il_l3 ?il_c3 ?il_k3 ?il_a4 ?il_l4 ?il_c4 ?il_k4 ?il_a5 ?il_l5 ?il_c5 ?il_k5 ?il_a6 ?il_l6 ?il_c6 ?il_k6 ?il_a7 ?il_l7 ?il_c7 ?il_k7 ?il_a8 ?il_l8 ?il_c8 ?il_k8 ?il_a9 ?il_l9 ?il_c9 ?il_k9 ?il_a10 ?il_l10 ?il_c10 ?il_k10 ?il_a11 ?il_l11 ?il_c11 ?il_k11 ?il_a12 ?il_l12 ?il_c12 ?il_k12 ?il_a13 ?il_l13 ?il_c13 ?il_k13 ?il_a14 ?il_l14 ?il_c14 ?il_k14 ?il_a15 ?il_l15 ?il_c15 ?il_k15 ?il_a16 ?il_l16 ?il_c16 ?il_k16 ?il_a17 ?il_l17 ?il_c17 ?il_k17 ?il_a18 ?il_l18 ?il_c18 ?il_k18 ?il_a19 ?il_l19 ?il_c19 ?il_k19 ?il_a20 ?il_l20 ?il_c20 ?il_k20 ?il_z0 ?il_z1 ?il_z2 ?il_z3 ?il_z4 ?il_z5 ?il_z6 ?il_z7 ?il_z8 ?il_z9 ?il_z10 ?il_z11 ?il_z12 ?il_z13 ?il_z14 ?il_z15 ?il_z16 ?il_z17 ?il_z18 ?il_z19
    (case il_a0 => k_is); (case il_l0 => k_is); (case il_c0 => k_is); (case il_k0 => k_is); (case il_a1 => k_is); (case il_l1 => k_is); (case il_c1 => k_is); (case il_k1 => k_is); (case il_a2 => k_is); (case il_l2 => k_is); (case il_c2 => k_is); (case il_k2 => k_is); (case il_a3 => k_is); (case il_l3 => k_is); (case il_c3 => k_is); (case il_k3 => k_is); (case il_a4 => k_is); (case il_l4 => k_is); (case il_c4 => k_is); (case il_k4 => k_is); (case il_a5 => k_is); (case il_l5 => k_is); (case il_c5 => k_is); (case il_k5 => k_is); (case il_a6 => k_is); (case il_l6 => k_is); (case il_c6 => k_is); (case il_k6 => k_is); (case il_a7 => k_is); (case il_l7 => k_is); (case il_c7 => k_is); (case il_k7 => k_is); (case il_a8 => k_is); (case il_l8 => k_is); (case il_c8 => k_is); (case il_k8 => k_is); (case il_a9 => k_is); (case il_l9 => k_is); (case il_c9 => k_is); (case il_k9 => k_is); (case il_a10 => k_is); (case il_l10 => k_is); (case il_c10 => k_is); (case il_k10 => k_is); (case il_a11 => k_is); (case il_l11 => k_is); (case il_c11 => k_is); (case il_k11 => k_is); (case il_a12 => k_is); (case il_l12 => k_is); (case il_c12 => k_is); (case il_k12 => k_is); (case il_a13 => k_is); (case il_l13 => k_is); (case il_c13 => k_is); (case il_k13 => k_is); (case il_a14 => k_is); (case il_l14 => k_is); (case il_c14 => k_is); (case il_k14 => k_is); (case il_a15 => k_is); (case il_l15 => k_is); (case il_c15 => k_is); (case il_k15 => k_is); (case il_a16 => k_is); (case il_l16 => k_is); (case il_c16 => k_is); (case il_k16 => k_is); (case il_a17 => k_is); (case il_l17 => k_is); (case il_c17 => k_is); (case il_k17 => k_is); (case il_a18 => k_is); (case il_l18 => k_is); (case il_c18 => k_is); (case il_k18 => k_is); (case il_a19 => k_is); (case il_l19 => k_is); (case il_c19 => k_is); (case il_k19 => k_is); (case il_a20 => k_is); (case il_l20 => k_is); (case il_c20 => k_is); (case il_k20 => k_is); (case il_z0 => k_is); (case il_z1 => k_is); (case il_z2 => k_is); (case il_z3 => k_is); (case il_z4 => k_is); (case il_z5 => k_is); (case il_z6 => k_is); (case il_z7 => k_is); (case il_z8 => k_is); (case il_z9 => k_is); (case il_z10 => k_is); (case il_z11 => k_is); (case il_z12 => k_is); (case il_z13 => k_is); (case il_z14 => k_is); (case il_z15 => k_is); (case il_z16 => k_is); (case il_z17 => k_is); (case il_z18 => k_is); (case il_z19 => k_is)
