import PyProof.Rows.All
import Wide.All
import OpenK.AllK
import Wide.FinOn
import HandS.ForMost
import HandS.ForExc
import HandS.HotCalls
import HandS.ExcIs
import HandS.IsInst
import HandS.Style
import HandS.Conv
import HandS.List
import HandS.ListItems
import KE.KDictZip
import KE.KItemsList
import HandS.Property
import HandS.TupAny
import HandS.Dict
import HandS.Defaults
import HandS.CallSlots
import HandS.MakeKwOnly
import HandS.HeadHook2
import HandS.Deep
import KE.KExcSuper
import HandS.ExcInit
import HandS.ExcField
import HandS.FStr
import KE.KExcIs
import HandS.Star
import HandS.Zip
import HandS.SetFor
import HandS.Iter
import HandS.NoneIn
import HandS.TupLen
import HandS.SortInts
import PyProof.WalksMore
import PyProof.WalkInts
import PySem.Challenge.RW_paperark_k34_groups_of_pages_and_places
set_option Elab.async false
set_option linter.all false
set_option maxRecDepth 100000
namespace Vc
open PySem PySem.Spec PyProof.Rows L2

/-! ### results -/
inductive D where
  | non | bl (b : Bool) | int (i : Int) | str (x : Str) | lst (l : List D) | tup (l : List D)
  /-- an object's address alone; an error with its fields; an instance; a dict -/
  | adr (a : Addr) | exn (a dd : Addr) (fs : List (Str × D)) | ins (n : Str) (fs : List (Str × D)) | dic (kvs : List (Key × D))
  /-- a range object -/
  | rg (i j c : Int)
structure Exn where
  nm : Str
  fs : List (Str × D)
inductive M (α : Type) where
  | ok (a : α)
  | stuck
  | exc (e : Exn)
namespace M
variable {α β : Type}
def bind (m : M α) (f : α → M β) : M β := match m with
  | .ok a => f a
  | .stuck => .stuck
  | .exc e => .exc e
instance : Monad M where
  pure := .ok
  bind := bind
theorem ok_bind_rfl (a : α) (f : α → M β) : (M.ok a >>= f) = f a := rfl
@[simp] theorem ok_bind (a : α) (f : α → M β) : (M.ok a >>= f) = f a := by rw [ok_bind_rfl]
theorem stuck_bind_rfl (f : α → M β) : ((M.stuck : M α) >>= f) = .stuck := rfl
theorem exc_bind_rfl (e : Exn) (f : α → M β) : ((M.exc e : M α) >>= f) = .exc e := rfl
@[simp] theorem pure_eq (a : α) : (pure a : M α) = .ok a := rfl
@[simp] theorem stuck_bind (f : α → M β) : ((M.stuck : M α) >>= f) = .stuck := by rw [stuck_bind_rfl]
@[simp] theorem exc_bind (e : Exn) (f : α → M β) : ((M.exc e : M α) >>= f) = .exc e := by rw [exc_bind_rfl]
theorem bind_assoc {γ : Type} (m : M α) (f : α → M β) (g : β → M γ) : (m >>= f) >>= g = m >>= fun a => f a >>= g := by cases m <;> rfl
theorem bind_ok (m : M α) : (m >>= fun a => .ok a) = m := by cases m <;> rfl
end M
/-- stuck unless p -/
def chk (p : Prop) [Decidable p] : M Unit := if p then .ok () else .stuck
theorem chk_ok {p : Prop} [Decidable p] (h : p) : chk p = .ok () := if_pos h
/-- no exception may leave here -/
def nox {α : Type} : M α → M α
  | .ok a => .ok a
  | _ => .stuck

def Out {α : Type} (m : M α) (P : α → Prop) (E : Exn → Prop) : Prop := match m with
  | .ok a => P a
  | .exc e => E e
  | .stuck => False
theorem Out.bind {α β : Type} {m : M α} {f : α → M β} {P : β → Prop} {E : Exn → Prop} (h : Out (m >>= f) P E) : Out m (fun a => Out (f a) P E) E := by
  cases m <;> exact h
theorem Out.of_bind {α β : Type} {m : M α} {f : α → M β} {P : β → Prop} {E : Exn → Prop} (h : Out m (fun a => Out (f a) P E) E) : Out (m >>= f) P E := by
  cases m <;> exact h
theorem Out.mono {α : Type} {m : M α} {P P' : α → Prop} {E E' : Exn → Prop} (h : Out m P E) (hP : ∀ a, m = .ok a → P a → P' a) (hE : ∀ e, m = .exc e → E e → E' e) : Out m P' E' := by
  cases m with
  | ok a => exact hP a rfl h
  | exc e => exact hE e rfl h
  | stuck => exact h
theorem Out.chk {β : Type} {p : Prop} [Decidable p] {f : Unit → M β} {P : β → Prop} {E : Exn → Prop} (h : Out (Vc.chk p >>= f) P E) : p ∧ Out (f ()) P E := by
  unfold Vc.chk at h
  split at h
  · exact ⟨by assumption, h⟩
  · exact h.elim

/-! ### a value stands for data -/
/-- a range object stands at p -/
def RgP (p : Addr) (i j c : Int) : Heap → Prop := fun h => ∃ t u v, IsRange h p i j c t u v
/-- a tuple on the heap, or one of the module's -/
def SqR (K : PySem.W.Frag) (H : Hp) (a : Addr) (xs : List V) : Prop :=
  H a = some (.tup xs) ∨ ∃ (o : Obj) (its : Array Value) (n : Nat), K.lookup a = some o ∧ o.cls = .type "tuple" ∧ o.data = .seq its n ∧ its.size ≤ sizeLine ∧ Vals xs its.toList
theorem SqR.of {K : PySem.W.Frag} {H : Hp} {a : Addr} {xs : List V} (h : H a = some (.tup xs)) : SqR K H a xs := .inl h
theorem SqR.sq {K : PySem.W.Frag} {H : Hp} {a : Addr} {xs : List V} (h : SqR K H a xs) : SqT K H a xs := h.elim (fun h => .of h) .inr
theorem Same.seqR {K : PySem.W.Frag} {H H' : Hp} {a : Addr} {xs : List V} (e : Same H H') (h : SqR K H a xs) : SqR K H' a xs := h.elim (fun h => .inl (e _ _ h)) .inr
mutual
inductive R (K : PySem.W.Frag) (mg : Str → Option Value) (H : Hp) : V → D → Prop
  | non : R K mg H .non .non
  | bl (b : Bool) : R K mg H (.bl b) (.bl b)
  | int (i : Int) : R K mg H (.int i) (.int i)
  | str (x : Str) : R K mg H (.str x) (.str x)
  | lst {p : Addr} {xs : List V} {ds : List D} : SqL K H p xs → Rs K mg H xs ds → R K mg H (.ref p) (.lst ds)
  | tup {p : Addr} {xs : List V} {ds : List D} : SqR K H p xs → Rs K mg H xs ds → R K mg H (.ref p) (.tup ds)
  | adr (a : Addr) : R K mg H (.ref a) (.adr a)
  | exn {a dd : Addr} {vs : List (Str × V)} {fs : List (Str × D)} : H dd = some (.xd vs) → RF K mg H vs fs → R K mg H (.ref a) (.exn a dd fs)
  | ins {a C dx : Addr} {n : Str} {vs : List (Str × V)} {fs : List (Str × D)} : mg n = some (.ref C) → H a = some (.ins C dx vs) → RF K mg H vs fs → R K mg H (.ref a) (.ins n fs)
  | dic {a : Addr} {vs : List (Key × V)} {fs : List (Key × D)} : H a = some (.dK vs) → RK K mg H vs fs → R K mg H (.ref a) (.dic fs)
  | rg {a : Addr} {i j c : Int} : H a = some (.ext (RgP a i j c)) → R K mg H (.ref a) (.rg i j c)
inductive RF (K : PySem.W.Frag) (mg : Str → Option Value) (H : Hp) : List (Str × V) → List (Str × D) → Prop
  | nil : RF K mg H [] []
  | cons {n : Str} {v : V} {d : D} {vs : List (Str × V)} {ds : List (Str × D)} : R K mg H v d → RF K mg H vs ds → RF K mg H ((n, v) :: vs) ((n, d) :: ds)
inductive RK (K : PySem.W.Frag) (mg : Str → Option Value) (H : Hp) : List (Key × V) → List (Key × D) → Prop
  | nil : RK K mg H [] []
  | cons {n : Key} {v : V} {d : D} {vs : List (Key × V)} {ds : List (Key × D)} : R K mg H v d → RK K mg H vs ds → RK K mg H ((n, v) :: vs) ((n, d) :: ds)
inductive Rs (K : PySem.W.Frag) (mg : Str → Option Value) (H : Hp) : List V → List D → Prop
  | nil : Rs K mg H [] []
  | cons {v : V} {d : D} {vs : List V} {ds : List D} : R K mg H v d → Rs K mg H vs ds → Rs K mg H (v :: vs) (d :: ds)
end
theorem Same.seqT {K : PySem.W.Frag} {H H' : Hp} {a : Addr} {xs : List V} (e : Same H H') (h : SqT K H a xs) : SqT K H' a xs := by
  rcases h with (h | ⟨o, h⟩) | h
  · exact .inl (.inl (e _ _ h))
  · exact .inl (.inr ⟨o, e _ _ h⟩)
  · exact .inr h
section
variable {K : PySem.W.Frag} {mg : Str → Option Value} {H H' : Hp}
mutual
theorem R.mono (e : Same H H') : ∀ {v : V} {d : D}, R K mg H v d → R K mg H' v d
  | _, _, .non => .non
  | _, _, .bl b => .bl b
  | _, _, .int b => .int b
  | _, _, .str b => .str b
  | _, _, .lst h r => .lst (e.seq h) (Rs.mono e r)
  | _, _, .tup h r => .tup (Same.seqR e h) (Rs.mono e r)
  | _, _, .adr a => .adr a
  | _, _, .exn h r => .exn (e _ _ h) (RF.mono e r)
  | _, _, .ins q h r => .ins q (e _ _ h) (RF.mono e r)
  | _, _, .dic h r => .dic (e _ _ h) (RK.mono e r)
  | _, _, .rg h => .rg (e _ _ h)
theorem RF.mono (e : Same H H') : ∀ {v : List (Str × V)} {d : List (Str × D)}, RF K mg H v d → RF K mg H' v d
  | _, _, .nil => .nil
  | _, _, .cons h r => .cons (R.mono e h) (RF.mono e r)
theorem RK.mono (e : Same H H') : ∀ {v : List (Key × V)} {d : List (Key × D)}, RK K mg H v d → RK K mg H' v d
  | _, _, .nil => .nil
  | _, _, .cons h r => .cons (R.mono e h) (RK.mono e r)
theorem Rs.mono (e : Same H H') : ∀ {v : List V} {d : List D}, Rs K mg H v d → Rs K mg H' v d
  | _, _, .nil => .nil
  | _, _, .cons h r => .cons (R.mono e h) (Rs.mono e r)
end
theorem RF.lookup : ∀ {v : List (Str × V)} {d : List (Str × D)} {n : Str} {x : D}, RF K mg H v d → d.lookup n = some x → ∃ y, v.lookup n = some y ∧ R K mg H y x
  | _, _, n, x, .nil, h => by cases h
  | _, _, n, x, .cons (n := m) h r, e => by
    rw [List.lookup_cons] at e ⊢
    cases q : n == m with
    | true => rw [q] at e; cases e; exact ⟨_, rfl, h⟩
    | false => rw [q] at e; exact RF.lookup r e
theorem Rs.length : ∀ {v : List V} {d : List D}, Rs K mg H v d → v.length = d.length
  | _, _, .nil => rfl
  | _, _, .cons _ r => congrArg (· + 1) (Rs.length r)
theorem Rs.get : ∀ {v : List V} {d : List D} {i : Nat} {x : D}, Rs K mg H v d → d[i]? = some x → ∃ y, v[i]? = some y ∧ R K mg H y x
  | _, _, _, _, .nil, h => by simp at h
  | _, _, 0, _, .cons h r, e => by simp at e; subst e; exact ⟨_, rfl, h⟩
  | _, _, i + 1, _, .cons h r, e => by
    obtain ⟨y, h1, h2⟩ := Rs.get (i := i) r (by simpa using e)
    exact ⟨y, by simpa using h1, h2⟩
theorem Rs.getV : ∀ {v : List V} {d : List D} {i : Nat} {y : V}, Rs K mg H v d → v[i]? = some y → ∃ x, d[i]? = some x ∧ R K mg H y x
  | _, _, _, _, .nil, h => by simp at h
  | _, _, 0, _, .cons h r, e => by simp at e; subst e; exact ⟨_, rfl, h⟩
  | _, _, i + 1, _, .cons h r, e => by
    obtain ⟨y, h1, h2⟩ := Rs.getV (i := i) r (by simpa using e)
    exact ⟨y, by simpa using h1, h2⟩
theorem Rs.append : ∀ {v w : List V} {d e : List D}, Rs K mg H v d → Rs K mg H w e → Rs K mg H (v ++ w) (d ++ e)
  | _, _, _, _, .nil, h => h
  | _, _, _, _, .cons h r, q => .cons h (Rs.append r q)
theorem Rs.set {y : V} {x : D} (q : R K mg H y x) : ∀ {v : List V} {d : List D} (i : Nat), Rs K mg H v d → Rs K mg H (v.set i y) (d.set i x)
  | _, _, _, .nil => .nil
  | _, _, 0, .cons _ r => .cons q r
  | _, _, i + 1, .cons h r => .cons h (Rs.set q i r)
theorem Rs.take : ∀ {v : List V} {d : List D} (n : Nat), Rs K mg H v d → Rs K mg H (v.take n) (d.take n)
  | _, _, 0, _ => by simp; exact .nil
  | _, _, _ + 1, .nil => .nil
  | _, _, n + 1, .cons h r => .cons h (Rs.take n r)
theorem Rs.drop : ∀ {v : List V} {d : List D} (n : Nat), Rs K mg H v d → Rs K mg H (v.drop n) (d.drop n)
  | _, _, 0, r => r
  | _, _, _ + 1, .nil => .nil
  | _, _, n + 1, .cons h r => Rs.drop n r
theorem Rs.reverse : ∀ {v : List V} {d : List D}, Rs K mg H v d → Rs K mg H v.reverse d.reverse
  | _, _, .nil => .nil
  | _, _, .cons h r => by simp only [List.reverse_cons]; exact (Rs.reverse r).append (.cons h .nil)
theorem Rs.replicate {y : V} {x : D} (q : R K mg H y x) : ∀ n, Rs K mg H (List.replicate n y) (List.replicate n x)
  | 0 => .nil
  | n + 1 => by simp only [List.replicate_succ]; exact .cons q (Rs.replicate q n)
theorem Rs.ints : ∀ {v : List V} {l : List Int}, Rs K mg H v (l.map D.int) → v = l.map V.int
  | _, [], .nil => rfl
  | _, i :: l, .cons (.int _) r => by rw [Rs.ints r]; rfl
theorem Rs.of_ints : ∀ {l : List Int}, Rs K mg H (l.map V.int) (l.map D.int)
  | [] => .nil
  | i :: l => .cons (.int i) Rs.of_ints
theorem Rs.bools : ∀ {v : List V} {l : List Bool}, Rs K mg H v (l.map D.bl) → v = l.map V.bl
  | _, [], .nil => rfl
  | _, i :: l, .cons (.bl _) r => by rw [Rs.bools r]; rfl
theorem Rs.strs : ∀ {v : List V} {l : List Str}, Rs K mg H v (l.map D.str) → v = l.map V.str
  | _, [], .nil => rfl
  | _, i :: l, .cons (.str _) r => by rw [Rs.strs r]; rfl
end
/-- needs no heap -/
def atom : D → Bool
  | .lst _ => false
  | .tup _ => false
  | .exn _ _ _ => false
  | .ins _ _ => false
  | .dic _ => false
  | .rg _ _ _ => false
  | _ => true
theorem R.atom {K : PySem.W.Frag} {mg : Str → Option Value} {H H' : Hp} {v : V} {d : D} (h : R K mg H v d) (a : atom d = true) : R K mg H' v d := by
  cases h with
  | non => exact .non
  | bl b => exact .bl b
  | int b => exact .int b
  | str b => exact .str b
  | lst _ _ => cases a
  | tup _ _ => cases a
  | adr b => exact .adr b
  | exn _ _ => cases a
  | ins _ _ _ => cases a
  | dic _ _ => cases a
  | rg _ => cases a

/-! ### what the def owns -/
inductive O where
  | imm (d : D) | lst (l : List O)
  /-- an instance; a dict -/
  | ins (n : Str) (fs : List (Str × O)) | dic (kvs : List (Key × O))
  /-- a dict with tuples as keys, at this address; its values are no objects -/
  | dct (a : Addr) (kvs : List (List Key × V))
  /-- at this very address -/
  | pin (v : V) (o : O)
mutual
inductive Ow (K : PySem.W.Frag) (mg : Str → Option Value) (I H : Hp) : V → O → List Addr → Prop
  | imm {v : V} {d : D} : R K mg I v d → Ow K mg I H v (.imm d) []
  | lst {p : Addr} {xs : List V} {os : List O} {T : List Addr} : H p = some (.lst xs) → Ows K mg I H xs os T → Ow K mg I H (.ref p) (.lst os) (p :: T)
  | ins {p C dx : Addr} {n : Str} {vs : List (Str × V)} {fs : List (Str × O)} {T : List Addr} : mg n = some (.ref C) → H p = some (.ins C dx vs) → OwF K mg I H vs fs T → Ow K mg I H (.ref p) (.ins n fs) (p :: T)
  | dic {p : Addr} {vs : List (Key × V)} {fs : List (Key × O)} {T : List Addr} : H p = some (.dK vs) → OwK K mg I H vs fs T → Ow K mg I H (.ref p) (.dic fs) (p :: T)
  | dct {p : Addr} {kvs : List (List Key × V)} : H p = some (.dT kvs) → Ow K mg I H (.ref p) (.dct p kvs) [p]
  | pin {v : V} {o : O} {T : List Addr} : Ow K mg I H v o T → Ow K mg I H v (.pin v o) T
inductive Ows (K : PySem.W.Frag) (mg : Str → Option Value) (I H : Hp) : List V → List O → List Addr → Prop
  | nil : Ows K mg I H [] [] []
  | cons {v : V} {o : O} {vs : List V} {os : List O} {T T' : List Addr} : Ow K mg I H v o T → Ows K mg I H vs os T' → Ows K mg I H (v :: vs) (o :: os) (T ++ T')
inductive OwF (K : PySem.W.Frag) (mg : Str → Option Value) (I H : Hp) : List (Str × V) → List (Str × O) → List Addr → Prop
  | nil : OwF K mg I H [] [] []
  | cons {n : Str} {v : V} {o : O} {vs : List (Str × V)} {os : List (Str × O)} {T T' : List Addr} : Ow K mg I H v o T → OwF K mg I H vs os T' → OwF K mg I H ((n, v) :: vs) ((n, o) :: os) (T ++ T')
inductive OwK (K : PySem.W.Frag) (mg : Str → Option Value) (I H : Hp) : List (Key × V) → List (Key × O) → List Addr → Prop
  | nil : OwK K mg I H [] [] []
  | cons {n : Key} {v : V} {o : O} {vs : List (Key × V)} {os : List (Key × O)} {T T' : List Addr} : Ow K mg I H v o T → OwK K mg I H vs os T' → OwK K mg I H ((n, v) :: vs) ((n, o) :: os) (T ++ T')
end
section
variable {K : PySem.W.Frag} {mg : Str → Option Value} {I I' H H' : Hp}
mutual
theorem Ow.mono (e : Same I I') : ∀ {v : V} {o : O} {T : List Addr}, Ow K mg I H v o T → (∀ p ∈ T, H' p = H p) → Ow K mg I' H' v o T
  | _, _, _, .imm r, _ => .imm (r.mono e)
  | _, _, _, .lst h r, k => .lst ((k _ List.mem_cons_self).trans h) (Ows.mono e r fun p hp => k p (List.mem_cons_of_mem _ hp))
  | _, _, _, .ins q h r, k => .ins q ((k _ List.mem_cons_self).trans h) (OwF.mono e r fun p hp => k p (List.mem_cons_of_mem _ hp))
  | _, _, _, .dic h r, k => .dic ((k _ List.mem_cons_self).trans h) (OwK.mono e r fun p hp => k p (List.mem_cons_of_mem _ hp))
  | _, _, _, .dct h, k => .dct ((k _ List.mem_cons_self).trans h)
  | _, _, _, .pin q, k => .pin (Ow.mono e q k)
theorem Ows.mono (e : Same I I') : ∀ {v : List V} {o : List O} {T : List Addr}, Ows K mg I H v o T → (∀ p ∈ T, H' p = H p) → Ows K mg I' H' v o T
  | _, _, _, .nil, _ => .nil
  | _, _, _, .cons h r, k => .cons (Ow.mono e h fun p hp => k p (List.mem_append_left _ hp)) (Ows.mono e r fun p hp => k p (List.mem_append_right _ hp))
theorem OwF.mono (e : Same I I') : ∀ {v : List (Str × V)} {o : List (Str × O)} {T : List Addr}, OwF K mg I H v o T → (∀ p ∈ T, H' p = H p) → OwF K mg I' H' v o T
  | _, _, _, .nil, _ => .nil
  | _, _, _, .cons h r, k => .cons (Ow.mono e h fun p hp => k p (List.mem_append_left _ hp)) (OwF.mono e r fun p hp => k p (List.mem_append_right _ hp))
theorem OwK.mono (e : Same I I') : ∀ {v : List (Key × V)} {o : List (Key × O)} {T : List Addr}, OwK K mg I H v o T → (∀ p ∈ T, H' p = H p) → OwK K mg I' H' v o T
  | _, _, _, .nil, _ => .nil
  | _, _, _, .cons h r, k => .cons (Ow.mono e h fun p hp => k p (List.mem_append_left _ hp)) (OwK.mono e r fun p hp => k p (List.mem_append_right _ hp))
end
end
/-- all of it as data -/
def O.toD : O → D
  | .imm d => d
  | .lst l => .lst (l.attach.map fun ⟨o, _⟩ => o.toD)
  | .ins n fs => .ins n (fs.attach.map fun ⟨p, _⟩ => (p.1, p.2.toD))
  | .dic fs => .dic (fs.attach.map fun ⟨p, _⟩ => (p.1, p.2.toD))
  | .dct a _ => .adr a
  | .pin _ o => o.toD
termination_by o => sizeOf o
decreasing_by
  · rename_i h; have := List.sizeOf_lt_of_mem h; simp; omega
  · rename_i h; have := List.sizeOf_lt_of_mem h; rcases p with ⟨a, b⟩; simp at this ⊢; omega
  · rename_i h; have := List.sizeOf_lt_of_mem h; rcases p with ⟨a, b⟩; simp at this ⊢; omega
  · simp; omega
theorem O.toD_imm (d : D) : (O.imm d).toD = d := by unfold O.toD; rfl
theorem O.toD_lst (l : List O) : (O.lst l).toD = .lst (l.map O.toD) := by
  unfold O.toD
  simp
theorem O.toD_ins (n : Str) (fs : List (Str × O)) : (O.ins n fs).toD = .ins n (fs.map fun p => (p.1, p.2.toD)) := by
  rw [O.toD]
  congr 1
  exact List.attach_map_val (l := fs) (f := fun p : Str × O => (p.1, p.2.toD))
theorem O.toD_pin (v : V) (o : O) : (O.pin v o).toD = o.toD := by rw [O.toD]
theorem O.toD_dct (a : Addr) (kvs : List (List Key × V)) : (O.dct a kvs).toD = .adr a := by rw [O.toD]
theorem O.toD_dic (fs : List (Key × O)) : (O.dic fs).toD = .dic (fs.map fun p => (p.1, p.2.toD)) := by
  rw [O.toD]
  congr 1
  exact List.attach_map_val (l := fs) (f := fun p : Key × O => (p.1, p.2.toD))
section
variable {K : PySem.W.Frag} {mg : Str → Option Value} {I H : Hp}
mutual
/-- in a heap that holds both -/
theorem Ow.toR {G : Hp} (e : Same I G) : ∀ {v : V} {o : O} {T : List Addr}, Ow K mg I H v o T → (∀ p ∈ T, G p = H p) → R K mg G v o.toD
  | _, _, _, .imm r, _ => by rw [O.toD_imm]; exact r.mono e
  | _, _, _, .lst h r, k => by rw [O.toD_lst]; exact .lst (.of ((k _ List.mem_cons_self).trans h)) (Ows.toR e r fun p hp => k p (List.mem_cons_of_mem _ hp))
  | _, _, _, .ins q h r, k => by rw [O.toD_ins]; exact .ins q ((k _ List.mem_cons_self).trans h) (OwF.toR e r fun p hp => k p (List.mem_cons_of_mem _ hp))
  | _, _, _, .dic h r, k => by rw [O.toD_dic]; exact .dic ((k _ List.mem_cons_self).trans h) (OwK.toR e r fun p hp => k p (List.mem_cons_of_mem _ hp))
  | _, _, _, .dct h, k => by rw [O.toD_dct]; exact .adr _
  | _, _, _, .pin q, k => by rw [O.toD_pin]; exact Ow.toR e q k
theorem Ows.toR {G : Hp} (e : Same I G) : ∀ {v : List V} {o : List O} {T : List Addr}, Ows K mg I H v o T → (∀ p ∈ T, G p = H p) → Rs K mg G v (o.map O.toD)
  | _, _, _, .nil, _ => .nil
  | _, _, _, .cons h r, k => .cons (Ow.toR e h fun p hp => k p (List.mem_append_left _ hp)) (Ows.toR e r fun p hp => k p (List.mem_append_right _ hp))
theorem OwF.toR {G : Hp} (e : Same I G) : ∀ {v : List (Str × V)} {o : List (Str × O)} {T : List Addr}, OwF K mg I H v o T → (∀ p ∈ T, G p = H p) → RF K mg G v (o.map fun p => (p.1, p.2.toD))
  | _, _, _, .nil, _ => .nil
  | _, _, _, .cons h r, k => .cons (Ow.toR e h fun p hp => k p (List.mem_append_left _ hp)) (OwF.toR e r fun p hp => k p (List.mem_append_right _ hp))
theorem OwK.toR {G : Hp} (e : Same I G) : ∀ {v : List (Key × V)} {o : List (Key × O)} {T : List Addr}, OwK K mg I H v o T → (∀ p ∈ T, G p = H p) → RK K mg G v (o.map fun p => (p.1, p.2.toD))
  | _, _, _, .nil, _ => .nil
  | _, _, _, .cons h r, k => .cons (Ow.toR e h fun p hp => k p (List.mem_append_left _ hp)) (OwK.toR e r fun p hp => k p (List.mem_append_right _ hp))
end
/-- lists of plain things -/
theorem Ows.of_imm : ∀ {v : List V} {d : List D}, Rs K mg I v d → Ows K mg I H v (d.map O.imm) []
  | _, _, .nil => .nil
  | _, _, .cons h r => .cons (T := []) (T' := []) (.imm h) (Ows.of_imm r)
theorem Ows.imm : ∀ {v : List V} {d : List D} {T : List Addr}, Ows K mg I H v (d.map O.imm) T → T = [] ∧ Rs K mg I v d
  | _, [], _, .nil => ⟨rfl, .nil⟩
  | _, d :: ds, _, .cons (.imm h) r => by
    obtain ⟨e, q⟩ := Ows.imm r
    subst e
    exact ⟨rfl, .cons h q⟩
end

/-! ### slots -/
inductive SL where
  | any | val (o : O)
inductive Sls (K : PySem.W.Frag) (mg : Str → Option Value) (I H : Hp) : L2.St → List SL → List Addr → Prop
  | nil : Sls K mg I H [] [] []
  | any {x : Option V} {σ : L2.St} {Γ : List SL} {T : List Addr} : Sls K mg I H σ Γ T → Sls K mg I H (x :: σ) (.any :: Γ) T
  | val {v : V} {o : O} {σ : L2.St} {Γ : List SL} {T T' : List Addr} : Ow K mg I H v o T → Sls K mg I H σ Γ T' → Sls K mg I H (some v :: σ) (.val o :: Γ) (T ++ T')

/-- from one pair of worlds to the next: I immutable, H all; T owned -/
structure Wd (I0 H0 I H : Hp) (T : List Addr) : Prop where
  ih : Same I H
  i0 : Same I0 I
  h0 : Same H0 H
  fr : ∀ p ∈ T, I p = none ∧ H0 p = none
  nd : T.Nodup
  sep : ∀ p, H0 p ≠ none → I0 p = none → I p = none
abbrev Gr (I H I' H' : Hp) : Prop := Wd I H I' H' []
theorem Gr.refl {I H : Hp} (h : Same I H) : Gr I H I H := ⟨h, .refl _, .refl _, fun _ z => (nomatch z), List.nodup_nil, fun _ _ z => z⟩
theorem Wd.gr {I0 H0 I H I' H' : Hp} {T : List Addr} (w : Wd I0 H0 I H T) (hT : ∀ p ∈ T, H p ≠ none) (g : Gr I H I' H') : Wd I0 H0 I' H' T :=
  ⟨g.ih, w.i0.trans g.i0, w.h0.trans g.h0, fun p hp => ⟨g.sep p (hT p hp) (w.fr p hp).1, (w.fr p hp).2⟩, w.nd, fun p h h' => by
    have h1 := w.sep p h h'
    refine g.sep p ?_ h1
    cases q : H0 p with
    | none => exact absurd q h
    | some o => rw [w.h0 p o q]; simp⟩
theorem Gr.trans {I H I1 H1 I2 H2 : Hp} (a : Gr I H I1 H1) (b : Gr I1 H1 I2 H2) : Gr I H I2 H2 := Wd.gr a (fun _ z => (nomatch z)) b
/-- a new immutable object -/
theorem Gr.new {I H : Hp} {p : Addr} {o : HO} (h : Same I H) (hp : H p = none) : Gr I H (upd I p o) (upd H p o) := by
  have ip : I p = none := h.free hp
  refine ⟨fun b u e => ?_, fun b u e => ?_, fun b u e => ?_, fun _ z => (nomatch z), List.nodup_nil, fun b hb hi => ?_⟩
  · by_cases hbp : b = p
    · subst hbp; rw [upd_same] at e ⊢; exact e
    · rw [upd_ne hbp] at e ⊢; exact h b u e
  · rw [upd_ne (ne_of_none e ip)]; exact e
  · rw [upd_ne (ne_of_none e hp)]; exact e
  · rw [upd_ne (fun z => hb (by rw [z]; exact hp))]; exact hi
theorem Gr.refl' {I0 H0 I H : Hp} {T : List Addr} (h : Wd I0 H0 I H T) : Gr I H I H := .refl h.ih

section
variable {K : PySem.W.Frag} {mg : Str → Option Value} {I H I' H' : Hp}
mutual
theorem Ow.there : ∀ {v : V} {o : O} {T : List Addr}, Ow K mg I H v o T → ∀ p ∈ T, ∃ x, H p = some x
  | _, _, _, .imm _, _, h => nomatch h
  | _, _, _, .lst h r, p, hp => by
    rcases List.mem_cons.mp hp with e | e
    · subst e; exact ⟨_, h⟩
    · exact Ows.there r p e
  | _, _, _, .ins _ h r, p, hp => by
    rcases List.mem_cons.mp hp with e | e
    · subst e; exact ⟨_, h⟩
    · exact OwF.there r p e
  | _, _, _, .dct h, p, hp => by
    rw [List.mem_singleton.mp hp]
    exact ⟨_, h⟩
  | _, _, _, .dic h r, p, hp => by
    rcases List.mem_cons.mp hp with e | e
    · subst e; exact ⟨_, h⟩
    · exact OwK.there r p e
  | _, _, _, .pin q, p, hp => Ow.there q p hp
theorem Ows.there : ∀ {v : List V} {o : List O} {T : List Addr}, Ows K mg I H v o T → ∀ p ∈ T, ∃ x, H p = some x
  | _, _, _, .nil, _, h => nomatch h
  | _, _, _, .cons h r, p, hp => by
    rcases List.mem_append.mp hp with e | e
    · exact Ow.there h p e
    · exact Ows.there r p e
theorem OwF.there : ∀ {v : List (Str × V)} {o : List (Str × O)} {T : List Addr}, OwF K mg I H v o T → ∀ p ∈ T, ∃ x, H p = some x
  | _, _, _, .nil, _, h => nomatch h
  | _, _, _, .cons h r, p, hp => by
    rcases List.mem_append.mp hp with e | e
    · exact Ow.there h p e
    · exact OwF.there r p e
theorem OwK.there : ∀ {v : List (Key × V)} {o : List (Key × O)} {T : List Addr}, OwK K mg I H v o T → ∀ p ∈ T, ∃ x, H p = some x
  | _, _, _, .nil, _, h => nomatch h
  | _, _, _, .cons h r, p, hp => by
    rcases List.mem_append.mp hp with e | e
    · exact Ow.there h p e
    · exact OwK.there r p e
end
theorem Sls.there : ∀ {σ : L2.St} {Γ : List SL} {T : List Addr}, Sls K mg I H σ Γ T → ∀ p ∈ T, ∃ x, H p = some x
  | _, _, _, .nil, _, h => nomatch h
  | _, _, _, .any r, p, hp => Sls.there r p hp
  | _, _, _, .val h r, p, hp => by
    rcases List.mem_append.mp hp with e | e
    · exact Ow.there h p e
    · exact Sls.there r p e
theorem Sls.mono (e : Same I I') : ∀ {σ : L2.St} {Γ : List SL} {T : List Addr}, Sls K mg I H σ Γ T → (∀ p ∈ T, H' p = H p) → Sls K mg I' H' σ Γ T
  | _, _, _, .nil, _ => .nil
  | _, _, _, .any r, k => .any (Sls.mono e r k)
  | _, _, _, .val h r, k => .val (Ow.mono e h fun p hp => k p (List.mem_append_left _ hp)) (Sls.mono e r fun p hp => k p (List.mem_append_right _ hp))
theorem Sls.length : ∀ {σ : L2.St} {Γ : List SL} {T : List Addr}, Sls K mg I H σ Γ T → σ.length = Γ.length
  | _, _, _, .nil => rfl
  | _, _, _, .any r => congrArg (· + 1) (Sls.length r)
  | _, _, _, .val _ r => congrArg (· + 1) (Sls.length r)
theorem Sls.gr {σ : L2.St} {Γ : List SL} {T : List Addr} (s : Sls K mg I H σ Γ T) (g : Gr I H I' H') : Sls K mg I' H' σ Γ T :=
  s.mono g.i0 fun p hp => by
    obtain ⟨xs, e⟩ := s.there p hp
    rw [e]; exact g.h0 p _ e
/-- what a slot holds -/
theorem Sls.get : ∀ {σ : L2.St} {Γ : List SL} {T : List Addr} {i : Nat} {o : O}, Sls K mg I H σ Γ T → Γ[i]? = some (.val o) → ∃ v T1 T2 T3, σ[i]? = some (some v) ∧ T = T1 ++ (T2 ++ T3) ∧ Ow K mg I H v o T2
  | _, _, _, _, _, .nil, h => by simp at h
  | _, _, _, 0, _, .any r, h => by simp at h
  | _, _, _, 0, _, .val (T := T) (T' := T') q r, h => by simp at h; subst h; exact ⟨_, [], T, T', rfl, by simp, q⟩
  | _, _, _, i + 1, _, .any r, h => by
    obtain ⟨v, T1, T2, T3, h1, h2, h3⟩ := Sls.get (i := i) r (by simpa using h)
    exact ⟨v, T1, T2, T3, by simpa using h1, h2, h3⟩
  | _, _, _, i + 1, _, .val (T := T) (T' := T') q r, h => by
    obtain ⟨v, T1, T2, T3, h1, h2, h3⟩ := Sls.get (i := i) r (by simpa using h)
    exact ⟨v, T ++ T1, T2, T3, by simpa using h1, by rw [h2]; simp [List.append_assoc], h3⟩
theorem Sls.imm {σ : L2.St} {Γ : List SL} {T : List Addr} {i : Nat} {d : D} (s : Sls K mg I H σ Γ T) (h : Γ[i]? = some (.val (.imm d))) : ∃ v, σ[i]? = some (some v) ∧ R K mg I v d := by
  obtain ⟨v, T1, T2, T3, h1, h2, h3⟩ := s.get h
  cases h3 with
  | imm r => exact ⟨v, h1, r⟩
/-- a slot is given anew; what stood there goes -/
theorem Sls.put : ∀ {σ : L2.St} {Γ : List SL} {T T2 : List Addr} {i : Nat} {v : V} {o : O}, Sls K mg I H σ Γ T → i < Γ.length → Ow K mg I H v o T2 →
    ∃ T', Sls K mg I H (σ.set i (some v)) (Γ.set i (.val o)) T' ∧ (∀ p, p ∈ T' → p ∈ T2 ∨ p ∈ T) ∧ ((T2 ++ T).Nodup → T'.Nodup)
  | _, _, _, _, i, _, _, .nil, h, _ => by simp at h
  | _, _, _, T2, 0, v, o, .any r, _, q => ⟨_, .val q r, fun p hp => List.mem_append.mp hp, fun n => n⟩
  | _, _, _, T2, 0, v, o, .val (T := T) (T' := T') _ r, _, q => ⟨_, .val q r, fun p hp => (List.mem_append.mp hp).imp id fun z => List.mem_append_right _ z, fun n => by
      refine n.sublist ?_
      exact (List.Sublist.refl _).append (List.sublist_append_right _ _)⟩
  | _, _, _, T2, i + 1, v, o, .any r, h, q => by
    obtain ⟨T', s, k, n⟩ := Sls.put (i := i) r (by simpa using h) q
    exact ⟨T', .any s, k, n⟩
  | _, _, _, T2, i + 1, v, o, .val (T := T) (T' := T') w r, h, q => by
    obtain ⟨T3, s, k, n⟩ := Sls.put (i := i) r (by simpa using h) q
    refine ⟨T ++ T3, .val w s, fun p hp => ?_, fun nd => ?_⟩
    · rcases List.mem_append.mp hp with z | z
      · exact .inr (List.mem_append_left _ z)
      · exact (k p z).imp id fun z => List.mem_append_right _ z
    · obtain ⟨n1, n2, n3⟩ := List.nodup_append.mp nd
      obtain ⟨m1, m2, m3⟩ := List.nodup_append.mp n2
      refine List.nodup_append.mpr ⟨m1, n (List.nodup_append.mpr ⟨n1, m2, fun a ha b hb => n3 a ha b (List.mem_append_right _ hb)⟩), fun a ha b hb => ?_⟩
      rcases k b hb with z | z
      · exact fun e => n3 b z a (List.mem_append_left _ ha) e.symm
      · exact m3 a ha b z
/-- what is forgotten -/
inductive Sub : List SL → List SL → Prop
  | nil : Sub [] []
  | any {a : SL} {Γ Γ' : List SL} : Sub Γ Γ' → Sub (a :: Γ) (.any :: Γ')
  | eq {a : SL} {Γ Γ' : List SL} : Sub Γ Γ' → Sub (a :: Γ) (a :: Γ')
theorem Sub.refl : ∀ Γ, Sub Γ Γ
  | [] => .nil
  | a :: Γ => .eq (Sub.refl Γ)
theorem Sls.sub : ∀ {σ : L2.St} {Γ Γ' : List SL} {T : List Addr}, Sub Γ Γ' → Sls K mg I H σ Γ T → ∃ T', Sls K mg I H σ Γ' T' ∧ T'.Sublist T
  | _, _, _, _, .nil, .nil => ⟨[], .nil, .refl _⟩
  | _, _, _, _, .any w, .any r => let ⟨T', s, k⟩ := Sls.sub w r; ⟨T', .any s, k⟩
  | _, _, _, _, .any w, .val h r => let ⟨T', s, k⟩ := Sls.sub w r; ⟨T', .any s, k.trans (List.sublist_append_right _ _)⟩
  | _, _, _, _, .eq w, .any r => let ⟨T', s, k⟩ := Sls.sub w r; ⟨T', .any s, k⟩
  | _, _, _, _, .eq w, .val h r => let ⟨T', s, k⟩ := Sls.sub w r; ⟨_ ++ T', .val h s, (List.Sublist.refl _).append k⟩
end

/-- an expression's match: immutable world, all, slots -/
structure Mw (K : PySem.W.Frag) (mg : Str → Option Value) (Γ : List SL) (σ : L2.St) (I H : Hp) (T : List Addr) : Prop where
  ih : Same I H
  fr : ∀ p ∈ T, I p = none
  nd : T.Nodup
  sl : Sls K mg I H σ Γ T
theorem Mw.gr {K : PySem.W.Frag} {mg : Str → Option Value} {Γ : List SL} {σ : L2.St} {I H I' H' : Hp} {T : List Addr} (m : Mw K mg Γ σ I H T) (g : Gr I H I' H') : Mw K mg Γ σ I' H' T :=
  ⟨g.ih, fun p hp => g.sep p (by obtain ⟨xs, e⟩ := m.sl.there p hp; rw [e]; simp) (m.fr p hp), m.nd, m.sl.gr g⟩
/-- a statement's -/
structure Mt (K : PySem.W.Frag) (mg : Str → Option Value) (I0 H0 : Hp) (Γ : List SL) (σ : L2.St) (I H : Hp) (T : List Addr) : Prop where
  wd : Wd I0 H0 I H T
  sl : Sls K mg I H σ Γ T
section
variable {K : PySem.W.Frag} {mg : Str → Option Value} {I0 H0 : Hp} {Γ Γ' : List SL} {σ : L2.St} {I H I' H' : Hp} {T : List Addr}
theorem Mt.mw (m : Mt K mg I0 H0 Γ σ I H T) : Mw K mg Γ σ I H T := ⟨m.wd.ih, fun p hp => (m.wd.fr p hp).1, m.wd.nd, m.sl⟩
theorem Mt.gr (m : Mt K mg I0 H0 Γ σ I H T) (g : Gr I H I' H') : Mt K mg I0 H0 Γ σ I' H' T :=
  ⟨m.wd.gr (fun p hp => by obtain ⟨xs, e⟩ := m.sl.there p hp; rw [e]; simp) g, m.sl.gr g⟩
theorem Wd.subl {T' : List Addr} (w : Wd I0 H0 I H T) (h : T'.Sublist T) : Wd I0 H0 I H T' := ⟨w.ih, w.i0, w.h0, fun p hp => w.fr p (h.subset hp), w.nd.sublist h, w.sep⟩
theorem Mt.sub (m : Mt K mg I0 H0 Γ σ I H T) (h : Sub Γ Γ') : ∃ T', Mt K mg I0 H0 Γ' σ I H T' := by
  obtain ⟨T', s, k⟩ := m.sl.sub h
  exact ⟨T', m.wd.subl k, s⟩
theorem Mt.put {i : Nat} {v : V} {o : O} {T2 : List Addr} (m : Mt K mg I0 H0 Γ σ I H T) (hi : i < Γ.length) (q : Ow K mg I H v o T2) (w : Wd I0 H0 I H (T2 ++ T)) :
    ∃ T', Mt K mg I0 H0 (Γ.set i (.val o)) (σ.set i (some v)) I H T' := by
  obtain ⟨T', s, k, n⟩ := m.sl.put hi q
  exact ⟨T', ⟨w.ih, w.i0, w.h0, fun p hp => w.fr p ((k p hp).elim (List.mem_append_left _) (List.mem_append_right _)), n w.nd, w.sep⟩, s⟩
theorem Mt.putI {i : Nat} {v : V} {d : D} (m : Mt K mg I0 H0 Γ σ I H T) (hi : i < Γ.length) (q : R K mg I v d) : ∃ T', Mt K mg I0 H0 (Γ.set i (.val (.imm d))) (σ.set i (some v)) I H T' :=
  m.put hi (.imm q) m.wd
end
end Vc

set_option Elab.async false
set_option linter.all false
set_option maxRecDepth 100000
namespace Vc
open PySem PySem.Spec PyProof.Rows L2

/-! ### typed data -/
class Enc (α : Type) where
  enc : α → D
open Enc (enc)
class Atm (α : Type) [Enc α] : Prop where
  atm : ∀ a : α, atom (enc a) = true
instance : Enc Int := ⟨D.int⟩
instance : Enc Bool := ⟨D.bl⟩
instance : Enc Str := ⟨D.str⟩
instance : Enc Unit := ⟨fun _ => .non⟩
instance {α : Type} [Enc α] : Enc (List α) := ⟨fun l => .lst (l.map enc)⟩
instance {α : Type} [Enc α] : Enc (Option α) := ⟨fun o => match o with | none => .non | some a => enc a⟩
instance {α β : Type} [Enc α] [Enc β] : Enc (α ⊕ β) := ⟨fun o => match o with | .inl a => enc a | .inr a => enc a⟩
instance {α β : Type} [Enc α] [Enc β] : Enc (α × β) := ⟨fun p => .tup [enc p.1, enc p.2]⟩
/-- a tuple of any length -/
structure Tup (α : Type) where
  l : List α
instance {α : Type} [Enc α] : Enc (Tup α) := ⟨fun p => .tup (p.l.map enc)⟩
structure T3 (α β γ : Type) where
  a : α
  b : β
  c : γ
  deriving DecidableEq
structure T4 (α β γ δ : Type) where
  a : α
  b : β
  c : γ
  d : δ
  deriving DecidableEq
structure T5 (α β γ δ ε : Type) where
  a : α
  b : β
  c : γ
  d : δ
  e : ε
  deriving DecidableEq
instance {α β γ : Type} [Enc α] [Enc β] [Enc γ] : Enc (T3 α β γ) := ⟨fun p => .tup [enc p.a, enc p.b, enc p.c]⟩
instance {α β γ δ : Type} [Enc α] [Enc β] [Enc γ] [Enc δ] : Enc (T4 α β γ δ) := ⟨fun p => .tup [enc p.a, enc p.b, enc p.c, enc p.d]⟩
instance {α β γ δ ε : Type} [Enc α] [Enc β] [Enc γ] [Enc δ] [Enc ε] : Enc (T5 α β γ δ ε) := ⟨fun p => .tup [enc p.a, enc p.b, enc p.c, enc p.d, enc p.e]⟩
instance : Atm Int := ⟨fun _ => rfl⟩
instance : Atm Bool := ⟨fun _ => rfl⟩
instance : Atm Str := ⟨fun _ => rfl⟩
instance : Atm Unit := ⟨fun _ => rfl⟩
instance {α : Type} [Enc α] [Atm α] : Atm (Option α) := ⟨fun o => match o with | none => rfl | some a => Atm.atm a⟩
instance {α β : Type} [Enc α] [Enc β] [Atm α] [Atm β] : Atm (α ⊕ β) := ⟨fun o => match o with | .inl a => Atm.atm a | .inr a => Atm.atm a⟩

abbrev sI {α : Type} [Enc α] (a : α) : SL := .val (.imm (enc a))
/-- an owned list -/
def ow1 {α : Type} [Enc α] (l : List α) : O := .lst (l.map fun a => O.imm (enc a))
/-- an owned list of owned lists -/
def ow2 {α : Type} [Enc α] (l : List (List α)) : O := .lst (l.map ow1)
abbrev sO {α : Type} [Enc α] (l : List α) : SL := .val (ow1 l)
theorem ow1_toD {α : Type} [Enc α] (l : List α) : (ow1 l).toD = enc l := by
  unfold ow1
  rw [O.toD_lst]
  show D.lst _ = D.lst _
  rw [List.map_map]
  congr 1
  apply List.map_congr_left
  intro a _
  exact O.toD_imm _

/-! ### exceptions -/
structure ExcAt (K : PySem.W.Frag) (mg : Str → Option Value) (I : Hp) (ex : Exn) (cl : Value) (d : Option Addr) : Prop where
  cls : mg ex.nm = some cl
  non : ex.fs = [] → d = none
  fld : ex.fs ≠ [] → ∃ dd vs, d = some dd ∧ I dd = some (.xd vs) ∧ RF K mg I vs ex.fs

/-! ### canonical readings -/
structure tOf (X : Cx) (e : Expr) (σ : L2.St) (H : Hp) (Q : VK) : Prop where
  run : ∀ pins s, Inv X pins σ H s → wpAny (model X.prog X.w) X.A (eval e X.env) (EP X pins σ Q) X.xe s
structure kOf (X : Cx) (e : Expr) (σ : L2.St) (H : Hp) (Q : Bool → Hp → Prop) : Prop where
  run : ∀ pins s, Inv X pins σ H s → wpAny (model X.prog X.w) X.A (isTrue e X.env (eval e X.env)) (TP X pins σ Q) X.xe s
structure wOf (X : Cx) (e : Expr) (σ : L2.St) (H : Hp) (Q : Bool → Hp → Prop) : Prop where
  run : ∀ whole pins s, Inv X pins σ H s → wpAny (model X.prog X.w) X.A (isTrue e X.env whole) (TP X pins σ Q) X.xe s
structure aOf (X : Cx) (es : List Expr) (σ : L2.St) (H : Hp) (Q : List V → Hp → Prop) : Prop where
  run : ∀ pos pins s, Inv X pins σ H s → wpAny (model X.prog X.w) X.A (spliced (backTo pos (starEach es X.env))) (AP X pins σ Q) X.xe s
structure sOf (X : Cx) (st : List Stmt) (D : Ends) (σ : L2.St) (H : Hp) : Prop where
  run : ∀ pins s, Inv X pins σ H s → wpAny (model X.prog X.w) X.A (execs st X.env) (SP X pins D) X.xe s
structure s1Of (X : Cx) (st : Stmt) (D : Ends) (σ : L2.St) (H : Hp) : Prop where
  run : ∀ pins s, Inv X pins σ H s → wpAny (model X.prog X.w) X.A (exec st X.env) (SP X pins D) X.xe s
structure gOf (X : Cx) (tg : Expr) (v : V) (σ : L2.St) (H : Hp) (Q : L2.St → Hp → Prop) : Prop where
  run : ∀ pins s u, Inv X pins σ H s → RelV v u → wpAny (model X.prog X.w) X.A (assign tg X.env u) (fun _ s' => ∃ σ' H', Inv X pins σ' H' s' ∧ Q σ' H') X.xe s
structure gsOf (X : Cx) (ts : List Expr) (vs : List V) (σ : L2.St) (H : Hp) (Q : L2.St → Hp → Prop) : Prop where
  run : ∀ pins s us, Inv X pins σ H s → Vals vs us → wpAny (model X.prog X.w) X.A (assignInOrder ((assignEach ts X.env).map (·.2)) us) (fun _ s' => ∃ σ' H', Inv X pins σ' H' s' ∧ Q σ' H') X.xe s
structure iOf (X : Cx) (tg e : Expr) (σ : L2.St) (H : Hp) (R : It → Hp → Prop) : Prop where
  run : ∀ pins s, Inv X pins σ H s → wpAny (model X.prog X.w) X.A (eval e X.env) (fun v s1 => wpAny (model X.prog X.w) X.A (pyIter v) (PIE X pins σ tg R) X.xe s1) X.xe s
section
variable {X : Cx} {e tg : Expr} {es : List Expr} {st : Stmt} {sts : List Stmt}
theorem pe_of : PE X e (tOf X e) := ⟨fun pins s σ H Q I h => h.run pins s I⟩
theorem pt_of : PT X e (kOf X e) := ⟨fun pins s σ H Q I h => h.run pins s I⟩
theorem pw_of : PW X e (wOf X e) := ⟨fun wh pins s σ H Q I h => h.run wh pins s I⟩
theorem pa_of : PA X es (aOf X es) := ⟨fun pos pins s σ H Q I h => h.run pos pins s I⟩
theorem pss_of : PSs X sts (sOf X sts) := ⟨fun pins s σ H D I h => h.run pins s I⟩
theorem ps_of : PS X st (s1Of X st) := ⟨fun pins s σ H D I h => h.run pins s I⟩
theorem pg_of : PG X tg (gOf X tg) := ⟨fun pins s σ H v u Q I r h => h.run pins s u I r⟩
theorem pgs_of : PGs X es (gsOf X es) := ⟨fun pins s σ H v u Q I r h => h.run pins s u I r⟩
theorem pi_of : PI X tg e (iOf X tg e) := ⟨fun pins s σ H R I h => h.run pins s I⟩
theorem to_t {t : TE} {σ : L2.St} {H : Hp} {Q : VK} (p : PE X e t) (h : t σ H Q) : tOf X e σ H Q := ⟨fun pins s I => p.run pins s σ H Q I h⟩
theorem to_k {t : TT} {σ : L2.St} {H : Hp} {Q : Bool → Hp → Prop} (p : PT X e t) (h : t σ H Q) : kOf X e σ H Q := ⟨fun pins s I => p.run pins s σ H Q I h⟩
theorem to_w {t : TT} {σ : L2.St} {H : Hp} {Q : Bool → Hp → Prop} (p : PW X e t) (h : t σ H Q) : wOf X e σ H Q := ⟨fun wh pins s I => p.run wh pins s σ H Q I h⟩
theorem to_a {t : TA} {σ : L2.St} {H : Hp} {Q : List V → Hp → Prop} (p : PA X es t) (h : t σ H Q) : aOf X es σ H Q := ⟨fun pos pins s I => p.run pos pins s σ H Q I h⟩
theorem to_s {t : TS} {σ : L2.St} {H : Hp} {D : Ends} (p : PSs X sts t) (h : t D σ H) : sOf X sts D σ H := ⟨fun pins s I => p.run pins s σ H D I h⟩
theorem to_s1 {t : TS} {σ : L2.St} {H : Hp} {D : Ends} (p : PS X st t) (h : t D σ H) : s1Of X st D σ H := ⟨fun pins s I => p.run pins s σ H D I h⟩
theorem to_g {t : TG} {v : V} {σ : L2.St} {H : Hp} {Q : L2.St → Hp → Prop} (p : PG X tg t) (h : t v σ H Q) : gOf X tg v σ H Q := ⟨fun pins s u I r => p.run pins s σ H v u Q I r h⟩
theorem to_gs {t : TGs} {v : List V} {σ : L2.St} {H : Hp} {Q : L2.St → Hp → Prop} (p : PGs X es t) (h : t v σ H Q) : gsOf X es v σ H Q := ⟨fun pins s u I r => p.run pins s σ H v u Q I r h⟩
theorem to_i {t : TI} {σ : L2.St} {H : Hp} {R : It → Hp → Prop} (p : PI X tg e t) (h : t σ H R) : iOf X tg e σ H R := ⟨fun pins s I => p.run pins s σ H R I h⟩
end

/-! ### judgements -/
/-- where the value may be read: all that stands (true), or the immutable world -/
def wsel (b : Bool) (I H : Hp) : Hp := if b then H else I
theorem wsel_same {b : Bool} {I H I' H' : Hp} (g : Gr I H I' H') : Same (wsel b I H) (wsel b I' H') := by
  cases b
  · exact g.i0
  · exact g.h0
theorem wsel_le {b : Bool} {I H : Hp} (h : Same I H) : Same (wsel b I H) H := by
  cases b
  · exact h
  · exact .refl _
def XO (X : Cx) (W : WX) (σ : L2.St) (I H : Hp) (ex : Exn) : Prop := ∀ cl d I' H', Gr I H I' H' → ExcAt X.K X.mg I' ex cl d → W cl d σ H'
/-- e's value in Γ is m's -/
def VX (b : Bool) (X : Cx) (Γ : List SL) (e : Expr) {α : Type} [Enc α] (m : M α) : Prop :=
  ∀ (W : WX), L2N.Takes X W → ∀ σ I H T, Mw X.K X.mg Γ σ I H T → ∀ Q : VK,
    Out m (fun a => ∀ v I' H', Gr I H I' H' → R X.K X.mg (wsel b I' H') v (enc a) → Q v H') (XO X W σ I H) → tOf X e σ H Q
abbrev VE (X : Cx) (Γ : List SL) (e : Expr) {α : Type} [Enc α] (m : M α) : Prop := VX false X Γ e m
/-- the value is new and owned -/
def VO (X : Cx) (Γ : List SL) (e : Expr) {α : Type} (o : α → O) (m : M α) : Prop :=
  ∀ (W : WX), L2N.Takes X W → ∀ σ I H T, Mw X.K X.mg Γ σ I H T → ∀ Q : VK,
    Out m (fun a => ∀ v I' H' T2, Wd I H I' H' T2 → Ow X.K X.mg I' H' v (o a) T2 → Q v H') (XO X W σ I H) → tOf X e σ H Q
/-- a test -/
def VT (X : Cx) (Γ : List SL) (e : Expr) (m : M Bool) : Prop :=
  ∀ (W : WX), L2N.Takes X W → ∀ σ I H T, Mw X.K X.mg Γ σ I H T → ∀ Q : Bool → Hp → Prop,
    Out m (fun a => ∀ I' H', Gr I H I' H' → Q a H') (XO X W σ I H) → kOf X e σ H Q
def VW (X : Cx) (Γ : List SL) (e : Expr) (m : M Bool) : Prop :=
  ∀ (W : WX), L2N.Takes X W → ∀ σ I H T, Mw X.K X.mg Γ σ I H T → ∀ Q : Bool → Hp → Prop,
    Out m (fun a => ∀ I' H', Gr I H I' H' → Q a H') (XO X W σ I H) → wOf X e σ H Q
/-- arguments -/
def VA (b : Bool) (X : Cx) (Γ : List SL) (es : List Expr) {A : Type} (ea : A → List D) (m : M A) : Prop :=
  ∀ (W : WX), L2N.Takes X W → ∀ σ I H T, Mw X.K X.mg Γ σ I H T → ∀ Q : List V → Hp → Prop,
    Out m (fun a => ∀ vs I' H', Gr I H I' H' → Rs X.K X.mg (wsel b I' H') vs (ea a) → Q vs H') (XO X W σ I H) → aOf X es σ H Q

theorem XO.gr {X : Cx} {W : WX} {σ : L2.St} {I H I' H' : Hp} {ex : Exn} (h : XO X W σ I H ex) (g : Gr I H I' H') : XO X W σ I' H' ex := fun cl d I2 H2 g2 a => h cl d I2 H2 (g.trans g2) a

section
variable {X : Cx} {Γ : List SL} {e a b c : Expr} {es : List Expr} {pos : Pos} {α β γ : Type} [Enc α] [Enc β] [Enc γ] {w w' : Bool}
theorem VX.le {m : M α} (h : VE X Γ e m) : VX w X Γ e m := fun W tk σ I H T mw Q o => h W tk σ I H T mw Q (o.mono (fun a _ k v I' H' g r => k v I' H' g (by
  cases w
  · exact r
  · exact r.mono g.ih)) fun _ _ k => k)
theorem VX.br {m : M α} (h : VX w X Γ e m) : VX true X Γ e m := fun W tk σ I H T mw Q o => h W tk σ I H T mw Q (o.mono (fun a _ k v I' H' g r => k v I' H' g (by
  cases w
  · exact r.mono g.ih
  · exact r)) fun _ _ k => k)
theorem VX.atm [Atm α] {m : M α} (h : VX w X Γ e m) : VX w' X Γ e m := fun W tk σ I H T mw Q o => h W tk σ I H T mw Q (o.mono (fun a _ k v I' H' g r => k v I' H' g (r.atom (Atm.atm a))) fun _ _ k => k)
/-- what the reading of an expression asks, from what is known of its values -/
theorem VX.ap {m : M α} (h : VX w X Γ e m) {W : WX} (tk : L2N.Takes X W) {σ : L2.St} {I H : Hp} {T : List Addr} (mw : Mw X.K X.mg Γ σ I H T) {Q : VK} {P : α → Prop} {E : Exn → Prop} (o : Out m P E)
    (hP : ∀ a, m = .ok a → P a → ∀ v I' H', Gr I H I' H' → R X.K X.mg (wsel w I' H') v (enc a) → Q v H') (hE : ∀ ex, E ex → XO X W σ I H ex) : tOf X e σ H Q :=
  h W tk σ I H T mw Q (o.mono hP fun ex _ k => hE ex k)
theorem VX.congr {m m' : M α} (h : VX w X Γ e m) (q : m = m') : VX w X Γ e m' := q ▸ h

/-! ### names, constants -/
theorem ve_var (i : Nat) {x : Str} {p : Pos} {a : α} (hΓ : Γ[i]? = some (sI a) := by rfl) (hN : X.N[i]? = some x := by rfl) (hv : Vis X.env.scope x := by first | exact Or.inl rfl | exact Or.inr (Or.inl rfl) | exact Or.inr (Or.inr rfl))
    (hd : (x == ("__debug__" : Str)) = false := by decide) (hcd : (x == ("__classdict__" : Str)) = false := by decide) : VX w X Γ (.Name x p) (.ok a) := fun W tk σ I H T mw Q o => by
  obtain ⟨v, h1, r⟩ := mw.sl.imm hΓ
  exact to_t (pe_var hN hv hd hcd) ⟨v, h1, o v I H (.refl mw.ih) (by
    cases w
    · exact r
    · exact r.mono mw.ih)⟩
/-- an owned name, read -/
theorem vb_own (i : Nat) {x : Str} {p : Pos} {l : List α} (hΓ : Γ[i]? = some (sO l) := by rfl) (hN : X.N[i]? = some x := by rfl) (hv : Vis X.env.scope x := by first | exact Or.inl rfl | exact Or.inr (Or.inl rfl) | exact Or.inr (Or.inr rfl))
    (hd : (x == ("__debug__" : Str)) = false := by decide) (hcd : (x == ("__classdict__" : Str)) = false := by decide) : VX true X Γ (.Name x p) (M.ok l) := fun W tk σ I H T mw Q o => by
  obtain ⟨v, T1, T2, T3, h1, h2, r⟩ := mw.sl.get hΓ
  refine to_t (pe_var hN hv hd hcd) ⟨v, h1, o v I H (.refl mw.ih) ?_⟩
  have q := r.toR (G := H) mw.ih fun _ _ => rfl
  rw [ow1_toD] at q
  exact q
theorem ve_int {i : Int} {j : Nat} : VX w X Γ (.Constant (.int i) j pos) (M.ok i) := fun W tk σ I H T mw Q o => to_t pe_int (o _ I H (.refl mw.ih) (.int i))
theorem ve_bl {i : Bool} {j : Nat} : VX w X Γ (.Constant (.bool i) j pos) (M.ok i) := fun W tk σ I H T mw Q o => to_t pe_bl (o _ I H (.refl mw.ih) (.bl i))
theorem ve_str {i : Str} {j : Nat} : VX w X Γ (.Constant (.str i) j pos) (M.ok i) := fun W tk σ I H T mw Q o => to_t pe_str (o _ I H (.refl mw.ih) (.str i))
theorem ve_non {j : Nat} : VX w X Γ (.Constant .none j pos) (M.ok ()) := fun W tk σ I H T mw Q o => to_t pe_non (o _ I H (.refl mw.ih) .non)
/-- a constant of the module -/
theorem ve_glob {x : Str} {v : V} {u : Value} {p : Pos} {a : α} (hg : Gl X x) (hm : X.mg x = some u) (r : RelV v u) (h : ∀ H, R X.K X.mg H v (enc a)) (hd : (x == ("__debug__" : Str)) = false := by decide) : VX w X Γ (.Name x p) (.ok a) :=
  fun W tk σ I H T mw Q o => to_t (pe_glob hg hm r hd) (o _ I H (.refl mw.ih) (h _))

/-! ### operators -/
/-- an operator that takes values to a value -/
theorem ve_bin {op : Operator} {r : R2} {m1 : M α} {m2 : M β} {f : α → β → M γ} (ho : OpR X (binaryOp op) r) (ha : VX true X Γ a m1) (hb : VX true X Γ b m2)
    (hr : ∀ x y I H v u, Same I H → R X.K X.mg H v (enc x) → R X.K X.mg H u (enc y) → ∀ Q : VK, Out (f x y) (fun z => ∀ t I' H', Gr I H I' H' → R X.K X.mg (wsel w I' H') t (enc z) → Q t H') (fun _ => False) → r v u H Q)
    (hx : ∀ x y e, f x y ≠ .exc e) : VX w X Γ (.BinOp a op b pos) (m1 >>= fun x => m2 >>= fun y => f x y) := fun W tk σ I H T mw Q o => by
  refine to_t (pe_op ho pe_of pe_of) (ha.ap tk mw o.bind (fun x _ o1 v I1 H1 g1 r1 => ?_) fun _ z => z)
  refine hb.ap tk (mw.gr g1) o1.bind (fun y _ o2 u I2 H2 g2 r2 => ?_) fun _ z => z.gr g1
  refine hr x y I2 H2 v u g2.ih (r1.mono g2.h0) r2 Q (o2.mono (fun z _ k t I' H' g rr => k t I' H' ((g1.trans g2).trans g) rr) fun e q _ => hx x y e q)
theorem ve_binI {op : Operator} {g : Int → Int → Int} {m1 m2 : M Int} (ho : OpR X (binaryOp op) (rI0 fun i j => .int (g i j))) (ha : VX true X Γ a m1) (hb : VX true X Γ b m2) : VX w X Γ (.BinOp a op b pos) (m1 >>= fun x => m2 >>= fun y => M.ok (g x y)) :=
  ve_bin ho ha hb (fun x y I H v u s r1 r2 Q o => by
    cases r1; cases r2
    exact ⟨x, y, rfl, rfl, o _ I H (.refl s) (.int _)⟩) fun _ _ _ z => nomatch z
theorem ve_binC {op : Operator} {C : Int → Int → Prop} [∀ x y, Decidable (C x y)] {g : Int → Int → Int} {m1 m2 : M Int} (ho : OpR X (binaryOp op) (rI C fun i j => .int (g i j))) (ha : VX true X Γ a m1) (hb : VX true X Γ b m2) :
    VX w X Γ (.BinOp a op b pos) (m1 >>= fun x => m2 >>= fun y => chk (C x y) >>= fun _ => M.ok (g x y)) :=
  ve_bin ho ha hb (fun x y I H v u s r1 r2 Q o => by
    cases r1; cases r2
    obtain ⟨hc, o⟩ := o.chk
    exact ⟨x, y, rfl, rfl, hc, o _ I H (.refl s) (.int _)⟩) fun _ _ _ z => by unfold chk at z; split at z <;> cases z
theorem ve_neg {m : M Int} (ha : VX true X Γ a m) : VX w X Γ (.UnaryOp .USub a pos) (m >>= fun x => M.ok (-x)) := fun W tk σ I H T mw Q o => by
  refine to_t (pe_un un_neg pe_of) (ha.ap tk mw o.bind (fun x _ o1 v I1 H1 g1 r1 => ?_) fun _ z => z)
  cases r1
  exact ⟨x, rfl, o1 _ I1 H1 g1 (.int _)⟩
/-- comparisons of ints -/
theorem ve_cmp {op : CmpOp} {r : R2} {m1 : M α} {m2 : M β} {f : α → β → M Bool} (ho : OpR X (compareOp op) r) (ha : VX true X Γ a m1) (hb : VX true X Γ b m2) (hm : behindInMarks op b = false)
    (hr : ∀ x y H v u, R X.K X.mg H v (enc x) → R X.K X.mg H u (enc y) → ∀ Q : VK, Out (f x y) (fun z => Q (.bl z) H) (fun _ => False) → r v u H Q) (hx : ∀ x y e, f x y ≠ .exc e) : VX w X Γ (.Compare a [op] [b] pos) (m1 >>= fun x => m2 >>= fun y => f x y) := fun W tk σ I H T mw Q o => by
  refine to_t (pe_cmpR ho pe_of pe_of hm) (ha.ap tk mw o.bind (fun x _ o1 v I1 H1 g1 r1 => ?_) fun _ z => z)
  refine hb.ap tk (mw.gr g1) o1.bind (fun y _ o2 u I2 H2 g2 r2 => ?_) fun _ z => z.gr g1
  refine hr x y H2 v u (r1.mono g2.h0) r2 Q (o2.mono (fun z _ k => k _ I2 H2 (g1.trans g2) (.bl z)) fun e q _ => hx x y e q)
theorem vt_cmp {op : CmpOp} {r : R2} {m1 : M α} {m2 : M β} {f : α → β → M Bool} (ho : OpR X (compareOp op) r) (ha : VX true X Γ a m1) (hb : VX true X Γ b m2) (hm : behindInMarks op b = false)
    (hr : ∀ x y H v u, R X.K X.mg H v (enc x) → R X.K X.mg H u (enc y) → ∀ Q : VK, Out (f x y) (fun z => Q (.bl z) H) (fun _ => False) → r v u H Q) (hx : ∀ x y e, f x y ≠ .exc e) : VT X Γ (.Compare a [op] [b] pos) (m1 >>= fun x => m2 >>= fun y => f x y) := fun W tk σ I H T mw Q o => by
  refine to_k (pt_cmpR ho pe_of pe_of hm) (ha.ap tk mw o.bind (fun x _ o1 v I1 H1 g1 r1 => ?_) fun _ z => z)
  refine hb.ap tk (mw.gr g1) o1.bind (fun y _ o2 u I2 H2 g2 r2 => ?_) fun _ z => z.gr g1
  refine hr x y H2 v u (r1.mono g2.h0) r2 _ (o2.mono (fun z _ k => ⟨z, rfl, k I2 H2 (g1.trans g2)⟩) fun e q _ => hx x y e q)
theorem ve_cmpI {op : CmpOp} {p : Int → Int → Bool} {m1 m2 : M Int} (ho : OpR X (compareOp op) (rI0 fun i j => .bl (p i j))) (ha : VX true X Γ a m1) (hb : VX true X Γ b m2) (hm : behindInMarks op b = false) :
    VX w X Γ (.Compare a [op] [b] pos) (m1 >>= fun x => m2 >>= fun y => M.ok (p x y)) := ve_cmp ho ha hb hm (fun x y H v u r1 r2 Q o => by
    cases r1; cases r2
    exact ⟨x, y, rfl, rfl, o⟩) fun _ _ _ z => nomatch z
theorem vt_cmpI {op : CmpOp} {p : Int → Int → Bool} {m1 m2 : M Int} (ho : OpR X (compareOp op) (rI0 fun i j => .bl (p i j))) (ha : VX true X Γ a m1) (hb : VX true X Γ b m2) (hm : behindInMarks op b = false) :
    VT X Γ (.Compare a [op] [b] pos) (m1 >>= fun x => m2 >>= fun y => M.ok (p x y)) := vt_cmp ho ha hb hm (fun x y H v u r1 r2 Q o => by
    cases r1; cases r2
    exact ⟨x, y, rfl, rfl, o⟩) fun _ _ _ z => nomatch z
/-! scalars by == -/
class Scl (α : Type) [Enc α] [DecidableEq α] : Prop where
  eq : ∀ (K : PySem.W.Frag) (mg : Str → Option Value) (H : Hp) (x y : α) (v u : V), R K mg H v (enc x) → R K mg H u (enc y) → scal v u = true ∧ decide (v = u) = decide (x = y)
instance : Scl Int := ⟨fun K mg H x y v u a b => by cases a; cases b; exact ⟨rfl, by rw [dec_int]; by_cases h : x = y <;> simp [h]⟩⟩
instance : Scl Bool := ⟨fun K mg H x y v u a b => by cases a; cases b; exact ⟨rfl, by rw [dec_bl]; by_cases h : x = y <;> simp [h]⟩⟩
instance : Scl Str := ⟨fun K mg H x y v u a b => by cases a; cases b; exact ⟨rfl, by rw [dec_str]; by_cases h : x = y <;> simp [h]⟩⟩
variable [DecidableEq α] [Scl α]
theorem ve_eq {m1 m2 : M α} (ha : VX true X Γ a m1) (hb : VX true X Γ b m2) : VX w X Γ (.Compare a [.Eq] [b] pos) (m1 >>= fun x => m2 >>= fun y => M.ok (decide (x = y))) := ve_cmp op_eq ha hb (nomark _) (fun x y H v u r1 r2 Q o => by
    obtain ⟨h1, h2⟩ := Scl.eq X.K X.mg H x y v u r1 r2
    exact ⟨h1, by rw [h2]; exact o⟩) fun _ _ _ z => nomatch z
theorem vt_eq {m1 m2 : M α} (ha : VX true X Γ a m1) (hb : VX true X Γ b m2) : VT X Γ (.Compare a [.Eq] [b] pos) (m1 >>= fun x => m2 >>= fun y => M.ok (decide (x = y))) := vt_cmp op_eq ha hb (nomark _) (fun x y H v u r1 r2 Q o => by
    obtain ⟨h1, h2⟩ := Scl.eq X.K X.mg H x y v u r1 r2
    exact ⟨h1, by rw [h2]; exact o⟩) fun _ _ _ z => nomatch z
theorem ve_ne {m1 m2 : M α} (ha : VX true X Γ a m1) (hb : VX true X Γ b m2) : VX w X Γ (.Compare a [.NotEq] [b] pos) (m1 >>= fun x => m2 >>= fun y => M.ok (!decide (x = y))) := ve_cmp op_ne ha hb (nomark _) (fun x y H v u r1 r2 Q o => by
    obtain ⟨h1, h2⟩ := Scl.eq X.K X.mg H x y v u r1 r2
    exact ⟨h1, by rw [h2]; exact o⟩) fun _ _ _ z => nomatch z
theorem vt_ne {m1 m2 : M α} (ha : VX true X Γ a m1) (hb : VX true X Γ b m2) : VT X Γ (.Compare a [.NotEq] [b] pos) (m1 >>= fun x => m2 >>= fun y => M.ok (!decide (x = y))) := vt_cmp op_ne ha hb (nomark _) (fun x y H v u r1 r2 Q o => by
    obtain ⟨h1, h2⟩ := Scl.eq X.K X.mg H x y v u r1 r2
    exact ⟨h1, by rw [h2]; exact o⟩) fun _ _ _ z => nomatch z
end

/-! ### tests -/
section
variable {X : Cx} {Γ : List SL} {e a b c : Expr} {rest : List Expr} {pos : Pos} {α β γ : Type} [Enc α] {w w' : Bool}
theorem vt_val {m : M Bool} (h : VX true X Γ e m) (he : ∀ whole, isTrue e X.env whole = (do let v ← whole; standAt e.pos; holding [v] (truthy v)) := by intro _; rfl) : VT X Γ e m := fun W tk σ I H T mw Q o =>
  to_k (pt_val pe_of he) (h W tk σ I H T mw _ (o.mono (fun k _ z v I' H' g r => by cases r; exact ⟨k, rfl, z I' H' g⟩) fun _ _ z => z))
theorem VT.ap {m : M Bool} (h : VT X Γ e m) {W : WX} (tk : L2N.Takes X W) {σ : L2.St} {I H : Hp} {T : List Addr} (mw : Mw X.K X.mg Γ σ I H T) {Q : Bool → Hp → Prop} {P : Bool → Prop} {E : Exn → Prop} (o : Out m P E)
    (hP : ∀ a, m = .ok a → P a → ∀ I' H', Gr I H I' H' → Q a H') (hE : ∀ ex, E ex → XO X W σ I H ex) : kOf X e σ H Q := h W tk σ I H T mw Q (o.mono hP fun ex _ k => hE ex k)
theorem VW.ap {m : M Bool} (h : VW X Γ e m) {W : WX} (tk : L2N.Takes X W) {σ : L2.St} {I H : Hp} {T : List Addr} (mw : Mw X.K X.mg Γ σ I H T) {Q : Bool → Hp → Prop} {P : Bool → Prop} {E : Exn → Prop} (o : Out m P E)
    (hP : ∀ a, m = .ok a → P a → ∀ I' H', Gr I H I' H' → Q a H') (hE : ∀ ex, E ex → XO X W σ I H ex) : wOf X e σ H Q := h W tk σ I H T mw Q (o.mono hP fun ex _ k => hE ex k)
theorem VW.vt {m : M Bool} (h : VW X Γ e m) : VT X Γ e m := fun W tk σ I H T mw Q o => to_k pw_of.pt (h W tk σ I H T mw Q o)
theorem vw_and1 {m : M Bool} (h : VT X Γ a m) : VW X Γ (.BoolOp .And [a] pos) m := fun W tk σ I H T mw Q o => to_w (pw_and1 pt_of) (h W tk σ I H T mw Q o)
theorem vw_or1 {m : M Bool} (h : VT X Γ a m) : VW X Γ (.BoolOp .Or [a] pos) m := fun W tk σ I H T mw Q o => to_w (pw_or1 pt_of) (h W tk σ I H T mw Q o)
/-- a and b, a or b, by what is known -/
def bAnd (m1 m2 : M Bool) : M Bool := m1 >>= fun x => if x then m2 else .ok false
def bOr (m1 m2 : M Bool) : M Bool := m1 >>= fun x => if x then .ok true else m2
@[simp] theorem bAnd_t (m : M Bool) : bAnd (.ok true) m = m := rfl
@[simp] theorem bAnd_f (m : M Bool) : bAnd (.ok false) m = .ok false := rfl
@[simp] theorem bOr_t (m : M Bool) : bOr (.ok true) m = .ok true := rfl
@[simp] theorem bOr_f (m : M Bool) : bOr (.ok false) m = m := rfl
theorem bAnd_ok (x y : Bool) : bAnd (.ok x) (.ok y) = .ok (x && y) := by cases x <;> rfl
theorem bOr_ok (x y : Bool) : bOr (.ok x) (.ok y) = .ok (x || y) := by cases x <;> rfl
theorem vw_and {m1 m2 : M Bool} (h : VT X Γ a m1) (h2 : VW X Γ (.BoolOp .And (b :: rest) pos) m2) : VW X Γ (.BoolOp .And (a :: b :: rest) pos) (bAnd m1 m2) := fun W tk σ I H T mw Q o => by
  refine to_w (pw_and pt_of pw_of) (h.ap tk mw o.bind (fun x _ o1 I1 H1 g1 => ?_) fun _ z => z)
  cases x with
  | true => exact iteT (h2.ap tk (mw.gr g1) o1 (fun y _ k I2 H2 g2 => k I2 H2 (g1.trans g2)) fun _ z => z.gr g1)
  | false => exact iteF (o1 I1 H1 g1)
theorem vw_or {m1 m2 : M Bool} (h : VT X Γ a m1) (h2 : VW X Γ (.BoolOp .Or (b :: rest) pos) m2) : VW X Γ (.BoolOp .Or (a :: b :: rest) pos) (bOr m1 m2) := fun W tk σ I H T mw Q o => by
  refine to_w (pw_or pt_of pw_of) (h.ap tk mw o.bind (fun x _ o1 I1 H1 g1 => ?_) fun _ z => z)
  cases x with
  | true => exact iteT (o1 I1 H1 g1)
  | false => exact iteF (h2.ap tk (mw.gr g1) o1 (fun y _ k I2 H2 g2 => k I2 H2 (g1.trans g2)) fun _ z => z.gr g1)
theorem vt_not {m : M Bool} (h : VT X Γ a m) : VT X Γ (.UnaryOp .Not a pos) (m >>= fun x => M.ok (!x)) := fun W tk σ I H T mw Q o =>
  to_k (pt_not pt_of) (h.ap tk mw o.bind (fun x _ o1 I1 H1 g1 => o1 I1 H1 g1) fun _ z => z)
/-! values of and, or, not -/
theorem ve_one {op : BoolOp} {m : M Bool} (h : VX w X Γ a m) : VX w X Γ (.BoolOp op [a] pos) m := fun W tk σ I H T mw Q o => to_t (pe_one pe_of) (h W tk σ I H T mw Q o)
theorem ve_and {m1 m2 : M Bool} (h : VX true X Γ a m1) (h2 : VX true X Γ (.BoolOp .And (b :: rest) pos) m2) : VX w X Γ (.BoolOp .And (a :: b :: rest) pos) (bAnd m1 m2) := fun W tk σ I H T mw Q o => by
  refine to_t (pe_and pe_of pe_of) (h.ap tk mw o.bind (fun x _ o1 v I1 H1 g1 r1 => ?_) fun _ z => z)
  cases r1
  refine ⟨x, rfl, ?_⟩
  cases x with
  | true => exact iteT (h2.ap tk (mw.gr g1) o1 (fun y _ k u I2 H2 g2 r2 => k u I2 H2 (g1.trans g2) (by cases r2; exact .bl y)) fun _ z => z.gr g1)
  | false => exact iteF (o1 _ I1 H1 g1 (.bl _))
theorem ve_or {m1 m2 : M Bool} (h : VX true X Γ a m1) (h2 : VX true X Γ (.BoolOp .Or (b :: rest) pos) m2) : VX w X Γ (.BoolOp .Or (a :: b :: rest) pos) (bOr m1 m2) := fun W tk σ I H T mw Q o => by
  refine to_t (pe_or pe_of pe_of) (h.ap tk mw o.bind (fun x _ o1 v I1 H1 g1 r1 => ?_) fun _ z => z)
  cases r1
  refine ⟨x, rfl, ?_⟩
  cases x with
  | true => exact iteT (o1 _ I1 H1 g1 (.bl _))
  | false => exact iteF (h2.ap tk (mw.gr g1) o1 (fun y _ k u I2 H2 g2 r2 => k u I2 H2 (g1.trans g2) (by cases r2; exact .bl y)) fun _ z => z.gr g1)
theorem ve_not {m : M Bool} (h : VX true X Γ a m) : VX w X Γ (.UnaryOp .Not a pos) (m >>= fun x => M.ok (!x)) := fun W tk σ I H T mw Q o =>
  to_t (pe_not pe_of) (h.ap tk mw o.bind (fun x _ o1 v I1 H1 g1 r1 => by cases r1; exact ⟨x, rfl, o1 _ I1 H1 g1 (.bl _)⟩) fun _ z => z)
theorem ve_ite {m : M Bool} {m1 m2 : M α} (h : VT X Γ c m) (h1 : VX w X Γ a m1) (h2 : VX w X Γ b m2) : VX w X Γ (.IfExp c a b pos) (m >>= fun x => if x then m1 else m2) := fun W tk σ I H T mw Q o => by
  refine to_t (pe_ifExp pt_of pe_of pe_of) (h.ap tk mw o.bind (fun x _ o1 I1 H1 g1 => ?_) fun _ z => z)
  cases x with
  | true => exact iteT (h1.ap tk (mw.gr g1) o1 (fun y _ k u I2 H2 g2 r2 => k u I2 H2 (g1.trans g2) r2) fun _ z => z.gr g1)
  | false => exact iteF (h2.ap tk (mw.gr g1) o1 (fun y _ k u I2 H2 g2 r2 => k u I2 H2 (g1.trans g2) r2) fun _ z => z.gr g1)
end

/-! ### arguments -/
section
variable {X : Cx} {Γ : List SL} {e : Expr} {es : List Expr} {pos : Pos} {α A : Type} [Enc α] {w : Bool}
def eNil : Unit → List D := fun _ => []
def eCons {α A : Type} [Enc α] (ea : A → List D) : α × A → List D := fun p => enc p.1 :: ea p.2
theorem va_nil : VA w X Γ [] eNil (M.ok ()) := fun W tk σ I H T mw Q o => to_a pa_nil (o [] I H (.refl mw.ih) .nil)
theorem va_cons {m1 : M α} {ea : A → List D} {m2 : M A} (h : VX w X Γ e m1) (h2 : VA w X Γ es ea m2) (hs : starEach (e :: es) X.env = (false, eval e X.env) :: starEach es X.env := by rfl) :
    VA w X Γ (e :: es) (eCons ea) (m1 >>= fun x => m2 >>= fun y => M.ok (x, y)) := fun W tk σ I H T mw Q o => by
  refine to_a (pa_cons pe_of pa_of hs) (h.ap tk mw o.bind (fun x _ o1 v I1 H1 g1 r1 => ?_) fun _ z => z)
  refine h2 W tk σ I1 H1 T (mw.gr g1) _ (o1.bind.mono (fun y _ k vs I2 H2 g2 r2 => ?_) fun _ _ z => z.gr g1)
  exact k (v :: vs) I2 H2 (g1.trans g2) (.cons (r1.mono (wsel_same g2)) r2)
theorem VA.ap {ea : A → List D} {m : M A} (h : VA w X Γ es ea m) {W : WX} (tk : L2N.Takes X W) {σ : L2.St} {I H : Hp} {T : List Addr} (mw : Mw X.K X.mg Γ σ I H T) {Q : List V → Hp → Prop} {P : A → Prop} {E : Exn → Prop} (o : Out m P E)
    (hP : ∀ a, m = .ok a → P a → ∀ vs I' H', Gr I H I' H' → Rs X.K X.mg (wsel w I' H') vs (ea a) → Q vs H') (hE : ∀ ex, E ex → XO X W σ I H ex) : aOf X es σ H Q := h W tk σ I H T mw Q (o.mono hP fun ex _ k => hE ex k)
end
end Vc

set_option Elab.async false
set_option linter.all false
set_option maxRecDepth 100000
namespace Vc
open PySem PySem.Spec PyProof.Rows L2
open Enc (enc)

/-! ### targets -/
theorem wipe_set_comm (σ : L2.St) : ∀ (vs : List Nat) (i : Nat), wipe (σ.set i none) vs = (wipe σ vs).set i none
  | [], _ => rfl
  | v :: vs, i => by
    show (wipe (σ.set i none) vs).set v none = ((wipe σ vs).set v none).set i none
    rw [wipe_set_comm σ vs i]
    by_cases h : i = v
    · subst h; rfl
    · rw [List.set_comm _ _ h]
theorem wipe_wipe (σ : L2.St) : ∀ (us vs : List Nat), wipe (wipe σ us) vs = wipe (wipe σ vs) us
  | [], _ => rfl
  | u :: us, vs => by
    show wipe ((wipe σ us).set u none) vs = (wipe (wipe σ vs) us).set u none
    rw [wipe_set_comm, wipe_wipe σ us vs]
theorem wipe_append (σ : L2.St) : ∀ (us vs : List Nat), wipe σ (us ++ vs) = wipe (wipe σ vs) us
  | [], _ => rfl
  | u :: us, vs => by
    show (wipe σ (us ++ vs)).set u none = _
    rw [wipe_append σ us vs]
    rfl
/-- a value of type α stored at tg: the slots vs change, Γ becomes u a Γ -/
def VG (X : Cx) (n : Nat) (tg : Expr) (vs : List Nat) {α : Type} [Enc α] (u : α → List SL → List SL) : Prop :=
  ∀ Γ, Γ.length = n → ∀ v a σ I H T, Mw X.K X.mg Γ σ I H T → R X.K X.mg I v (enc a) → ∀ Q : L2.St → Hp → Prop,
    (∀ σ' T', wipe σ' vs = wipe σ vs → (u a Γ).length = n → Sls X.K X.mg I H σ' (u a Γ) T' → (∀ p ∈ T', p ∈ T) → T'.Nodup → Q σ' H) → gOf X tg v σ H Q
def VGs (X : Cx) (n : Nat) (ts : List Expr) (vs : List Nat) {A : Type} (ea : A → List D) (u : A → List SL → List SL) : Prop :=
  ∀ Γ, Γ.length = n → ∀ us a σ I H T, Mw X.K X.mg Γ σ I H T → Rs X.K X.mg I us (ea a) → ∀ Q : L2.St → Hp → Prop,
    (∀ σ' T', wipe σ' vs = wipe σ vs → (u a Γ).length = n → Sls X.K X.mg I H σ' (u a Γ) T' → (∀ p ∈ T', p ∈ T) → T'.Nodup → Q σ' H) → gsOf X ts us σ H Q
section
variable {X : Cx} {n : Nat} {pos : Pos} {α A : Type} [Enc α]
theorem vg_name (i : Nat) {x : Str} (hN : X.N.Nodup) (hi : X.N[i]? = some x := by rfl) (hn : Nat.blt i n = true := by rfl) (hx : Loc X.env.scope x := by first | exact .inl rfl | exact .inr rfl) (hf : X.fn x = true ∨ X.env.scope.names.lookup x = some .local := by first | exact .inl rfl | exact .inr rfl) :
    VG X n (.Name x pos) [i] (fun a Γ => Γ.set i (sI a) : α → List SL → List SL) := fun Γ hl v a σ I H T mw r Q k => by
  refine to_g (pg_name hN hi hx hf) ?_
  obtain ⟨T', s, c, d⟩ := mw.sl.put (i := i) (by rw [hl]; exact Nat.blt_eq.mp hn) (Ow.imm r)
  refine k _ T' ?_ (by simpa using hl) s (fun p hp => (c p hp).elim (fun z => nomatch z) id) (d mw.nd)
  show (σ.set i (some v)).set i none = σ.set i none
  rw [List.set_set]
theorem vgs_nil : VGs X n [] [] eNil (fun _ Γ => Γ) := fun Γ hl us a σ I H T mw r Q k => by
  cases r
  exact to_gs pgs_nil ⟨rfl, k σ T rfl hl mw.sl (fun _ h => h) mw.nd⟩
theorem vgs_cons {tg : Expr} {ts : List Expr} {vs ws : List Nat} {u : α → List SL → List SL} {ea : A → List D} {u2 : A → List SL → List SL} (h1 : VG X n tg vs u) (h2 : VGs X n ts ws ea u2)
    (hs : (assignEach (tg :: ts) X.env).map (·.2) = assign tg X.env :: (assignEach ts X.env).map (·.2) := by rfl) : VGs X n (tg :: ts) (vs ++ ws) (eCons ea) (fun a Γ => u2 a.2 (u a.1 Γ)) := fun Γ hl us a σ I H T mw r Q k => by
  cases r with
  | cons r1 r2 =>
    refine to_gs (pgs_cons pg_of pgs_of hs) ⟨_, _, rfl, h1 Γ hl _ a.1 σ I H T mw r1 _ fun σ1 T1 w1 l1 s1 c1 d1 => ?_⟩
    refine h2 _ l1 _ a.2 σ1 I H T1 ⟨mw.ih, fun p hp => mw.fr p (c1 p hp), d1, s1⟩ r2 _ fun σ2 T2 w2 l2 s2 c2 d2 => k σ2 T2 ?_ l2 s2 (fun p hp => c1 p (c2 p hp)) d2
    rw [wipe_append, w2, wipe_wipe, w1, wipe_wipe, ← wipe_append]
theorem vg_tup {es : List Expr} {kk m : Nat} {vs : List Nat} {ea : A → List D} {u : A → List SL → List SL} (f : α → A) (hc : X.calm = true) (h : VGs X n es vs ea u) (he : ∀ a : α, enc a = .tup (ea (f a))) (hm : ∀ a : α, (ea (f a)).length = m)
    (hn : (assignEach es X.env).length = m := by rfl) (hst : (assignEach es X.env).findIdx? (·.1) = none := by rfl) : VG X n (.Tuple es kk pos) vs (fun a Γ => u (f a) Γ) := fun Γ hl v a σ I H T mw r Q k => by
  rw [he a] at r
  cases r with
  | tup hs r =>
    have hs := hs.sq
    refine to_g (pg_tup hc pgs_of hn hst) ⟨_, _, rfl, Same.seqT mw.ih hs, by rw [r.length, hm], ?_⟩
    exact h Γ hl _ (f a) σ I H T mw r Q k
end

section
open Enc (enc)
/-- a slot's value taken out -/
theorem Sls.take {K : PySem.W.Frag} {mg : Str → Option Value} {I H : Hp} : ∀ {σ : L2.St} {Γ : List SL} {T : List Addr} {i : Nat} {o : O}, Sls K mg I H σ Γ T → Γ[i]? = some (.val o) → T.Nodup → ∃ v T2 T', σ[i]? = some (some v) ∧ Ow K mg I H v o T2 ∧ Sls K mg I H σ (Γ.set i .any) T' ∧ (∀ p ∈ T2, p ∈ T) ∧ (∀ p ∈ T', p ∈ T) ∧ (T2 ++ T').Nodup
  | _, _, _, _, _, .nil, h, _ => by simp at h
  | _, _, _, 0, _, .any r, h, _ => by simp at h
  | _, _, _, 0, _, .val (T := T) (T' := T') q r, h, nd => by
    simp at h
    subst h
    exact ⟨_, T, T', rfl, q, .any r, fun p hp => List.mem_append_left _ hp, fun p hp => List.mem_append_right _ hp, nd⟩
  | _, _, _, i + 1, _, .any r, h, nd => by
    obtain ⟨v, T2, T', h1, h2, h3, h4, h5, h6⟩ := Sls.take (i := i) r (by simpa using h) nd
    exact ⟨v, T2, T', by simpa using h1, h2, .any h3, h4, h5, h6⟩
  | _, _, _, i + 1, _, .val (T := T) (T' := TT) q r, h, nd => by
    obtain ⟨n1, n2, n3⟩ := List.nodup_append.mp nd
    obtain ⟨v, T2, T', h1, h2, h3, h4, h5, h6⟩ := Sls.take (i := i) r (by simpa using h) n2
    obtain ⟨m1, m2, m3⟩ := List.nodup_append.mp h6
    refine ⟨v, T2, T ++ T', by simpa using h1, h2, .val q h3, fun p hp => List.mem_append_right _ (h4 p hp), fun p hp => ?_, ?_⟩
    · rcases List.mem_append.mp hp with z | z
      · exact List.mem_append_left _ z
      · exact List.mem_append_right _ (h5 p z)
    · refine List.nodup_append.mpr ⟨m1, List.nodup_append.mpr ⟨n1, m2, fun a ha b hb => n3 a ha b (h5 b hb)⟩, fun a ha b hb e => ?_⟩
      rcases List.mem_append.mp hb with z | z
      · exact n3 b z a (h4 a ha) e.symm
      · exact m3 a ha b z e
end
/-! ### statements -/
structure Eds (τ : Type) where
  nx : List SL → τ → Prop := fun _ _ => False
  rt : List SL → O → τ → Prop := fun _ _ _ => False
  bk : List SL → τ → Prop := fun _ _ => False
  ct : List SL → τ → Prop := fun _ _ => False
structure DO (X : Cx) (I0 H0 : Hp) {τ : Type} (E : Eds τ) (D : Ends) (t : τ) : Prop where
  nx : ∀ Γ' σ' I' H' T', E.nx Γ' t → Mt X.K X.mg I0 H0 Γ' σ' I' H' T' → D.nx σ' H'
  bk : ∀ Γ' σ' I' H' T', E.bk Γ' t → Mt X.K X.mg I0 H0 Γ' σ' I' H' T' → D.bk σ' H'
  ct : ∀ Γ' σ' I' H' T', E.ct Γ' t → Mt X.K X.mg I0 H0 Γ' σ' I' H' T' → D.ct σ' H'
  rt : ∀ Γ' σ' o v I' H' T2 T', E.rt Γ' o t → Wd I0 H0 I' H' (T2 ++ T') → Sls X.K X.mg I' H' σ' Γ' T' → Ow X.K X.mg I' H' v o T2 → D.rt v H'
def XS (X : Cx) (W : WX) (I0 H0 : Hp) (Γx : List SL) (ex : Exn) : Prop := ∀ cl d σ' I' H' T', Mt X.K X.mg I0 H0 Γx σ' I' H' T' → ExcAt X.K X.mg I' ex cl d → W cl d σ' H'
def VS (X : Cx) (Γ Γx : List SL) (sts : List Stmt) {τ : Type} (E : Eds τ) (m : M τ) : Prop :=
  ∀ (W : WX), L2N.Takes X W → ∀ I0 H0 σ I H T, Mt X.K X.mg I0 H0 Γ σ I H T → ∀ D : Ends, Out m (DO X I0 H0 E D) (XS X W I0 H0 Γx) → sOf X sts D σ H
theorem XS.xo {X : Cx} {W : WX} {I0 H0 : Hp} {Γ Γx : List SL} {σ : L2.St} {I H : Hp} {T : List Addr} {ex : Exn} (h : XS X W I0 H0 Γx ex) (mt : Mt X.K X.mg I0 H0 Γ σ I H T) (s : Sub Γ Γx) : XO X W σ I H ex := fun cl d I' H' g a => by
  obtain ⟨T', mt'⟩ := (mt.gr g).sub s
  exact h cl d σ I' H' T' mt' a
theorem Wd.ow {I0 H0 I H I' H' : Hp} {T T2 : List Addr} (w : Wd I0 H0 I H T) (hT : ∀ p ∈ T, H p ≠ none) (g : Wd I H I' H' T2) : Wd I0 H0 I' H' (T2 ++ T) :=
  ⟨g.ih, w.i0.trans g.i0, w.h0.trans g.h0, fun p hp => by
    rcases List.mem_append.mp hp with z | z
    · exact ⟨(g.fr p z).1, w.h0.free (g.fr p z).2⟩
    · exact ⟨g.sep p (hT p z) (w.fr p z).1, (w.fr p z).2⟩, List.nodup_append.mpr ⟨g.nd, w.nd, fun a ha b hb e => hT b hb (e ▸ (g.fr a ha).2)⟩, fun p h h' => by
    have h1 := w.sep p h h'
    refine g.sep p ?_ h1
    cases q : H0 p with
    | none => exact absurd q h
    | some o => rw [w.h0 p o q]; simp⟩
/-- what is owned becomes immutable -/
theorem Wd.freeze {K : PySem.W.Frag} {mg : Str → Option Value} {I0 H0 I H : Hp} {T T2 : List Addr} {v : V} {o : O} (w : Wd I0 H0 I H (T2 ++ T)) (q : Ow K mg I H v o T2) : ∃ I', Wd I0 H0 I' H T ∧ Same I I' ∧ R K mg I' v o.toD := by
  obtain ⟨n1, n2, n3⟩ := List.nodup_append.mp w.nd
  have e1 : Same I fun p => if p ∈ T2 then H p else I p := fun b u e => by
    have : b ∉ T2 := fun hb => by have := (w.fr b (List.mem_append_left _ hb)).1; rw [this] at e; cases e
    show (if b ∈ T2 then H b else I b) = some u
    rw [if_neg this]; exact e
  refine ⟨fun p => if p ∈ T2 then H p else I p, ⟨fun b u e => ?_, w.i0.trans e1, w.h0, fun p hp => ⟨?_, (w.fr p (List.mem_append_right _ hp)).2⟩, n2, fun p h h' => ?_⟩, e1, ?_⟩
  · have e : (if b ∈ T2 then H b else I b) = some u := e
    split at e
    · exact e
    · exact w.ih b u e
  · show (if p ∈ T2 then H p else I p) = none
    rw [if_neg fun z => n3 p z p hp rfl]
    exact (w.fr p (List.mem_append_right _ hp)).1
  · show (if p ∈ T2 then H p else I p) = none
    rw [if_neg fun z => h (w.fr p (List.mem_append_left _ z)).2]
    exact w.sep p h h'
  · exact q.toR (G := fun p => if p ∈ T2 then H p else I p) e1 fun p hp => by
      show (if p ∈ T2 then H p else I p) = H p
      rw [if_pos hp]
/-- a new owned list -/
theorem Wd.new {I H : Hp} {p : Addr} {o : HO} (h : Same I H) (hp : H p = none) : Wd I H I (upd H p o) [p] := by
  refine ⟨fun b u e => ?_, .refl _, fun b u e => ?_, fun b hb => ?_, by simp, fun _ _ z => z⟩
  · rw [upd_ne (ne_of_none (h b u e) hp)]; exact h b u e
  · rw [upd_ne (ne_of_none e hp)]; exact e
  · have e : b = p := by simpa using hb
    subst e
    exact ⟨h.free hp, hp⟩
/-- an owned list is changed -/
theorem Wd.put {I0 H0 I H : Hp} {T : List Addr} {p : Addr} {o : HO} (w : Wd I0 H0 I H T) (hp : p ∈ T) : Wd I0 H0 I (upd H p o) T := by
  refine ⟨fun b u e => ?_, w.i0, fun b u e => ?_, w.fr, w.nd, w.sep⟩
  · rw [upd_ne (ne_of_none e (w.fr p hp).1)]; exact w.ih b u e
  · rw [upd_ne (ne_of_none e (w.fr p hp).2)]; exact w.h0 b u e
section
variable {K : PySem.W.Frag} {mg : Str → Option Value} {I H : Hp}
/-- an owned list in a slot is changed -/
theorem Sls.chg : ∀ {σ : L2.St} {Γ : List SL} {T : List Addr} {i : Nat} {os : List O}, Sls K mg I H σ Γ T → T.Nodup → Γ[i]? = some (.val (.lst os)) → ∃ p xs T2, σ[i]? = some (some (.ref p)) ∧ p ∈ T ∧ H p = some (.lst xs) ∧ Ows K mg I H xs os T2 ∧ (∀ q ∈ T2, q ∈ T) ∧
    ∀ xs' os', Ows K mg I (upd H p (.lst xs')) xs' os' T2 → Sls K mg I (upd H p (.lst xs')) σ (Γ.set i (.val (.lst os'))) T
  | _, _, _, _, _, .nil, _, h => by simp at h
  | _, _, _, 0, _, .any r, _, h => by simp at h
  | _, _, _, 0, os, .val (T := T) (T' := T') q r, nd, h => by
    simp at h
    subst h
    cases q with
    | lst e w =>
      rename_i p xs T2
      obtain ⟨n1, n2, n3⟩ := List.nodup_append.mp nd
      refine ⟨p, xs, T2, rfl, by simp, e, w, fun q hq => List.mem_append_left _ (List.mem_cons_of_mem _ hq), fun xs' os' w' => .val (.lst upd_same w') (r.mono (.refl _) fun q hq => upd_ne fun z => n3 p List.mem_cons_self q hq z.symm)⟩
  | _, _, _, i + 1, os, .any r, nd, h => by
    obtain ⟨p, xs, T2, h1, h2, h3, h4, h5, h6⟩ := Sls.chg (i := i) r nd (by simpa using h)
    exact ⟨p, xs, T2, by simpa using h1, h2, h3, h4, h5, fun xs' os' w' => .any (h6 xs' os' w')⟩
  | _, _, _, i + 1, os, .val (T := T) (T' := T') q r, nd, h => by
    obtain ⟨n1, n2, n3⟩ := List.nodup_append.mp nd
    obtain ⟨p, xs, T2, h1, h2, h3, h4, h5, h6⟩ := Sls.chg (i := i) r n2 (by simpa using h)
    exact ⟨p, xs, T2, by simpa using h1, List.mem_append_right _ h2, h3, h4, fun q hq => List.mem_append_right _ (h5 q hq), fun xs' os' w' => .val (q.mono (.refl _) fun z hz => upd_ne fun y => n3 z hz p h2 y) (h6 xs' os' w')⟩
end

theorem VO.ap {X : Cx} {Γ : List SL} {e : Expr} {α : Type} {o : α → O} {m : M α} (h : VO X Γ e o m) {W : WX} (tk : L2N.Takes X W) {σ : L2.St} {I H : Hp} {T : List Addr} (mw : Mw X.K X.mg Γ σ I H T) {Q : VK} {P : α → Prop} {E : Exn → Prop} (ou : Out m P E)
    (hP : ∀ a, m = .ok a → P a → ∀ v I' H' T2, Wd I H I' H' T2 → Ow X.K X.mg I' H' v (o a) T2 → Q v H') (hE : ∀ ex, E ex → XO X W σ I H ex) : tOf X e σ H Q :=
  h W tk σ I H T mw Q (ou.mono hP fun ex _ k => hE ex k)
theorem VO.ve {X : Cx} {Γ : List SL} {e : Expr} {α : Type} [Enc α] {o : α → O} {m : M α} {w : Bool} (h : VO X Γ e o m) (ho : ∀ a, (o a).toD = enc a) : VX w X Γ e m := VX.le fun W tk σ I H T mw Q ou =>
  h.ap tk mw ou (fun a _ k v I' H' T2 wd q => by
    obtain ⟨I2, w2, s2, r2⟩ := Wd.freeze (T := []) (by simpa using wd) q
    exact k v I2 H' w2 (by rw [ho a] at r2; exact r2)) fun _ z => z
theorem VO.ve1 {X : Cx} {Γ : List SL} {e : Expr} {α : Type} [Enc α] {m : M (List α)} {w : Bool} (h : VO X Γ e ow1 m) : VX w X Γ e m := h.ve ow1_toD

section
variable {X : Cx} {Γ Γx : List SL} {e : Expr} {rest : List Stmt} {pos : Pos} {α : Type} [Enc α] {τ : Type} {E : Eds τ}
theorem vs_nil {t : τ} (h : E.nx Γ t) : VS X Γ Γx [] E (.ok t) := fun W tk I0 H0 σ I H T mt D o => to_s pss_nil (o.nx Γ σ I H T h mt)
/-- the rest -/
theorem rest_s {m : M τ} (h : VS X Γ Γx rest E m) {W : WX} (tk : L2N.Takes X W) {I0 H0 : Hp} {σ : L2.St} {I H : Hp} {T : List Addr} (mt : Mt X.K X.mg I0 H0 Γ σ I H T) {D : Ends} (o : Out m (DO X I0 H0 E D) (XS X W I0 H0 Γx)) : sOf X rest D σ H := h W tk I0 H0 σ I H T mt D o
theorem seq_s {st : Stmt} {D : Ends} {σ : L2.St} {H : Hp} (h : s1Of X st { D with nx := sOf X rest D } σ H) : sOf X (st :: rest) D σ H := to_s (pss_cons ps_of pss_of) h
/-- name = e -/
theorem vs_set (i : Nat) {x : Str} {p : Pos} {m : M α} {k : α → M τ} (hN : X.N.Nodup) (he : VE X Γ e m) (hk : ∀ a, VS X (Γ.set i (sI a)) Γx rest E (k a)) (hs : Sub Γ Γx) (hi : X.N[i]? = some x := by rfl) (hl : Nat.blt i Γ.length = true := by rfl) (hx : Loc X.env.scope x := by first | exact .inl rfl | exact .inr rfl)
    (hsw : swapsWith e (some (.Name x p)) pos.line X.env = pure false := by rfl) (hf : X.fn x = true ∨ X.env.scope.names.lookup x = some .local := by first | exact .inl rfl | exact .inr rfl) : VS X Γ Γx (.Assign [.Name x p] e pos :: rest) E (m >>= k) := fun W tk I0 H0 σ I H T mt D o => by
  refine seq_s (to_s1 (ps_set hN hi hx pe_of hsw hf) ?_)
  show tOf X e σ H _
  refine he.ap tk mt.mw o.bind (fun a _ o1 v I1 H1 g1 r1 => ?_) fun _ z => z.xo mt hs
  obtain ⟨T', mt'⟩ := (mt.gr g1).putI (Nat.blt_eq.mp hl) r1
  exact rest_s (hk a) tk mt' o1
/-- name = e, e new and owned -/
theorem vs_setO (i : Nat) {x : Str} {p : Pos} {ow : α → O} {m : M α} {k : α → M τ} (hN : X.N.Nodup) (he : VO X Γ e ow m) (hk : ∀ a, VS X (Γ.set i (.val (ow a))) Γx rest E (k a)) (hs : Sub Γ Γx) (hi : X.N[i]? = some x := by rfl) (hl : Nat.blt i Γ.length = true := by rfl) (hx : Loc X.env.scope x := by first | exact .inl rfl | exact .inr rfl)
    (hsw : swapsWith e (some (.Name x p)) pos.line X.env = pure false := by rfl) (hf : X.fn x = true ∨ X.env.scope.names.lookup x = some .local := by first | exact .inl rfl | exact .inr rfl) : VS X Γ Γx (.Assign [.Name x p] e pos :: rest) E (m >>= k) := fun W tk I0 H0 σ I H T mt D o => by
  refine seq_s (to_s1 (ps_set hN hi hx pe_of hsw hf) ?_)
  show tOf X e σ H _
  refine he.ap tk mt.mw o.bind (fun a _ o1 v I1 H1 T2 w1 r1 => ?_) fun _ z => z.xo mt hs
  have there : ∀ p ∈ T, H p ≠ none := fun p hp => by obtain ⟨xs, e⟩ := mt.sl.there p hp; rw [e]; simp
  have mt1 : Sls X.K X.mg I1 H1 σ Γ T := mt.sl.mono w1.i0 fun p hp => by
    obtain ⟨xs, e⟩ := mt.sl.there p hp
    rw [e]; exact w1.h0 p _ e
  obtain ⟨T', s', c', d'⟩ := mt1.put (Nat.blt_eq.mp hl) r1
  have wd := mt.wd.ow there w1
  exact rest_s (hk a) tk ⟨⟨wd.ih, wd.i0, wd.h0, fun p hp => wd.fr p (List.mem_append.mpr (c' p hp)), d' wd.nd, wd.sep⟩, s'⟩ o1
/-- target = e -/
theorem vs_asg {tg : Expr} {vs : List Nat} {u : α → List SL → List SL} {n : Nat} {m : M α} {k : α → M τ} (he : VE X Γ e m) (hg : VG X n tg vs u) (hk : ∀ a, VS X (u a Γ) Γx rest E (k a)) (hs : Sub Γ Γx) (hn : Γ.length = n := by rfl)
    (hs1 : swapsWithSole [tg] e pos.line X.env = pure false := by rfl) (hw : swappedStores [tg] e X.env = pure none := by rfl) (h1 : (assignEach [tg] X.env).map (·.2) = [assign tg X.env] := by rfl) : VS X Γ Γx (.Assign [tg] e pos :: rest) E (m >>= k) := fun W tk I0 H0 σ I H T mt D o => by
  refine seq_s (to_s1 (ps_asg pe_of pg_of hs1 hw h1) ?_)
  show tOf X e σ H _
  refine he.ap tk mt.mw o.bind (fun a _ o1 v I1 H1 g1 r1 => ?_) fun _ z => z.xo mt hs
  have mt1 := mt.gr g1
  refine hg Γ hn v a σ I1 H1 T mt1.mw r1 _ fun σ' T' _ _ s' c' d' => ?_
  exact rest_s (hk a) tk ⟨⟨mt1.wd.ih, mt1.wd.i0, mt1.wd.h0, fun p hp => mt1.wd.fr p (c' p hp), d', mt1.wd.sep⟩, s'⟩ o1
/-- name op= e of ints -/
theorem vs_aug (i : Nat) {x : Str} {p : Pos} {op : Operator} {r : R2} {a : Int} {m : M Int} {f : Int → Int → M Int} {k : Int → M τ} (hN : X.N.Nodup) (ho : OpR X (inplaceOp op) r) (he : VX true X Γ e m)
    (hr : ∀ x y H, ∀ Q : VK, Out (f x y) (fun z => Q (.int z) H) (fun _ => False) → r (.int x) (.int y) H Q) (hxx : ∀ x y e, f x y ≠ .exc e) (hk : ∀ a, VS X (Γ.set i (sI a)) Γx rest E (k a)) (hs : Sub Γ Γx) (hΓ : Γ[i]? = some (sI a) := by rfl) (hi : X.N[i]? = some x := by rfl) (hl : Nat.blt i Γ.length = true := by rfl)
    (hx : Loc X.env.scope x := by first | exact .inl rfl | exact .inr rfl) (hf : X.fn x = true ∨ X.env.scope.names.lookup x = some .local := by first | exact .inl rfl | exact .inr rfl) : VS X Γ Γx (.AugAssign (.Name x p) op e pos :: rest) E (m >>= fun y => f a y >>= k) := fun W tk I0 H0 σ I H T mt D o => by
  obtain ⟨v, hv, rv⟩ := mt.sl.imm hΓ
  cases rv
  refine seq_s (to_s1 (ps_aug (ti := r) hN hi hx pe_of ho hf) ⟨_, hv, ?_⟩)
  refine he.ap tk mt.mw o.bind (fun b _ o1 v I1 H1 g1 r1 => ?_) fun _ z => z.xo mt hs
  cases r1
  refine hr a b H1 _ (o1.bind.mono (fun z _ o2 => ?_) fun ex q _ => hxx a b ex q)
  obtain ⟨T', mt'⟩ := (mt.gr g1).putI (Nat.blt_eq.mp hl) (R.int z)
  exact rest_s (hk z) tk mt' o2
theorem vs_augI (i : Nat) {x : Str} {p : Pos} {op : Operator} {a : Int} {m : M Int} {g : Int → Int → Int} {k : Int → M τ} (hN : X.N.Nodup) (ho : OpR X (inplaceOp op) (rI0 fun i j => .int (g i j))) (he : VX true X Γ e m)
    (hk : ∀ a, VS X (Γ.set i (sI a)) Γx rest E (k a)) (hs : Sub Γ Γx) (hΓ : Γ[i]? = some (sI a) := by rfl) (hi : X.N[i]? = some x := by rfl) (hl : Nat.blt i Γ.length = true := by rfl)
    (hx : Loc X.env.scope x := by first | exact .inl rfl | exact .inr rfl) (hf : X.fn x = true ∨ X.env.scope.names.lookup x = some .local := by first | exact .inl rfl | exact .inr rfl) : VS X Γ Γx (.AugAssign (.Name x p) op e pos :: rest) E (m >>= fun y => k (g a y)) :=
  vs_aug (f := fun x y => .ok (g x y)) i hN ho he (fun x y H Q o => ⟨x, y, rfl, rfl, o⟩) (fun _ _ _ z => nomatch z) hk hs hΓ hi hl hx hf
theorem vs_augC (i : Nat) {x : Str} {p : Pos} {op : Operator} {a : Int} {m : M Int} {C : Int → Int → Prop} [∀ x y, Decidable (C x y)] {g : Int → Int → Int} {k : Int → M τ} (hN : X.N.Nodup) (ho : OpR X (inplaceOp op) (rI C fun i j => .int (g i j))) (he : VX true X Γ e m)
    (hk : ∀ a, VS X (Γ.set i (sI a)) Γx rest E (k a)) (hs : Sub Γ Γx) (hΓ : Γ[i]? = some (sI a) := by rfl) (hi : X.N[i]? = some x := by rfl) (hl : Nat.blt i Γ.length = true := by rfl)
    (hx : Loc X.env.scope x := by first | exact .inl rfl | exact .inr rfl) (hf : X.fn x = true ∨ X.env.scope.names.lookup x = some .local := by first | exact .inl rfl | exact .inr rfl) : VS X Γ Γx (.AugAssign (.Name x p) op e pos :: rest) E (m >>= fun y => chk (C a y) >>= fun _ => k (g a y)) := by
  have h := vs_aug (E := E) (rest := rest) (Γx := Γx) (k := k) (f := fun x y => chk (C x y) >>= fun _ => .ok (g x y)) i hN ho he (fun x y H Q o => by obtain ⟨hc, o⟩ := o.chk; exact ⟨x, y, rfl, rfl, hc, o⟩) (fun _ _ _ z => by unfold chk at z; split at z <;> cases z) hk hs hΓ hi hl hx hf (p := p) (pos := pos)
  have e : (fun y => (chk (C a y) >>= fun _ => M.ok (g a y)) >>= k) = fun y => chk (C a y) >>= fun _ => k (g a y) := by
    funext y
    rw [M.bind_assoc]
    rfl
  rw [e] at h
  exact h
/-- return e -/
theorem vs_ret {m : M α} {f : α → τ} (he : VE X Γ e m) (hr : ∀ a, E.rt Γ (.imm (enc a)) (f a)) (hs : Sub Γ Γx) : VS X Γ Γx (.Return (some e) pos :: rest) E (m >>= fun a => .ok (f a)) := fun W tk I0 H0 σ I H T mt D o => by
  refine seq_s (to_s1 (ps_ret pe_of) ?_)
  show tOf X e σ H _
  refine he.ap tk mt.mw o.bind (fun a _ o1 v I1 H1 g1 r1 => ?_) fun _ z => z.xo mt hs
  have mt1 := mt.gr g1
  exact o1.rt _ σ _ v I1 H1 [] T (hr a) mt1.wd mt1.sl (.imm r1)
theorem vs_retO {m : M α} {ow : α → O} {f : α → τ} (he : VO X Γ e ow m) (hr : ∀ a, E.rt Γ (ow a) (f a)) (hs : Sub Γ Γx) : VS X Γ Γx (.Return (some e) pos :: rest) E (m >>= fun a => .ok (f a)) := fun W tk I0 H0 σ I H T mt D o => by
  refine seq_s (to_s1 (ps_ret pe_of) ?_)
  show tOf X e σ H _
  refine he.ap tk mt.mw o.bind (fun a _ o1 v I1 H1 T2 w1 r1 => ?_) fun _ z => z.xo mt hs
  have there : ∀ p ∈ T, H p ≠ none := fun p hp => by obtain ⟨xs, e⟩ := mt.sl.there p hp; rw [e]; simp
  exact o1.rt _ σ _ v I1 H1 T2 T (hr a) (mt.wd.ow there w1) (mt.sl.mono w1.i0 fun p hp => by obtain ⟨xs, e⟩ := mt.sl.there p hp; rw [e]; exact w1.h0 p _ e) r1
/-- return of an owned name -/
theorem vs_retV (i : Nat) {x : Str} {p : Pos} {ow : O} {t : τ} (hr : E.rt (Γ.set i .any) ow t) (hΓ : Γ[i]? = some (.val ow) := by rfl) (hN : X.N[i]? = some x := by rfl) (hv : Vis X.env.scope x := by first | exact Or.inl rfl | exact Or.inr (Or.inl rfl) | exact Or.inr (Or.inr rfl))
    (hd : (x == ("__debug__" : Str)) = false := by decide) (hcd : (x == ("__classdict__" : Str)) = false := by decide) : VS X Γ Γx (.Return (some (.Name x p)) pos :: rest) E (.ok t) := fun W tk I0 H0 σ I H T mt D o => by
  obtain ⟨v, T2, T', h1, r, s', c2, c', nd⟩ := mt.sl.take hΓ mt.wd.nd
  refine seq_s (to_s1 (ps_ret (pe_var hN hv hd hcd)) ⟨v, h1, ?_⟩)
  exact o.rt _ σ _ v I H T2 T' hr ⟨mt.wd.ih, mt.wd.i0, mt.wd.h0, fun p hp => mt.wd.fr p ((List.mem_append.mp hp).elim (c2 p) (c' p)), nd, mt.wd.sep⟩ s' r
theorem vs_retN {t : τ} (hr : E.rt Γ (.imm .non) t) : VS X Γ Γx (.Return none pos :: rest) E (.ok t) := fun W tk I0 H0 σ I H T mt D o => by
  refine seq_s (to_s1 ps_retN ?_)
  exact o.rt _ σ _ .non I H [] T hr mt.wd mt.sl (.imm .non)
theorem vs_pass {m : M τ} (h : VS X Γ Γx rest E m) : VS X Γ Γx (.Pass pos :: rest) E m := fun W tk I0 H0 σ I H T mt D o => seq_s (to_s1 ps_pass (rest_s h tk mt o))
theorem vs_break {t : τ} (h : E.bk Γ t) : VS X Γ Γx (.Break pos :: rest) E (.ok t) := fun W tk I0 H0 σ I H T mt D o => seq_s (to_s1 ps_break (o.bk Γ σ I H T h mt))
theorem vs_cont {t : τ} (h : E.ct Γ t) : VS X Γ Γx (.Continue pos :: rest) E (.ok t) := fun W tk I0 H0 σ I H T mt D o => seq_s (to_s1 ps_continue (o.ct Γ σ I H T h mt))
/-- an expression for its effect: none -/
theorem vs_expr {m : M α} {k : M τ} (he : VX true X Γ e m) (hk : VS X Γ Γx rest E k) (hs : Sub Γ Γx) (hsw : swapsWith e none pos.line X.env = pure false := by rfl) : VS X Γ Γx (.Expr e pos :: rest) E (m >>= fun _ => k) := fun W tk I0 H0 σ I H T mt D o => by
  refine seq_s (to_s1 (ps_expr pe_of hsw) ?_)
  show tOf X e σ H _
  exact he.ap tk mt.mw o.bind (fun a _ o1 v I1 H1 g1 r1 => rest_s hk tk (mt.gr g1) o1) fun _ z => z.xo mt hs
/-! if -/
/-- both ways end what follows, or the first never falls through -/
theorem vs_ifx {c : Expr} {a b : List Stmt} {mc : M Bool} {m1 m2 : M τ} (hc : VT X Γ c mc) (ha : VS X Γ Γx a { E with nx := fun _ _ => False } m1) (hb : VS X Γ Γx rest E m2) (hs : Sub Γ Γx) : VS X Γ Γx (.If c a [] pos :: rest) E (mc >>= fun x => if x then m1 else m2) := fun W tk I0 H0 σ I H T mt D o => by
  refine seq_s (to_s1 (ps_if pt_of pss_of pss_of) ?_)
  show kOf X c σ H _
  refine hc.ap tk mt.mw o.bind (fun x _ o1 I1 H1 g1 => ?_) fun _ z => z.xo mt hs
  cases x with
  | true => exact iteT (ha W tk I0 H0 σ I1 H1 T (mt.gr g1) _ (o1.mono (fun t _ d => ⟨fun _ _ _ _ _ z => z.elim, d.bk, d.ct, d.rt⟩) fun _ _ z => z))
  | false => exact iteF (to_s pss_nil (rest_s hb tk (mt.gr g1) o1))
/-- both ways given, nothing behind falls through -/
theorem vs_ifxx {c : Expr} {a b : List Stmt} {mc : M Bool} {m1 m2 : M τ} (hc : VT X Γ c mc) (ha : VS X Γ Γx a { E with nx := fun _ _ => False } m1) (hb : VS X Γ Γx b { E with nx := fun _ _ => False } m2) (hs : Sub Γ Γx) : VS X Γ Γx (.If c a b pos :: rest) E (mc >>= fun x => if x then m1 else m2) := fun W tk I0 H0 σ I H T mt D o => by
  refine seq_s (to_s1 (ps_if pt_of pss_of pss_of) ?_)
  show kOf X c σ H _
  refine hc.ap tk mt.mw o.bind (fun x _ o1 I1 H1 g1 => ?_) fun _ z => z.xo mt hs
  cases x with
  | true => exact iteT (ha W tk I0 H0 σ I1 H1 T (mt.gr g1) _ (o1.mono (fun t _ d => ⟨fun _ _ _ _ _ z => z.elim, d.bk, d.ct, d.rt⟩) fun _ _ z => z))
  | false => exact iteF (hb W tk I0 H0 σ I1 H1 T (mt.gr g1) _ (o1.mono (fun t _ d => ⟨fun _ _ _ _ _ z => z.elim, d.bk, d.ct, d.rt⟩) fun _ _ z => z))
/-- last statement: both ways fall through as they are wanted -/
theorem vs_ifl {c : Expr} {a b : List Stmt} {mc : M Bool} {m1 m2 : M τ} (hc : VT X Γ c mc) (ha : VS X Γ Γx a E m1) (hb : VS X Γ Γx b E m2) (hs : Sub Γ Γx) : VS X Γ Γx [.If c a b pos] E (mc >>= fun x => if x then m1 else m2) := fun W tk I0 H0 σ I H T mt D o => by
  refine seq_s (to_s1 (ps_if pt_of pss_of pss_of) ?_)
  show kOf X c σ H _
  refine hc.ap tk mt.mw o.bind (fun x _ o1 I1 H1 g1 => ?_) fun _ z => z.xo mt hs
  cases x with
  | true => exact iteT (ha W tk I0 H0 σ I1 H1 T (mt.gr g1) _ (o1.mono (fun t _ d => ⟨fun _ _ _ _ _ z m => to_s pss_nil (d.nx _ _ _ _ _ z m), d.bk, d.ct, d.rt⟩) fun _ _ z => z))
  | false => exact iteF (hb W tk I0 H0 σ I1 H1 T (mt.gr g1) _ (o1.mono (fun t _ d => ⟨fun _ _ _ _ _ z m => to_s pss_nil (d.nx _ _ _ _ _ z m), d.bk, d.ct, d.rt⟩) fun _ _ z => z))
/-- what falls through: F of a state -/
abbrev eNx {S : Type} (F : S → List SL) : Eds S := { nx := fun Γ' s => Sub Γ' (F s) }
/-- a block that falls through in a state of F, then what follows -/
theorem vs_ifj {S : Type} (F : S → List SL) {c : Expr} {a b : List Stmt} {mc : M Bool} {m1 m2 : M S} {k : S → M τ} (hc : VT X Γ c mc) (ha : VS X Γ Γx a (eNx F) m1) (hb : VS X Γ Γx b (eNx F) m2) (hk : ∀ s, VS X (F s) Γx rest E (k s)) (hs : Sub Γ Γx) :
    VS X Γ Γx (.If c a b pos :: rest) E (mc >>= fun x => (if x then m1 else m2) >>= k) := fun W tk I0 H0 σ I H T mt D o => by
  refine seq_s (to_s1 (ps_if pt_of pss_of pss_of) ?_)
  show kOf X c σ H _
  have fin : ∀ s, Out (k s) (DO X I0 H0 E D) (XS X W I0 H0 Γx) → DO X I0 H0 (eNx F) { D with nx := sOf X rest D } s := fun s o => ⟨fun Γ' σ' I' H' T' z m => by
    obtain ⟨T2, m2⟩ := m.sub z
    exact rest_s (hk s) tk m2 o, fun _ _ _ _ _ z => z.elim, fun _ _ _ _ _ z => z.elim, fun _ _ _ _ _ _ _ _ z => z.elim⟩
  refine hc.ap tk mt.mw o.bind (fun x _ o1 I1 H1 g1 => ?_) fun _ z => z.xo mt hs
  cases x with
  | true => exact iteT (ha W tk I0 H0 σ I1 H1 T (mt.gr g1) _ (o1.bind.mono (fun s _ o2 => fin s o2) fun _ _ z => z))
  | false => exact iteF (hb W tk I0 H0 σ I1 H1 T (mt.gr g1) _ (o1.bind.mono (fun s _ o2 => fin s o2) fun _ _ z => z))
/-- falls through, or ends -/
inductive Jn (S τ : Type) where
  | go (s : S)
  | out (t : τ)
def Jn.on {S τ : Type} (j : Jn S τ) (k : S → M τ) : M τ := match j with
  | .go s => k s
  | .out t => .ok t
@[simp] theorem Jn.on_go {S τ : Type} (s : S) (k : S → M τ) : Jn.on (.go s) k = k s := rfl
@[simp] theorem Jn.on_out {S τ : Type} (t : τ) (k : S → M τ) : Jn.on (.out t) k = .ok t := rfl
def eJn {S τ : Type} (F : S → List SL) (E : Eds τ) : Eds (Jn S τ) where
  nx := fun Γ' j => ∃ s, j = .go s ∧ Sub Γ' (F s)
  rt := fun Γ' o j => ∃ t, j = .out t ∧ E.rt Γ' o t
  bk := fun Γ' j => ∃ t, j = .out t ∧ E.bk Γ' t
  ct := fun Γ' j => ∃ t, j = .out t ∧ E.ct Γ' t
theorem vs_ifg {S : Type} (F : S → List SL) {c : Expr} {a b : List Stmt} {mc : M Bool} {m1 m2 : M (Jn S τ)} {k : S → M τ} (hc : VT X Γ c mc) (ha : VS X Γ Γx a (eJn F E) m1) (hb : VS X Γ Γx b (eJn F E) m2) (hk : ∀ s, VS X (F s) Γx rest E (k s)) (hs : Sub Γ Γx) :
    VS X Γ Γx (.If c a b pos :: rest) E (mc >>= fun x => (if x then m1 else m2) >>= fun j => j.on k) := fun W tk I0 H0 σ I H T mt D o => by
  refine seq_s (to_s1 (ps_if pt_of pss_of pss_of) ?_)
  show kOf X c σ H _
  have fin : ∀ j : Jn S τ, Out (j.on k) (DO X I0 H0 E D) (XS X W I0 H0 Γx) → DO X I0 H0 (eJn F E) { D with nx := sOf X rest D } j := fun j o => ⟨fun Γ' σ' I' H' T' z m => by
      obtain ⟨s, rfl, z⟩ := z
      obtain ⟨T2, m2⟩ := m.sub z
      exact rest_s (hk s) tk m2 o, fun Γ' σ' I' H' T' z m => by
      obtain ⟨t, rfl, z⟩ := z
      exact DO.bk (E := E) o Γ' σ' I' H' T' z m, fun Γ' σ' I' H' T' z m => by
      obtain ⟨t, rfl, z⟩ := z
      exact DO.ct (E := E) o Γ' σ' I' H' T' z m, fun Γ' σ' ow v I' H' T2 T' z m sl r => by
      obtain ⟨t, rfl, z⟩ := z
      exact DO.rt (E := E) o Γ' σ' ow v I' H' T2 T' z m sl r⟩
  refine hc.ap tk mt.mw o.bind (fun x _ o1 I1 H1 g1 => ?_) fun _ z => z.xo mt hs
  cases x with
  | true => exact iteT (ha W tk I0 H0 σ I1 H1 T (mt.gr g1) _ (o1.bind.mono (fun s _ o2 => fin s o2) fun _ _ z => z))
  | false => exact iteF (hb W tk I0 H0 σ I1 H1 T (mt.gr g1) _ (o1.bind.mono (fun s _ o2 => fin s o2) fun _ _ z => z))
/-- a name that is no more changed becomes immutable -/
theorem vs_freeze (i : Nat) {ow : O} {m : M τ} (h : VS X (Γ.set i (.val (.imm ow.toD))) Γx rest E m) (hΓ : Γ[i]? = some (.val ow) := by rfl) : VS X Γ Γx rest E m := fun W tk I0 H0 σ I H T mt D o => by
  obtain ⟨v, T2, T', h1, q, s, c2, c', nd⟩ := mt.sl.take hΓ mt.wd.nd
  have w2 : Wd I0 H0 I H (T2 ++ T') := ⟨mt.wd.ih, mt.wd.i0, mt.wd.h0, fun p hp => mt.wd.fr p ((List.mem_append.mp hp).elim (c2 p) (c' p)), nd, mt.wd.sep⟩
  obtain ⟨I', w3, s3, r3⟩ := w2.freeze q
  have hi : i < (Γ.set i .any).length := by rw [List.length_set]; exact (List.getElem?_eq_some_iff.mp hΓ).1
  obtain ⟨T4, mt4⟩ := Mt.putI (⟨w3, s.mono s3 fun _ _ => rfl⟩ : Mt X.K X.mg I0 H0 (Γ.set i .any) σ I' H T') hi r3
  rw [List.set_set] at mt4
  have e : σ.set i (some v) = σ := by
    obtain ⟨hl, hv⟩ := List.getElem?_eq_some_iff.mp h1
    rw [← hv]; exact List.set_getElem_self hl
  rw [e] at mt4
  exact h W tk I0 H0 σ I' H T4 mt4 D o
theorem vs_freeze1 (i : Nat) {l : List α} {m : M τ} (h : VS X (Γ.set i (sI l)) Γx rest E m) (hΓ : Γ[i]? = some (sO l) := by rfl) : VS X Γ Γx rest E m := vs_freeze i (ow := ow1 l) (by rw [ow1_toD]; exact h) hΓ
end
end Vc

set_option Elab.async false
set_option linter.all false
set_option maxRecDepth 100000
namespace Vc
open PySem PySem.Spec PyProof.Rows L2
open Enc (enc)

/-! ### lists -/
def getI {α : Type} (l : List α) (i : Int) : M α := match atI l i with
  | some a => .ok a
  | none => .stuck
theorem getI_of {α : Type} {l : List α} {i : Int} {a : α} (h : atI l i = some a) : getI l i = .ok a := by unfold getI; rw [h]
theorem getI_nat {α : Type} {l : List α} {j : Nat} {a : α} (h : l[j]? = some a) : getI l (j : Int) = .ok a := getI_of (atI_nat h)
def setL {α : Type} (l : List α) (i : Int) (a : α) : M (List α) := match ixN l.length i with
  | some j => .ok (l.set j a)
  | none => .stuck
section
variable {K : PySem.W.Frag} {mg : Str → Option Value} {H : Hp} {α : Type} [Enc α]
theorem Rs.atI {xs : List V} {l : List α} {i : Int} {a : α} (h : Rs K mg H xs (l.map enc)) (e : L2.atI l i = some a) : ∃ v, L2.atI xs i = some v ∧ R K mg H v (enc a) := by
  have hl : xs.length = l.length := by rw [h.length, List.length_map]
  unfold L2.atI at e ⊢
  rw [hl]
  cases q : ixN l.length i with
  | none => rw [q] at e; cases e
  | some j =>
    rw [q] at e
    have e : l[j]? = some a := e
    obtain ⟨v, h1, h2⟩ := h.get (i := j) (x := enc a) (by rw [List.getElem?_map, e]; rfl)
    exact ⟨v, h1, h2⟩
theorem getI_out {l : List α} {i : Int} {P : α → Prop} {E : Exn → Prop} (o : Out (getI l i) P E) : ∃ a, L2.atI l i = some a ∧ P a := by
  unfold getI at o
  cases q : L2.atI l i with
  | none => rw [q] at o; exact o.elim
  | some a => rw [q] at o; exact ⟨a, rfl, o⟩
theorem R.lst_inv {v : V} {ds : List D} (r : R K mg H v (.lst ds)) : ∃ p xs, v = .ref p ∧ SqL K H p xs ∧ Rs K mg H xs ds := by
  cases r with
  | lst h q => exact ⟨_, _, rfl, h, q⟩
theorem R.tup_inv {v : V} {ds : List D} (r : R K mg H v (.tup ds)) : ∃ p xs, v = .ref p ∧ SqT K H p xs ∧ Rs K mg H xs ds := by
  cases r with
  | tup h q => exact ⟨_, _, rfl, h.sq, q⟩
end
section
variable {X : Cx} {Γ : List SL} {e a b c : Expr} {es : List Expr} {pos : Pos} {α β γ : Type} [Enc α] [Enc β] [Enc γ] {w w' : Bool}
/-- l[i] of a list -/
theorem ve_idx {m1 : M (List α)} {m2 : M Int} (ha : VX w X Γ a m1) (hb : VX true X Γ b m2) (hs : PlainIx b := by exact fun _ _ => rfl) : VX w X Γ (.Subscript a b pos) (m1 >>= fun l => m2 >>= fun i => getI l i) := fun W tk σ I H T mw Q o => by
  refine to_t (pe_ix ix_list pe_of pe_of hs) (ha.ap tk mw o.bind (fun l _ o1 v I1 H1 g1 r1 => ?_) fun _ z => z)
  refine hb.ap tk (mw.gr g1) o1.bind (fun i _ o2 u I2 H2 g2 r2 => ?_) fun _ z => z.gr g1
  cases r2
  obtain ⟨a, e, o3⟩ := getI_out o2
  obtain ⟨p, xs, rfl, hq, rs⟩ := (r1.mono (wsel_same g2)).lst_inv
  obtain ⟨z, e2, r3⟩ := rs.atI e
  exact ⟨p, xs, i, z, rfl, rfl, (wsel_le g2.ih).seq hq, e2, o3 z I2 H2 (g1.trans g2) r3⟩
/-- t[i] of a tuple of one kind -/
theorem ve_idxT {m1 : M (Tup α)} {m2 : M Int} (ha : VX w X Γ a m1) (hb : VX true X Γ b m2) (hs : PlainIx b := by exact fun _ _ => rfl) : VX w X Γ (.Subscript a b pos) (m1 >>= fun l => m2 >>= fun i => getI l.l i) := fun W tk σ I H T mw Q o => by
  refine to_t (pe_ix ix_tup pe_of pe_of hs) (ha.ap tk mw o.bind (fun l _ o1 v I1 H1 g1 r1 => ?_) fun _ z => z)
  refine hb.ap tk (mw.gr g1) o1.bind (fun i _ o2 u I2 H2 g2 r2 => ?_) fun _ z => z.gr g1
  cases r2
  obtain ⟨a, e, o3⟩ := getI_out o2
  obtain ⟨p, xs, rfl, hq, rs⟩ := (r1.mono (wsel_same g2)).tup_inv
  obtain ⟨z, e2, r3⟩ := rs.atI e
  exact ⟨p, xs, i, z, rfl, rfl, Same.seqT (wsel_le g2.ih) hq, e2, o3 z I2 H2 (g1.trans g2) r3⟩
/-- t[2] of a tuple of a written form -/
theorem ve_proj {m : M α} {i : Int} (f : α → β) (ha : VX w X Γ a m) (hb : VX true X Γ b (M.ok i)) (hf : ∀ x : α, ∃ ds, enc x = .tup ds ∧ L2.atI ds i = some (enc (f x)) := by exact fun _ => ⟨_, rfl, rfl⟩) (hs : PlainIx b := by exact fun _ _ => rfl) : VX w X Γ (.Subscript a b pos) (m >>= fun x => M.ok (f x)) := fun W tk σ I H T mw Q o => by
  refine to_t (pe_ix ix_tup pe_of pe_of hs) (ha.ap tk mw o.bind (fun l _ o1 v I1 H1 g1 r1 => ?_) fun _ z => z)
  refine hb.ap tk (mw.gr g1) (P := fun _ => True) (E := fun _ => False) trivial (fun i' q _ u I2 H2 g2 r2 => ?_) fun _ z => z.elim
  cases q
  cases r2
  obtain ⟨ds, e1, e2⟩ := hf l
  rw [e1] at r1
  obtain ⟨p, xs, rfl, hq, rs⟩ := (r1.mono (wsel_same g2)).tup_inv
  have hl := rs.length
  unfold L2.atI at e2
  cases q : ixN ds.length i with
  | none => rw [q] at e2; cases e2
  | some j =>
    rw [q] at e2
    obtain ⟨z, h1, h2⟩ := rs.get (i := j) e2
    refine ⟨p, xs, i, z, rfl, rfl, Same.seqT (wsel_le g2.ih) hq, ?_, o1 z I2 H2 (g1.trans g2) h2⟩
    unfold L2.atI
    rw [hl, q]
    exact h1
/-- (a, b, ..) -/
theorem ve_tup {A : Type} {ea : A → List D} {m : M A} {k : Nat} (f : A → α) (h : VA false X Γ es ea m) (hf : ∀ x, enc (f x) = .tup (ea x) := by exact fun _ => rfl) (hz : ∀ x, Nat.ble (ea x).length sizeLine = true := by exact fun _ => rfl) : VX w X Γ (.Tuple es k pos) (m >>= fun x => M.ok (f x)) := VX.le fun W tk σ I H T mw Q o => by
  refine to_t (pe_tup pa_of) (h.ap tk mw o.bind (fun x _ o1 vs I1 H1 g1 r1 => ⟨by rw [r1.length]; exact Nat.le_of_ble_eq_true (hz x), fun p hp => ?_⟩) fun _ z => z)
  refine o1 _ _ _ (g1.trans (Gr.new g1.ih hp)) ?_
  rw [hf]
  exact .tup (.of upd_same) (r1.mono (Gr.new g1.ih hp).i0)
/-- [a, b, ..] -/
theorem vo_lst {A : Type} {ea : A → List D} {m : M A} (f : A → List α) (h : VA false X Γ es ea m) (hf : ∀ x, (f x).map enc = ea x := by exact fun _ => rfl) (hz : ∀ x, Nat.ble (ea x).length sizeLine = true := by exact fun _ => rfl) : VO X Γ (.List es pos) ow1 (m >>= fun x => M.ok (f x)) := fun W tk σ I H T mw Q o => by
  refine to_t (pe_lst pa_of) (h.ap tk mw o.bind (fun x _ o1 vs I1 H1 g1 r1 => ⟨by rw [r1.length]; exact Nat.le_of_ble_eq_true (hz x), fun p hp => ?_⟩) fun _ z => z)
  have w1 : Wd I1 H1 I1 (upd H1 p (.lst vs)) [p] := .new g1.ih hp
  refine o1 _ I1 _ [p] ?_ ?_
  · have := Wd.ow g1 (fun _ z => nomatch z) w1
    exact this
  · refine .lst (T := []) upd_same ?_
    rw [show (f x).map (fun a => O.imm (enc a)) = ((f x).map enc).map O.imm by rw [List.map_map]; rfl, hf]
    exact Ows.of_imm r1
/-- a built-in that takes values to a value, called -/
theorem ve_bcall {x : Str} {id : String} {p : Pos} {A : Type} {ea : A → List D} {m : M A} {f : A → M γ} {r : List V → Hp → VK → Prop} (hc : CallR X (.builtin id) r) (hg : Gl X x) (hm : X.mg x = none) (hv : bootBuiltins x = some (.builtin id)) (h : VA true X Γ (e :: es) ea m)
    (hr : ∀ a vs I H, Same I H → Rs X.K X.mg H vs (ea a) → ∀ Q : VK, Out (f a) (fun z => ∀ t I' H', Gr I H I' H' → R X.K X.mg (wsel w I' H') t (enc z) → Q t H') (fun _ => False) → r vs H Q) (hx : ∀ a e, f a ≠ .exc e)
    (hn : x ≠ "__name__" := by decide) (hdb : (x == ("__debug__" : Str)) = false := by decide) (he : starEach (e :: es) X.env = (false, eval e X.env) :: starEach es X.env := by rfl) (hpl : (backTo pos (starEach es X.env)).any (·.1) = false := by rfl) : VX w X Γ (.Call (.Name x p) (e :: es) [] pos) (m >>= f) := fun W tk σ I H T mw Q o => by
  refine to_t (pe_callB hc hg hm hv pa_of hn hdb he hpl) (h.ap tk mw o.bind (fun a _ o1 vs I1 H1 g1 r1 => ?_) fun _ z => z)
  exact hr a vs I1 H1 g1.ih r1 Q (o1.mono (fun z _ k t I' H' g rr => k t I' H' (g1.trans g) rr) fun e q _ => hx a e q)
theorem ve_tcall {x : Str} {id : String} {p : Pos} {A : Type} {ea : A → List D} {m : M A} {f : A → M γ} {r : List V → Hp → VK → Prop} (hc : CallR X (.type id) r) (hg : Gl X x) (hm : X.mg x = none) (hv : bootBuiltins x = some (.type id)) (h : VA true X Γ (e :: es) ea m)
    (hr : ∀ a vs I H, Same I H → Rs X.K X.mg H vs (ea a) → ∀ Q : VK, Out (f a) (fun z => ∀ t I' H', Gr I H I' H' → R X.K X.mg (wsel w I' H') t (enc z) → Q t H') (fun _ => False) → r vs H Q) (hx : ∀ a e, f a ≠ .exc e)
    (hn : x ≠ "__name__" := by decide) (hdb : (x == ("__debug__" : Str)) = false := by decide) (he : starEach (e :: es) X.env = (false, eval e X.env) :: starEach es X.env := by rfl) (hpl : (backTo pos (starEach es X.env)).any (·.1) = false := by rfl) : VX w X Γ (.Call (.Name x p) (e :: es) [] pos) (m >>= f) := fun W tk σ I H T mw Q o => by
  refine to_t (pe_callTy hc hg hm hv pa_of hn hdb he hpl) (h.ap tk mw o.bind (fun a _ o1 vs I1 H1 g1 r1 => ?_) fun _ z => z)
  exact hr a vs I1 H1 g1.ih r1 Q (o1.mono (fun z _ k t I' H' g rr => k t I' H' (g1.trans g) rr) fun e q _ => hx a e q)
/-- .. to a new owned thing -/
theorem vo_tcall {x : Str} {id : String} {p : Pos} {A G : Type} {ea : A → List D} {m : M A} {ow : G → O} {f : A → M G} {r : List V → Hp → VK → Prop} (hc : CallR X (.type id) r) (hg : Gl X x) (hm : X.mg x = none) (hv : bootBuiltins x = some (.type id)) (h : VA w X Γ (e :: es) ea m)
    (hr : ∀ a vs I H, Same I H → Rs X.K X.mg (wsel w I H) vs (ea a) → ∀ Q : VK, Out (f a) (fun z => ∀ t I' H' T', Wd I H I' H' T' → Ow X.K X.mg I' H' t (ow z) T' → Q t H') (fun _ => False) → r vs H Q) (hx : ∀ a e, f a ≠ .exc e)
    (hn : x ≠ "__name__" := by decide) (hdb : (x == ("__debug__" : Str)) = false := by decide) (he : starEach (e :: es) X.env = (false, eval e X.env) :: starEach es X.env := by rfl) (hpl : (backTo pos (starEach es X.env)).any (·.1) = false := by rfl) : VO X Γ (.Call (.Name x p) (e :: es) [] pos) ow (m >>= f) := fun W tk σ I H T mw Q o => by
  refine to_t (pe_callTy hc hg hm hv pa_of hn hdb he hpl) (h.ap tk mw o.bind (fun a _ o1 vs I1 H1 g1 r1 => ?_) fun _ z => z)
  exact hr a vs I1 H1 g1.ih r1 Q (o1.mono (fun z _ k t I' H' T' g rr => k t I' H' T' (by have := Wd.ow g1 (fun _ z => nomatch z) g; simpa using this) rr) fun e q _ => hx a e q)
end
abbrev e1 {α : Type} [Enc α] : α × Unit → List D := eCons eNil
abbrev e2 {α β : Type} [Enc α] [Enc β] : α × β × Unit → List D := eCons (eCons eNil)
section
variable {X : Cx} {Γ : List SL} {e a b c : Expr} {es : List Expr} {pos p : Pos} {α β γ : Type} [Enc α] [Enc β] [Enc γ] {w w' : Bool}
theorem Rs.one {K : PySem.W.Frag} {mg : Str → Option Value} {H : Hp} {vs : List V} {d : D} (h : Rs K mg H vs [d]) : ∃ v, vs = [v] ∧ R K mg H v d := by
  cases h with
  | cons h r => cases r; exact ⟨_, rfl, h⟩
theorem Rs.two {K : PySem.W.Frag} {mg : Str → Option Value} {H : Hp} {vs : List V} {d d' : D} (h : Rs K mg H vs [d, d']) : ∃ v v', vs = [v, v'] ∧ R K mg H v d ∧ R K mg H v' d' := by
  cases h with
  | cons h r => cases r with
    | cons h' r => cases r; exact ⟨_, _, rfl, h, h'⟩
theorem ve_len {m : M (List α)} (hm : X.mg "len" = none) (h : VX true X Γ e m) (hg : Gl X "len" := by rfl) (hs : starEach [e] X.env = (false, eval e X.env) :: starEach [] X.env := by rfl) : VX w X Γ (.Call (.Name "len" p) [e] [] pos) (m >>= fun l => M.ok (l.length : Int)) := by
  have q := ve_bcall (w := w) (f := fun a : List α × Unit => M.ok (a.1.length : Int)) (p := p) (pos := pos) call_len_seq hg hm boot_len (va_cons h va_nil hs) (fun a vs I H s rs Q o => by
    obtain ⟨v, rfl, r⟩ := rs.one
    obtain ⟨p, xs, rfl, hq, rs⟩ := r.lst_inv
    have hl : xs.length = a.1.length := by rw [rs.length, List.length_map]
    refine ⟨p, xs, rfl, .inl hq, ?_⟩
    rw [hl]
    exact o _ I H (.refl s) (.int _)) (fun _ _ z => nomatch z) (he := hs)
  refine q.congr ?_
  cases m <;> rfl
theorem ve_lenT {m : M (Tup α)} (hm : X.mg "len" = none) (h : VX true X Γ e m) (hg : Gl X "len" := by rfl) (hs : starEach [e] X.env = (false, eval e X.env) :: starEach [] X.env := by rfl) : VX w X Γ (.Call (.Name "len" p) [e] [] pos) (m >>= fun l => M.ok (l.l.length : Int)) := by
  have q := ve_bcall (w := w) (f := fun a : Tup α × Unit => M.ok (a.1.l.length : Int)) (p := p) (pos := pos) call_len_seq hg hm boot_len (va_cons h va_nil hs) (fun a vs I H s rs Q o => by
    obtain ⟨v, rfl, r⟩ := rs.one
    obtain ⟨p, xs, rfl, hq, rs⟩ := r.tup_inv
    have hl : xs.length = a.1.l.length := by rw [rs.length, List.length_map]
    refine ⟨p, xs, rfl, .inr hq, ?_⟩
    rw [hl]
    exact o _ I H (.refl s) (.int _)) (fun _ _ z => nomatch z) (he := hs)
  refine q.congr ?_
  cases m <;> rfl
theorem ve_abs {m : M Int} (hm : X.mg "abs" = none) (h : VX true X Γ e m) (hg : Gl X "abs" := by rfl) (hs : starEach [e] X.env = (false, eval e X.env) :: starEach [] X.env := by rfl) : VX w X Γ (.Call (.Name "abs" p) [e] [] pos) (m >>= fun i => M.ok (if i < 0 then -i else i)) := by
  have q := ve_bcall (w := w) (f := fun a : Int × Unit => M.ok (if a.1 < 0 then -a.1 else a.1)) (p := p) (pos := pos) call_abs hg hm (by decide +kernel) (va_cons h va_nil hs) (fun a vs I H s rs Q o => by
    obtain ⟨v, rfl, r⟩ := rs.one
    cases r
    exact ⟨a.1, rfl, o _ I H (.refl s) (.int _)⟩) (fun _ _ z => nomatch z) (he := hs)
  refine q.congr ?_
  cases m <;> rfl
theorem ve_toint {m : M Int} (hm : X.mg "int" = none) (h : VX true X Γ e m) (hg : Gl X "int" := by rfl) (hs : starEach [e] X.env = (false, eval e X.env) :: starEach [] X.env := by rfl) : VX w X Γ (.Call (.Name "int" p) [e] [] pos) m := by
  have q := ve_tcall (w := w) (f := fun a : Int × Unit => M.ok a.1) (p := p) (pos := pos) call_int1 hg hm (by decide +kernel) (va_cons h va_nil hs) (fun a vs I H s rs Q o => by
    obtain ⟨v, rfl, r⟩ := rs.one
    cases r
    exact .inl ⟨a.1, rfl, o _ I H (.refl s) (.int _)⟩) (fun _ _ z => nomatch z) (he := hs)
  refine q.congr ?_
  cases m <;> rfl
theorem ve_min2 {m1 m2 : M Int} (hc : X.calm = true) (hm : X.mg "min" = none) (h1 : VX true X Γ a m1) (h2 : VX true X Γ b m2) (hg : Gl X "min" := by rfl) (hs : starEach [a, b] X.env = (false, eval a X.env) :: starEach [b] X.env := by rfl) (hs2 : starEach [b] X.env = (false, eval b X.env) :: starEach [] X.env := by rfl) (hpl : (backTo pos (starEach [b] X.env)).any (·.1) = false := by rfl) :
    VX w X Γ (.Call (.Name "min" p) [a, b] [] pos) (m1 >>= fun x => m2 >>= fun y => M.ok (if y < x then y else x)) := by
  have q := ve_bcall (w := w) (f := fun a : Int × Int × Unit => M.ok (if a.2.1 < a.1 then a.2.1 else a.1)) (p := p) (pos := pos) (call_min2 hc) hg hm (by decide +kernel) (va_cons h1 (va_cons h2 va_nil hs2) hs) (fun a vs I H s rs Q o => by
    obtain ⟨v, v', rfl, r, r'⟩ := rs.two
    cases r; cases r'
    exact ⟨a.1, a.2.1, rfl, o _ I H (.refl s) (.int _)⟩) (fun _ _ z => nomatch z) (he := hs) (hpl := hpl)
  refine q.congr ?_
  cases m1 <;> cases m2 <;> rfl
theorem ve_max2 {m1 m2 : M Int} (hc : X.calm = true) (hm : X.mg "max" = none) (h1 : VX true X Γ a m1) (h2 : VX true X Γ b m2) (hg : Gl X "max" := by rfl) (hs : starEach [a, b] X.env = (false, eval a X.env) :: starEach [b] X.env := by rfl) (hs2 : starEach [b] X.env = (false, eval b X.env) :: starEach [] X.env := by rfl) (hpl : (backTo pos (starEach [b] X.env)).any (·.1) = false := by rfl) :
    VX w X Γ (.Call (.Name "max" p) [a, b] [] pos) (m1 >>= fun x => m2 >>= fun y => M.ok (if y > x then y else x)) := by
  have q := ve_bcall (w := w) (f := fun a : Int × Int × Unit => M.ok (if a.2.1 > a.1 then a.2.1 else a.1)) (p := p) (pos := pos) (call_max2 hc) hg hm (by decide +kernel) (va_cons h1 (va_cons h2 va_nil hs2) hs) (fun a vs I H s rs Q o => by
    obtain ⟨v, v', rfl, r, r'⟩ := rs.two
    cases r; cases r'
    exact ⟨a.1, a.2.1, rfl, o _ I H (.refl s) (.int _)⟩) (fun _ _ z => nomatch z) (he := hs) (hpl := hpl)
  refine q.congr ?_
  cases m1 <;> cases m2 <;> rfl
/-- list(xs): borrowed if its items are plain -/
theorem ow1_new {K : PySem.W.Frag} {mg : Str → Option Value} {I H : Hp} {xs : List V} {l : List α} {p : Addr} (r : Rs K mg I xs (l.map enc)) : Ow K mg I (upd H p (.lst xs)) (.ref p) (ow1 l) [p] := by
  refine .lst (T := []) upd_same ?_
  rw [show l.map (fun a => O.imm (enc a)) = (l.map enc).map O.imm by rw [List.map_map]; rfl]
  exact Ows.of_imm r
theorem vo_list {m : M (List α)} (hm : X.mg "list" = none) (h : VX false X Γ e m) (hg : Gl X "list" := by rfl) (hs : starEach [e] X.env = (false, eval e X.env) :: starEach [] X.env := by rfl) : VO X Γ (.Call (.Name "list" p) [e] [] pos) ow1 m := by
  have q := vo_tcall (w := false) (ow := ow1) (f := fun a : List α × Unit => M.ok a.1) (p := p) (pos := pos) call_list_of hg hm (by decide +kernel) (va_cons h va_nil hs) (fun a vs I H s rs Q o => by
    obtain ⟨v, rfl, r⟩ := rs.one
    obtain ⟨p, xs, rfl, hq, rs⟩ := r.lst_inv
    exact ⟨p, xs, rfl, .inl (s.seq hq), fun l hl => o _ I _ [l] (Wd.new s hl) (ow1_new rs)⟩) (fun _ _ z => nomatch z) (he := hs)
  have e : (m >>= fun x => M.ok () >>= fun y => M.ok (x, y)) >>= (fun a : List α × Unit => M.ok a.1) = m := by cases m <;> rfl
  rw [← e]
  exact q
theorem Rs.atoms {K : PySem.W.Frag} {mg : Str → Option Value} {H H' : Hp} [Atm α] : ∀ {xs : List V} {l : List α}, Rs K mg H xs (l.map enc) → Rs K mg H' xs (l.map enc)
  | _, [], .nil => .nil
  | _, a :: l, .cons h r => .cons (h.atom (Atm.atm a)) (Rs.atoms r)
theorem vo_listB [Atm α] {m : M (List α)} (hm : X.mg "list" = none) (h : VX true X Γ e m) (hg : Gl X "list" := by rfl) (hs : starEach [e] X.env = (false, eval e X.env) :: starEach [] X.env := by rfl) : VO X Γ (.Call (.Name "list" p) [e] [] pos) ow1 m := by
  have q := vo_tcall (w := true) (ow := ow1) (f := fun a : List α × Unit => M.ok a.1) (p := p) (pos := pos) call_list_of hg hm (by decide +kernel) (va_cons h va_nil hs) (fun a vs I H s rs Q o => by
    obtain ⟨v, rfl, r⟩ := rs.one
    obtain ⟨p, xs, rfl, hq, rs⟩ := r.lst_inv
    exact ⟨p, xs, rfl, .inl hq, fun l hl => o _ I _ [l] (Wd.new s hl) (ow1_new rs.atoms)⟩) (fun _ _ z => nomatch z) (he := hs)
  have e : (m >>= fun x => M.ok () >>= fun y => M.ok (x, y)) >>= (fun a : List α × Unit => M.ok a.1) = m := by cases m <;> rfl
  rw [← e]
  exact q
/-! slices -/
def cutL (l : List α) (lo hi : Option Int) : List α := (l.drop (HT.sIx l.length 0 lo)).take (HT.sIx l.length l.length hi - HT.sIx l.length 0 lo)
theorem Rs.cut {K : PySem.W.Frag} {mg : Str → Option Value} {H : Hp} {xs : List V} {l : List α} {lo hi : Option Int} (h : Rs K mg H xs (l.map enc)) : Rs K mg H (cutV xs lo hi) ((cutL l lo hi).map enc) := by
  have hl : xs.length = l.length := by rw [h.length, List.length_map]
  unfold cutV cutL
  rw [hl, List.map_take, List.map_drop]
  exact (h.drop _).take _
/-- a part of a slice -/
def VP (X : Cx) (Γ : List SL) (e : Option Expr) (m : M (Option Int)) : Prop :=
  ∀ (W : WX), L2N.Takes X W → ∀ σ I H T, Mw X.K X.mg Γ σ I H T → ∀ Q : Option Int → Hp → Prop,
    Out m (fun a => ∀ I' H', Gr I H I' H' → Q a H') (XO X W σ I H) → ∃ t : TO, PO X e t ∧ t σ H Q
theorem vp_none : VP X Γ none (.ok none) := fun W tk σ I H T mw Q o => ⟨_, po_none, o I H (.refl mw.ih)⟩
theorem vp_some {m : M Int} (h : VX true X Γ e m) : VP X Γ (some e) (m >>= fun i => .ok (some i)) := fun W tk σ I H T mw Q o =>
  ⟨_, po_some pe_of, h.ap tk mw o.bind (fun i _ o1 v I1 H1 g1 r1 => by cases r1; exact ⟨i, rfl, o1 I1 H1 g1⟩) fun _ z => z⟩
end
def oOf (X : Cx) (e : Option Expr) : TO := fun σ H Q => ∀ pins s, Inv X pins σ H s → wpAny (model X.prog X.w) X.A (evalPart e X.env) (fun u s' => ∃ o H', Inv X pins σ H' s' ∧ IsPart u o ∧ Q o H') X.xe s
end Vc

set_option Elab.async false
set_option linter.all false
set_option maxRecDepth 100000
namespace Vc
open PySem PySem.Spec PyProof.Rows L2
open Enc (enc)

/-! ### list + list, list * int, by SqL -/
def rCatS (K : PySem.W.Frag) : R2 := fun x y H Q => ∃ l b xs zs, x = .ref l ∧ y = .ref b ∧ SqL K H l xs ∧ SqL K H b zs ∧ xs.length + zs.length ≤ sizeLine ∧ ∀ p, H p = none → Q (.ref p) (upd H p (.lst (xs ++ zs)))
theorem op_catS {X : Cx} : OpR X (binaryOp .Add) (rCatS X.K) := by
  intro pins s σ H x y v u Q I rx ry h
  obtain ⟨l, b, xs, zs, rfl, rfl, hH, hB, hz, q⟩ := h
  cases rx
  cases ry
  obtain ⟨its, r, pl, hz1⟩ := I.list hH
  obtain ⟨its2, r2, pl2, hz2⟩ := I.list hB
  obtain ⟨⟨cls, dd, data, sl⟩, n, ho, hc, hdd, hd⟩ := pl
  obtain ⟨⟨cls2, dd2, data2, sl2⟩, n2, ho2, hc2, hdd2, hd2⟩ := pl2
  simp only at hc hd hdd hc2 hd2 hdd2
  subst hc hd hdd hc2 hd2 hdd2
  have hl := r.length
  have hl2 := r2.length
  refine concat_meets ⟨_, ho, rfl⟩ ⟨_, ho2, rfl⟩ noFill_list_add seq_list_add PySem.F.slot_list_add PySem.F.entry_list_add (PySem.F.args_list_add_2 _ _) (list_addW l b its.toArray its2.toArray n n2 none none sl sl2 (by rw [List.size_toArray, List.size_toArray]; omega)) ⟨ho, ho2, ?_⟩
  have ea : its.toArray ++ its2.toArray = (its ++ its2).toArray := by simp
  rw [ea]
  refine ⟨.ref _, upd H s.heap.objs.size (.lst (xs ++ zs)), I.laid (t' := s.toks) (fun b o e => Heap.get?_push_of_some _ e) (Nat.le_refl _) ?_, rfl, q _ (I.hok.fresh (Nat.le_refl _))⟩
  exact ⟨by rw [List.length_append]; omega, _, 0, r.append r2, Heap.get?_push_size _ rfl⟩
def rRepS (K : PySem.W.Frag) : R2 := fun x y H Q => ∃ l k xs, x = .ref l ∧ y = .int k ∧ SqL K H l xs ∧ -(2 ^ 63) ≤ k ∧ k < 2 ^ 63 ∧ xs.length * k.toNat ≤ sizeLine ∧
  ∀ p, H p = none → Q (.ref p) (upd H p (.lst (List.replicate k.toNat xs).flatten))
theorem Vals.rep {xs : List V} {us : List Value} (r : Vals xs us) : ∀ n, Vals (List.replicate n xs).flatten (List.replicate n us).flatten
  | 0 => .nil
  | n + 1 => by
    rw [List.replicate_succ, List.replicate_succ, List.flatten_cons, List.flatten_cons]
    exact r.append (Vals.rep r n)
theorem op_repS {X : Cx} : OpR X (binaryOp .Mult) (rRepS X.K) := by
  intro pins s σ H x y v u Q I rx ry h
  obtain ⟨l, k, xs, rfl, rfl, hH, h1, h2, hz, q⟩ := h
  cases rx
  obtain ⟨t, rfl⟩ := ry
  obtain ⟨its, r, pl, hz1⟩ := I.list hH
  obtain ⟨⟨cls, dd, data, sl⟩, n, ho, hc, hdd, hd⟩ := pl
  simp only at hc hd hdd
  subst hc hd hdd
  have hl := r.length
  have hsz' : its.toArray.size * k.toNat ≤ 2 ^ 24 := by rw [List.size_toArray, ← hl]; exact hz
  refine wpAny_binaryOp_repeat_ref (T := "list") (U := "int") (by decide) ⟨_, ho, rfl⟩ (fun s' => typeIs_int s' k t) noFill_list_mul PySem.F.fills_int_mul PySem.F.slot_int_rmul repeat_list PySem.F.slot_int_index.lookup
    (call_meets PySem.F.slot_int_rmul (typeIs_int s k t) PySem.F.entry_int_rmul (PySem.F.args_int_rmul_2 _ _) (lm_int_rmul_list_any k t l its.toArray n none sl)
      ⟨ho, rfl, ⟨_, ho, rfl⟩, call_meets PySem.F.slot_list_mul ⟨_, ho, rfl⟩ PySem.F.entry_list_mul (PySem.F.args_list_mul_2 _ _)
        (lm_list_mul_any l its.toArray n none sl k t (by simp [Builtin.List.listFitsIndex]; omega) (by omega) (by simp [Builtin.List.listTooLong, sizeLine]; simp at hsz'; omega))
        ⟨ho, ?_⟩⟩)
  refine ⟨.ref _, upd H s.heap.objs.size (.lst (List.replicate k.toNat xs).flatten), I.laid (t' := s.toks) (fun b o e => Heap.get?_push_of_some _ e) (Nat.le_refl _) ?_, rfl, q _ (I.hok.fresh (Nat.le_refl _))⟩
  refine ⟨?_, _, 0, Vals.rep r k.toNat, ?_⟩
  · rw [List.length_flatten, List.map_replicate, List.sum_replicate_nat, Nat.mul_comm]
    exact hz
  · rw [Heap.get?_push_size _ rfl, listMul_foldl_if]
def rPgL (K : PySem.W.Frag) : V → V → Hp → VK → Prop := rIxL K
theorem pget_list {X : Cx} : PGet X (rPgL X.K) := by
  intro pins s σ H o i ov iv Q I ro ri h
  obtain ⟨p, xs, i, z, rfl, rfl, hq, he, q⟩ := h
  cases ro
  obtain ⟨t, rfl⟩ := ri
  obtain ⟨its, r, pl, hz⟩ := I.list hq
  obtain ⟨j, h1, h2, h3, h4, h5⟩ := atI_get he
  obtain ⟨w, ew, rw'⟩ := r.get h2
  have hl := r.length
  have hn := line63
  have fin : EP X pins σ Q w s := ⟨z, H, I, rw', q⟩
  by_cases h0 : 0 ≤ i
  · have hj : i.toNat = j := by
      rw [seqIndex_of h0 h5] at h1
      exact Option.some.inj h1
    exact wpAny_getItem_list pl.isList h0 (by omega) (by rw [hj]; simpa using ew) fin
  · have hj : (i + (its.toArray.size : Int)).toNat = j := by
      rw [seqIndex_neg (by omega) h4] at h1
      rw [List.size_toArray, ← hl]
      exact Option.some.inj h1
    exact wpAny_getItem_list_neg pl.isList (by omega) (by rw [List.size_toArray] <;> omega) (by omega) (by rw [hj]; simpa using ew) fin

def catM {α : Type} (x y : List α) : M (List α) := chk (x.length + y.length ≤ sizeLine) >>= fun _ => .ok (x ++ y)
def repM {α : Type} (x : List α) (k : Int) : M (List α) := chk (-(2 ^ 63) ≤ k ∧ k < 2 ^ 63 ∧ x.length * k.toNat ≤ sizeLine) >>= fun _ => .ok (List.replicate k.toNat x).flatten
section
variable {X : Cx} {Γ Γx : List SL} {e a b c : Expr} {es : List Expr} {rest : List Stmt} {pos p : Pos} {α β γ : Type} [Enc α] [Enc β] [Enc γ] {w w' : Bool} {τ : Type} {E : Eds τ}
theorem vo_cat {m1 m2 : M (List α)} (ha : VX false X Γ a m1) (hb : VX false X Γ b m2) : VO X Γ (.BinOp a .Add b pos) ow1 (m1 >>= fun x => m2 >>= fun y => catM x y) := fun W tk σ I H T mw Q o => by
  refine to_t (pe_op op_catS pe_of pe_of) (ha.ap tk mw o.bind (fun l _ o1 v I1 H1 g1 r1 => ?_) fun _ z => z)
  refine hb.ap tk (mw.gr g1) o1.bind (fun l2 _ o2 u I2 H2 g2 r2 => ?_) fun _ z => z.gr g1
  unfold catM at o2
  obtain ⟨hz, o3⟩ := o2.chk
  obtain ⟨p, xs, rfl, hq, rs⟩ := (r1.mono g2.i0).lst_inv
  obtain ⟨p2, ys, rfl, hq2, rs2⟩ := R.lst_inv r2
  refine ⟨p, p2, xs, ys, rfl, rfl, g2.ih.seq hq, g2.ih.seq hq2, by rw [rs.length, rs2.length, List.length_map, List.length_map]; exact hz, fun p hp => ?_⟩
  refine o3 _ I2 _ [p] (by have := Wd.ow (g1.trans g2) (fun _ z => nomatch z) (Wd.new (o := .lst (xs ++ ys)) g2.ih hp); simpa using this) (ow1_new ?_)
  rw [List.map_append]
  exact Rs.append rs rs2
theorem vo_catB [Atm α] {m1 m2 : M (List α)} (ha : VX true X Γ a m1) (hb : VX true X Γ b m2) : VO X Γ (.BinOp a .Add b pos) ow1 (m1 >>= fun x => m2 >>= fun y => catM x y) := fun W tk σ I H T mw Q o => by
  refine to_t (pe_op op_catS pe_of pe_of) (ha.ap tk mw o.bind (fun l _ o1 v I1 H1 g1 r1 => ?_) fun _ z => z)
  refine hb.ap tk (mw.gr g1) o1.bind (fun l2 _ o2 u I2 H2 g2 r2 => ?_) fun _ z => z.gr g1
  unfold catM at o2
  obtain ⟨hz, o3⟩ := o2.chk
  obtain ⟨p, xs, rfl, hq, rs⟩ := (r1.mono g2.h0).lst_inv
  obtain ⟨p2, ys, rfl, hq2, rs2⟩ := R.lst_inv r2
  refine ⟨p, p2, xs, ys, rfl, rfl, hq, hq2, by rw [rs.length, rs2.length, List.length_map, List.length_map]; exact hz, fun p hp => ?_⟩
  refine o3 _ I2 _ [p] (by have := Wd.ow (g1.trans g2) (fun _ z => nomatch z) (Wd.new (o := .lst (xs ++ ys)) g2.ih hp); simpa using this) (ow1_new ?_)
  rw [List.map_append]
  exact Rs.append rs.atoms rs2.atoms
theorem Rs.rep {K : PySem.W.Frag} {mg : Str → Option Value} {H : Hp} {xs : List V} {l : List α} (h : Rs K mg H xs (l.map enc)) : ∀ n, Rs K mg H (List.replicate n xs).flatten ((List.replicate n l).flatten.map enc)
  | 0 => .nil
  | n + 1 => by
    rw [List.replicate_succ, List.replicate_succ, List.flatten_cons, List.flatten_cons, List.map_append]
    exact h.append (Rs.rep h n)
theorem vo_rep {m1 : M (List α)} {m2 : M Int} (ha : VX false X Γ a m1) (hb : VX true X Γ b m2) : VO X Γ (.BinOp a .Mult b pos) ow1 (m1 >>= fun x => m2 >>= fun y => repM x y) := fun W tk σ I H T mw Q o => by
  refine to_t (pe_op op_repS pe_of pe_of) (ha.ap tk mw o.bind (fun l _ o1 v I1 H1 g1 r1 => ?_) fun _ z => z)
  refine hb.ap tk (mw.gr g1) o1.bind (fun k _ o2 u I2 H2 g2 r2 => ?_) fun _ z => z.gr g1
  cases r2
  unfold repM at o2
  obtain ⟨⟨h1, h2, hz⟩, o3⟩ := o2.chk
  obtain ⟨p, xs, rfl, hq, rs⟩ := (r1.mono g2.i0).lst_inv
  refine ⟨p, k, xs, rfl, rfl, g2.ih.seq hq, h1, h2, by rw [rs.length, List.length_map]; exact hz, fun p hp => ?_⟩
  exact o3 _ I2 _ [p] (by have := Wd.ow (g1.trans g2) (fun _ z => nomatch z) (Wd.new (o := .lst (List.replicate k.toNat xs).flatten) g2.ih hp); simpa using this) (ow1_new (Rs.rep rs _))
/-! slices -/
theorem po_of {X : Cx} {e : Option Expr} : PO X e (oOf X e) := ⟨fun pins s σ H Q I h => h pins s I⟩
theorem VP.ap {e : Option Expr} {m : M (Option Int)} (h : VP X Γ e m) {W : WX} (tk : L2N.Takes X W) {σ : L2.St} {I H : Hp} {T : List Addr} (mw : Mw X.K X.mg Γ σ I H T) {Q : Option Int → Hp → Prop} {P : Option Int → Prop} {E : Exn → Prop} (o : Out m P E)
    (hP : ∀ a, m = .ok a → P a → ∀ I' H', Gr I H I' H' → Q a H') (hE : ∀ ex, E ex → XO X W σ I H ex) : oOf X e σ H Q := fun pins s In => by
  obtain ⟨t, p, q⟩ := h W tk σ I H T mw Q (o.mono hP fun ex _ k => hE ex k)
  exact p.run pins s σ H Q In q
theorem vo_sl {m : M (List α)} {lo hi : Option Expr} {ml mh : M (Option Int)} {p2 : Pos} (h : VX false X Γ e m) (hl : VP X Γ lo ml) (hh : VP X Γ hi mh) : VO X Γ (.Subscript e (.Slice lo hi none p2) pos) ow1 (m >>= fun l => ml >>= fun i => mh >>= fun j => M.ok (cutL l i j)) := fun W tk σ I H T mw Q o => by
  refine to_t (pe_slice sl_list pe_of po_of po_of) (h.ap tk mw o.bind (fun l _ o1 v I1 H1 g1 r1 => ?_) fun _ z => z)
  refine hl.ap tk (mw.gr g1) o1.bind (fun i _ o2 I2 H2 g2 => ?_) fun _ z => z.gr g1
  refine hh.ap tk ((mw.gr g1).gr g2) o2.bind (fun j _ o3 I3 H3 g3 => ?_) fun _ z => (z.gr g1).gr g2
  obtain ⟨p, xs, rfl, hq, rs⟩ := ((r1.mono g2.i0).mono g3.i0).lst_inv
  exact ⟨p, xs, rfl, g3.ih.seq hq, fun p hp => o3 _ I3 _ [p] (by have := Wd.ow ((g1.trans g2).trans g3) (fun _ z => nomatch z) (Wd.new (o := .lst (cutV xs i j)) g3.ih hp); simpa using this) (ow1_new rs.cut)⟩
theorem vo_slB [Atm α] {m : M (List α)} {lo hi : Option Expr} {ml mh : M (Option Int)} {p2 : Pos} (h : VX true X Γ e m) (hl : VP X Γ lo ml) (hh : VP X Γ hi mh) : VO X Γ (.Subscript e (.Slice lo hi none p2) pos) ow1 (m >>= fun l => ml >>= fun i => mh >>= fun j => M.ok (cutL l i j)) := fun W tk σ I H T mw Q o => by
  refine to_t (pe_slice sl_list pe_of po_of po_of) (h.ap tk mw o.bind (fun l _ o1 v I1 H1 g1 r1 => ?_) fun _ z => z)
  refine hl.ap tk (mw.gr g1) o1.bind (fun i _ o2 I2 H2 g2 => ?_) fun _ z => z.gr g1
  refine hh.ap tk ((mw.gr g1).gr g2) o2.bind (fun j _ o3 I3 H3 g3 => ?_) fun _ z => (z.gr g1).gr g2
  obtain ⟨p, xs, rfl, hq, rs⟩ := ((r1.mono g2.h0).mono g3.h0).lst_inv
  exact ⟨p, xs, rfl, hq, fun p hp => o3 _ I3 _ [p] (by have := Wd.ow ((g1.trans g2).trans g3) (fun _ z => nomatch z) (Wd.new (o := .lst (cutV xs i j)) g3.ih hp); simpa using this) (ow1_new rs.cut.atoms)⟩

/-! ### owned lists changed -/
theorem ow1_inv {l : List α} : ow1 l = O.lst ((l.map enc).map O.imm) := by unfold ow1; rw [List.map_map]; rfl
/-- an owned list at a slot: what stands there, and its change -/
theorem own_at {I0 H0 : Hp} {σ : L2.St} {I H : Hp} {T : List Addr} {i : Nat} {l : List α} (mt : Mt X.K X.mg I0 H0 Γ σ I H T) (hΓ : Γ[i]? = some (sO l)) : ∃ q xs, σ[i]? = some (some (.ref q)) ∧ H q = some (.lst xs) ∧ Rs X.K X.mg I xs (l.map enc) ∧
    ∀ I' H', Gr I H I' H' → H' q = some (.lst xs) ∧ ∀ xs' (l' : List α), Rs X.K X.mg I' xs' (l'.map enc) → Mt X.K X.mg I0 H0 (Γ.set i (sO l')) σ I' (upd H' q (.lst xs')) T := by
  rw [show sO l = .val (.lst ((l.map enc).map O.imm)) from congrArg SL.val ow1_inv] at hΓ
  obtain ⟨q, xs, T2, h1, h2, h3, h4, h5, h6⟩ := mt.sl.chg mt.wd.nd hΓ
  obtain ⟨rfl, rs⟩ := h4.imm
  refine ⟨q, xs, h1, h3, rs, fun I' H' g => ⟨g.h0 _ _ h3, fun xs' l' r' => ?_⟩⟩
  have mt1 := mt.gr g
  obtain ⟨q', ys, T2', h1', h2', h3', h4', h5', h6'⟩ := mt1.sl.chg mt1.wd.nd hΓ
  obtain ⟨rfl, rs'⟩ := h4'.imm
  have eq : q' = q := by rw [h1] at h1'; cases h1'; rfl
  subst eq
  refine ⟨mt1.wd.put h2', ?_⟩
  have := h6' xs' ((l'.map enc).map O.imm) (Ows.of_imm r')
  rw [← ow1_inv] at this
  exact this
/-- x.append(e) -/
theorem vs_append (i : Nat) {x : Str} {px apos : Pos} {l : List α} {m : M α} {k : List α → M τ} (he : VE X Γ e m) (hk : ∀ l', VS X (Γ.set i (sO l')) Γx rest E (k l')) (hs : Sub Γ Γx) (hΓ : Γ[i]? = some (sO l) := by rfl) (hN : X.N[i]? = some x := by rfl)
    (hv : Vis X.env.scope x := by first | exact Or.inl rfl | exact Or.inr (Or.inl rfl) | exact Or.inr (Or.inr rfl)) (hd : (x == ("__debug__" : Str)) = false := by decide) (hcd : (x == ("__classdict__" : Str)) = false := by decide)
    (hbase : attributeBase (.Name x px) "append" X.env (eval (.Name x px) X.env) = eval (.Name x px) X.env := by rfl)
    (hfew : ((backTo p (starEach [e] X.env)).all (fun x => !x.1) && (backToKw p (keywordEach [] X.env)).all (fun x => x.1.isSome) && decide (([e] : List Expr).length + ([] : List Keyword).length + (if ([] : List Keyword).isEmpty then 0 else 1) < 30)) = true := by rfl)
    (hline : (apos.endLine == p.line) = true := by rfl) (hst : starEach [e] X.env = (false, eval e X.env) :: starEach [] X.env := by rfl) (hpl : (backTo p (starEach [] X.env)).any (·.1) = false := by rfl)
    (hsw : swapsWith (.Call (.Attribute (.Name x px) "append" apos) [e] [] p) none pos.line X.env = pure false := by rfl) :
    VS X Γ Γx (.Expr (.Call (.Attribute (.Name x px) "append" apos) [e] [] p) pos :: rest) E (m >>= fun a => chk (l.length < sizeLine) >>= fun _ => k (l ++ [a])) := fun W tk I0 H0 σ I H T mt D o => by
  obtain ⟨q, xs, h1, h3, rs, up⟩ := own_at mt hΓ
  refine seq_s (to_s1 (ps_expr (pe_bm PySem.F.plainAttrs_list PySem.F.slot_list_append PySem.F.type_list_append mt_append (pe_var hN hv hd hcd) (pa_cons pe_of pa_nil hst) hbase hfew hline hst hpl) hsw) ⟨.ref q, h1, .inl ⟨rfl, xs, .of h3⟩, ?_⟩)
  refine he.ap tk mt.mw o.bind (fun a _ o1 v I1 H1 g1 r1 => ?_) fun _ z => z.xo mt hs
  obtain ⟨hz, o2⟩ := o1.chk
  obtain ⟨h3', up'⟩ := up I1 H1 g1
  refine ⟨q, xs, v, rfl, rfl, h3', by rw [rs.length, List.length_map]; exact hz, ?_⟩
  exact rest_s (hk _) tk (up' (xs ++ [v]) (l ++ [a]) (by rw [List.map_append]; exact Rs.append (rs.mono g1.i0) (.cons r1 .nil))) o2
theorem setL_out {l : List α} {i : Int} {a : α} {P : List α → Prop} {E : Exn → Prop} (o : Out (setL l i a) P E) : ∃ j, ixN l.length i = some j ∧ P (l.set j a) := by
  unfold setL at o
  cases q : ixN l.length i with
  | none => rw [q] at o; exact o.elim
  | some j => rw [q] at o; exact ⟨j, rfl, o⟩
/-- x[j] = e -/
theorem vs_setI (i : Nat) {x : Str} {px ps : Pos} {l : List α} {m : M α} {mi : M Int} {k : List α → M τ} (he : VE X Γ e m) (hix : VX true X Γ b mi) (hk : ∀ l', VS X (Γ.set i (sO l')) Γx rest E (k l')) (hs : Sub Γ Γx) (hΓ : Γ[i]? = some (sO l) := by rfl) (hN : X.N[i]? = some x := by rfl)
    (hv : Vis X.env.scope x := by first | exact Or.inl rfl | exact Or.inr (Or.inl rfl) | exact Or.inr (Or.inr rfl)) (hd : (x == ("__debug__" : Str)) = false := by decide) (hcd : (x == ("__classdict__" : Str)) = false := by decide)
    (hst : ∀ v, assign (.Subscript (.Name x px) b ps) X.env v = (do
      let ov ← holding [v] (eval (.Name x px) X.env)
      let iv ← holding [v, ov] (eval b X.env)
      standAt ps
      holding [v, ov, iv] (setItem ov iv v)
      release [v, ov, iv] []) := by intro _; rfl)
    (hs1 : swapsWithSole [.Subscript (.Name x px) b ps] e pos.line X.env = pure false := by rfl) (hw : swappedStores [.Subscript (.Name x px) b ps] e X.env = pure none := by rfl) (hm1 : (assignEach [.Subscript (.Name x px) b ps] X.env).map (·.2) = [assign (.Subscript (.Name x px) b ps) X.env] := by rfl) :
    VS X Γ Γx (.Assign [.Subscript (.Name x px) b ps] e pos :: rest) E (m >>= fun a => mi >>= fun j => setL l j a >>= k) := fun W tk I0 H0 σ I H T mt D o => by
  obtain ⟨q, xs, h1, h3, rs, up⟩ := own_at mt hΓ
  refine seq_s (to_s1 (ps_asg pe_of (pg_sub (pe_var hN hv hd hcd) pe_of set_list hst) hs1 hw hm1) ?_)
  refine he.ap tk mt.mw o.bind (fun a _ o1 v I1 H1 g1 r1 => ?_) fun _ z => z.xo mt hs
  refine ⟨.ref q, h1, ?_⟩
  refine hix.ap tk (mt.mw.gr g1) o1.bind (fun j _ o2 u I2 H2 g2 r2 => ?_) fun _ z => (z.xo mt hs).gr g1
  cases r2
  obtain ⟨n, hn, o3⟩ := setL_out o2.bind
  obtain ⟨h3', up'⟩ := up I2 H2 (g1.trans g2)
  refine ⟨q, xs, j, n, rfl, rfl, h3', by rw [rs.length, List.length_map]; exact hn, ?_⟩
  exact rest_s (hk _) tk (up' (xs.set n v) (l.set n a) (by rw [List.map_set]; exact Rs.set (r1.mono g2.i0) n (rs.mono (g1.trans g2).i0))) o3
/-- x[j] op= e, ints -/
theorem vs_augIt (i : Nat) {x : Str} {px ps : Pos} {op : Operator} {r : R2} {f : Int → Int → M Int} {l : List Int} {m : M Int} {mi : M Int} {k : List Int → M τ} (ho : OpR X (inplaceOp op) r) (hr : ∀ x y H, ∀ Q : VK, Out (f x y) (fun z => Q (.int z) H) (fun _ => False) → r (.int x) (.int y) H Q) (hxx : ∀ x y e, f x y ≠ .exc e)
    (hix : VX true X Γ b mi) (he : VX true X Γ e m) (hk : ∀ l', VS X (Γ.set i (sO l')) Γx rest E (k l')) (hs : Sub Γ Γx) (hΓ : Γ[i]? = some (sO l) := by rfl) (hN : X.N[i]? = some x := by rfl)
    (hv : Vis X.env.scope x := by first | exact Or.inl rfl | exact Or.inr (Or.inl rfl) | exact Or.inr (Or.inr rfl)) (hd : (x == ("__debug__" : Str)) = false := by decide) (hcd : (x == ("__classdict__" : Str)) = false := by decide)
    (ha : ∀ ov iv new, augStore b ov iv new = (do holding [new, ov, iv] (setItem ov iv new); release [new, ov, iv] []; pure .next) := by intros; rfl) :
    VS X Γ Γx (.AugAssign (.Subscript (.Name x px) b ps) op e pos :: rest) E (mi >>= fun j => getI l j >>= fun a => m >>= fun y => f a y >>= fun z => setL l j z >>= k) := fun W tk I0 H0 σ I H T mt D o => by
  obtain ⟨q, xs, h1, h3, rs, up⟩ := own_at mt hΓ
  refine seq_s (to_s1 (ps_augS (pe_var hN hv hd hcd) pe_of pget_list pe_of ho set_list ha) ⟨.ref q, h1, ?_⟩)
  refine hix.ap tk mt.mw o.bind (fun j _ o1 u I1 H1 g1 r1 => ?_) fun _ z => z.xo mt hs
  cases r1
  obtain ⟨a, ea, o2⟩ := getI_out o1.bind
  obtain ⟨h3', up'⟩ := up I1 H1 g1
  obtain ⟨va, ev, rv⟩ := (rs.mono g1.i0).atI ea
  refine ⟨q, xs, j, va, rfl, rfl, .of h3', ev, ?_⟩
  refine he.ap tk (mt.mw.gr g1) o2.bind (fun y _ o3 u I2 H2 g2 r2 => ?_) fun _ z => (z.xo mt hs).gr g1
  cases r2
  cases rv
  refine hr a y H2 _ (o3.bind.mono (fun z _ o4 => ?_) fun ex q _ => hxx a y ex q)
  obtain ⟨n, hn, o5⟩ := setL_out o4.bind
  obtain ⟨h3'', up''⟩ := up I2 H2 (g1.trans g2)
  refine ⟨q, xs, j, n, rfl, rfl, h3'', by rw [rs.length, List.length_map]; exact hn, ?_⟩
  exact rest_s (hk _) tk (up'' (xs.set n (.int z)) (l.set n z) (by rw [List.map_set]; exact Rs.set (.int z) n (rs.mono (g1.trans g2).i0))) o5

/-! ### what a loop walks -/
def Yl (K : PySem.W.Frag) (mg : Str → Option Value) (J : It) (I1 H1 : Hp) (l : List α) : Prop := ∀ i I H, Same I1 I → Same I H →
  (∀ a, l[i]? = some a → J.go i H ∧ ∀ x H2, J.yld i H x H2 → ∃ I2, Gr I H I2 H2 ∧ R K mg I2 x (enc a)) ∧ (l.length ≤ i → J.stop i H)
def VI (X : Cx) (Γ : List SL) (tg e : Expr) {α : Type} [Enc α] (m : M (List α)) : Prop :=
  ∀ (W : WX), L2N.Takes X W → ∀ σ I H T, Mw X.K X.mg Γ σ I H T → ∀ R : It → Hp → Prop,
    Out m (fun l => ∀ J I' H', Gr I H I' H' → Yl X.K X.mg J I' H' l → R J H') (XO X W σ I H) → iOf X tg e σ H R
theorem VI.ap {tg : Expr} {m : M (List α)} (h : VI X Γ tg e m) {W : WX} (tk : L2N.Takes X W) {σ : L2.St} {I H : Hp} {T : List Addr} (mw : Mw X.K X.mg Γ σ I H T) {R : It → Hp → Prop} {P : List α → Prop} {E : Exn → Prop} (o : Out m P E)
    (hP : ∀ a, m = .ok a → P a → ∀ J I' H', Gr I H I' H' → Yl X.K X.mg J I' H' a → R J H') (hE : ∀ ex, E ex → XO X W σ I H ex) : iOf X tg e σ H R := h W tk σ I H T mw R (o.mono hP fun ex _ k => hE ex k)
theorem vi_list {tg : Expr} {m : M (List α)} (h : VX false X Γ e m) : VI X Γ tg e m := fun W tk σ I H T mw R o => by
  refine to_i (pi_list pe_of) (h.ap tk mw o (fun l _ k v I1 H1 g1 r1 => ?_) fun _ z => z)
  obtain ⟨p, xs, rfl, hq, rs⟩ := Vc.R.lst_inv r1
  refine ⟨p, rfl, ⟨xs, g1.ih.seq hq⟩, k _ I1 H1 g1 fun i I2 H2 s1 s2 => ⟨fun a ha => ?_, fun hi => ⟨xs, (s1.trans s2).seq hq, by rw [rs.length, List.length_map]; exact hi⟩⟩⟩
  obtain ⟨v, e1, r2⟩ := (rs.mono s1).get (i := i) (x := enc a) (by rw [List.getElem?_map, ha]; rfl)
  refine ⟨⟨xs, v, (s1.trans s2).seq hq, e1⟩, fun x H3 y => ?_⟩
  obtain ⟨rfl, y⟩ := y
  rw [y xs ((s1.trans s2).seq hq)] at e1
  cases e1
  exact ⟨I2, .refl s2, r2⟩
theorem vi_tup {tg : Expr} {m : M (Tup α)} (h : VX false X Γ e m) : VI X Γ tg e (m >>= fun t => M.ok t.l) := fun W tk σ I H T mw R o => by
  refine to_i (pi_tup pe_of) (h.ap tk mw o.bind (fun l _ k v I1 H1 g1 r1 => ?_) fun _ z => z)
  obtain ⟨p, xs, rfl, hq, rs⟩ := Vc.R.tup_inv r1
  refine ⟨p, rfl, ⟨xs, Same.seqT g1.ih hq⟩, k _ I1 H1 g1 fun i I2 H2 s1 s2 => ⟨fun a ha => ?_, fun hi => ⟨xs, Same.seqT (s1.trans s2) hq, by rw [rs.length, List.length_map]; exact hi⟩⟩⟩
  obtain ⟨v, e1, r2⟩ := (rs.mono s1).get (i := i) (x := enc a) (by rw [List.getElem?_map, ha]; rfl)
  refine ⟨⟨xs, v, Same.seqT (s1.trans s2) hq, e1⟩, fun x H3 y => ?_⟩
  obtain ⟨rfl, y⟩ := y
  rw [y xs (Same.seqT (s1.trans s2) hq)] at e1
  cases e1
  exact ⟨I2, .refl s2, r2⟩
/-- the ints of a range -/
def rng (a b : Int) : List Int := (List.range (b - a).toNat).map fun i : Nat => a + (i : Int)
theorem rng_get {a b : Int} {i : Nat} {x : Int} (h : (rng a b)[i]? = some x) : i < (b - a).toNat ∧ x = a + (i : Int) := by
  unfold rng at h
  rw [List.getElem?_map] at h
  by_cases hi : i < (b - a).toNat
  · rw [List.getElem?_range hi] at h
    exact ⟨hi, (Option.some.inj h).symm⟩
  · rw [List.getElem?_eq_none (by rw [List.length_range]; omega)] at h
    cases h
theorem rng_length (a b : Int) : (rng a b).length = (b - a).toNat := by unfold rng; rw [List.length_map, List.length_range]
theorem yl_rng {K : PySem.W.Frag} {mg : Str → Option Value} {I H : Hp} {a b : Int} : Yl K mg (Itr a (b - a).toNat) I H (rng a b) := fun i I2 H2 s1 s2 => ⟨fun x hx => by
  obtain ⟨hi, rfl⟩ := rng_get hx
  exact ⟨hi, fun y H3 z => by
    obtain ⟨rfl, rfl⟩ := z
    exact ⟨I2, .refl s2, .int _⟩⟩, fun h => by rw [rng_length] at h; exact h⟩
def rOk (a : Int) : Prop := -(2 ^ 62) ≤ a ∧ a < 2 ^ 62
instance (a : Int) : Decidable (rOk a) := by unfold rOk; infer_instance
theorem vi_range1 {tg : Expr} {m : M Int} (hm : X.mg "range" = none) (h : VX true X Γ a m) (hg : Gl X "range" := by rfl) (hs : starEach [a] X.env = [(false, eval a X.env)] := by rfl) : VI X Γ tg (.Call (.Name "range" p) [a] [] pos) (m >>= fun n => chk (rOk n) >>= fun _ => M.ok (rng 0 n)) := fun W tk σ I H T mw R o => by
  refine to_i (pi_range1 hg hm (pa_cons pe_of pa_nil hs) hs) (h.ap tk mw o.bind (fun n _ o1 v I1 H1 g1 r1 => ?_) fun _ z => z)
  cases r1
  obtain ⟨⟨h1, h2⟩, o2⟩ := o1.chk
  refine ⟨n, rfl, h1, h2, o2 _ I1 H1 g1 ?_⟩
  have := yl_rng (K := X.K) (mg := X.mg) (I := I1) (H := H1) (a := 0) (b := n)
  rw [Int.sub_zero] at this
  exact this
theorem vi_range2 {tg : Expr} {m1 m2 : M Int} (hm : X.mg "range" = none) (h : VX true X Γ a m1) (h2 : VX true X Γ b m2) (hg : Gl X "range" := by rfl) (hs : starEach [a, b] X.env = [(false, eval a X.env), (false, eval b X.env)] := by rfl) (hs2 : starEach [b] X.env = [(false, eval b X.env)] := by rfl) :
    VI X Γ tg (.Call (.Name "range" p) [a, b] [] pos) (m1 >>= fun x => m2 >>= fun y => chk (rOk x ∧ rOk y) >>= fun _ => M.ok (rng x y)) := fun W tk σ I H T mw R o => by
  refine to_i (pi_range2 hg hm (pa_cons pe_of (pa_cons pe_of pa_nil hs2) (by rw [hs, hs2])) hs hs2) (h.ap tk mw o.bind (fun x _ o1 v I1 H1 g1 r1 => ?_) fun _ z => z)
  refine h2.ap tk (mw.gr g1) o1.bind (fun y _ o2 u I2 H2 g2 r2 => ?_) fun _ z => z.gr g1
  cases r1; cases r2
  obtain ⟨⟨⟨h1, h2⟩, h3, h4⟩, o3⟩ := o2.chk
  exact ⟨x, y, rfl, ⟨h1, h2, h3, h4⟩, o3 _ I2 H2 (g1.trans g2) yl_rng⟩

/-! ### loops -/
/-- a loop that is never left -/
def loopS {α S : Type} (f : S → α → M S) : List α → S → M S
  | [], s => .ok s
  | a :: l, s => f s a >>= fun s' => loopS f l s'
@[simp] theorem loopS_nil {α S : Type} (f : S → α → M S) (s : S) : loopS f [] s = .ok s := rfl
@[simp] theorem loopS_cons {α S : Type} (f : S → α → M S) (a : α) (l : List α) (s : S) : loopS f (a :: l) s = f s a >>= fun s' => loopS f l s' := rfl
inductive Stp (S τ : Type) where
  | nx (s : S)
  | bk (s : S)
  | rt (t : τ)
/-- a loop with break, return -/
def loopM {α S τ : Type} (f : S → α → M (Stp S τ)) : List α → S → M (Stp S τ)
  | [], s => .ok (.nx s)
  | a :: l, s => f s a >>= fun r => match r with
    | .nx s' => loopM f l s'
    | .bk s' => .ok (.bk s')
    | .rt t => .ok (.rt t)
@[simp] theorem loopM_nil {α S τ : Type} (f : S → α → M (Stp S τ)) (s : S) : loopM f [] s = .ok (.nx s) := rfl
theorem loopM_cons {α S τ : Type} (f : S → α → M (Stp S τ)) (a : α) (l : List α) (s : S) : loopM f (a :: l) s = f s a >>= fun r => match r with
    | .nx s' => loopM f l s'
    | .bk s' => .ok (.bk s')
    | .rt t => .ok (.rt t) := rfl
def Stp.on {S τ : Type} (r : Stp S τ) (k : S → M τ) : M τ := match r with
  | .nx s => k s
  | .bk s => k s
  | .rt t => .ok t
@[simp] theorem Stp.on_nx {S τ : Type} (s : S) (k : S → M τ) : Stp.on (.nx s) k = k s := rfl
@[simp] theorem Stp.on_bk {S τ : Type} (s : S) (k : S → M τ) : Stp.on (.bk s) k = k s := rfl
@[simp] theorem Stp.on_rt {S τ : Type} (t : τ) (k : S → M τ) : Stp.on (.rt t) k = .ok t := rfl
def eSt {S τ : Type} (F : S → List SL) (E : Eds τ) : Eds (Stp S τ) where
  nx := fun Γ' r => ∃ s, r = .nx s ∧ Sub Γ' (F s)
  ct := fun Γ' r => ∃ s, r = .nx s ∧ Sub Γ' (F s)
  bk := fun Γ' r => ∃ s, r = .bk s ∧ Sub Γ' (F s)
  rt := fun Γ' o r => ∃ t, r = .rt t ∧ E.rt Γ' o t
def eLp {S : Type} (F : S → List SL) : Eds S where
  nx := fun Γ' s => Sub Γ' (F s)
  ct := fun Γ' s => Sub Γ' (F s)
theorem Wd.re {I0 H0 I H I' H' : Hp} {T T' : List Addr} (w : Wd I0 H0 I H T) (w' : Wd I H0 I' H' T') : Wd I0 H0 I' H' T' :=
  ⟨w'.ih, w.i0.trans w'.i0, w'.h0, w'.fr, w'.nd, fun p h h' => w'.sep p h (w.sep p h h')⟩
theorem Mt.re {K : PySem.W.Frag} {mg : Str → Option Value} {I0 H0 I H I' H' : Hp} {T T' : List Addr} {Γ' : List SL} {σ' : L2.St} (w : Wd I0 H0 I H T) (m : Mt K mg I H0 Γ' σ' I' H' T') : Mt K mg I0 H0 Γ' σ' I' H' T' := ⟨w.re m.wd, m.sl⟩
theorem XS.re {X : Cx} {W : WX} {I0 H0 I H : Hp} {T : List Addr} {Γx : List SL} {ex : Exn} (w : Wd I0 H0 I H T) (h : XS X W I0 H0 Γx ex) : XS X W I H0 Γx ex := fun cl d σ' I' H' T' mt a => h cl d σ' I' H' T' (Mt.re w mt) a
theorem Mt.root {K : PySem.W.Frag} {mg : Str → Option Value} {I0 H0 I H : Hp} {T : List Addr} {Γ : List SL} {σ : L2.St} (m : Mt K mg I0 H0 Γ σ I H T) : Mt K mg I H0 Γ σ I H T := ⟨⟨m.wd.ih, .refl _, m.wd.h0, m.wd.fr, m.wd.nd, fun _ _ z => z⟩, m.sl⟩
/-- the core of a for: a loop function whose turn is f, given by its unfolding -/
theorem for_core {S R : Type} {n : Nat} (F : S → List SL) (s0 : S) {tg : Expr} {vs : List Nat} {u : α → List SL → List SL} {m : M (List α)} {body : List Stmt} {EB : Eds R} {b : S → α → M R} {lp : List α → S → M τ} (hp : PassesOwn (model X.prog X.w) X.A X.env X.xe) (hc : X.calm = true) (hi : VI X Γ tg e m) (hg : VG X n tg vs u)
    (hb : ∀ s a, VS X (u a (F s)) Γx body EB (b s a))
    (hk : ∀ s, VS X (F s) Γx rest E (lp [] s)) (fin : R → List α → M τ) (hlp : ∀ s a l, lp (a :: l) s = b s a >>= fun r => fin r l)
    (hnx : ∀ r l Γ', EB.nx Γ' r → ∃ s, Sub Γ' (F s) ∧ fin r l = lp l s) (hct : ∀ r l Γ', EB.ct Γ' r → ∃ s, Sub Γ' (F s) ∧ fin r l = lp l s)
    (hbk : ∀ r l Γ', EB.bk Γ' r → ∃ s, Sub Γ' (F s) ∧ fin r l = lp [] s) (hrt : ∀ r l Γ' o, EB.rt Γ' o r → ∃ t, fin r l = .ok t ∧ E.rt Γ' o t)
    (h0 : Sub Γ (F s0)) (hs : Sub Γ Γx) (hn : ∀ s, (F s).length = n) (hf : ∀ x, foldedSetIterable e X.env x = pure x) :
    VS X Γ Γx (.For tg e body [] pos :: rest) E (m >>= fun l => lp l s0) := fun W tk I0 H0 σ I H T mt D o => by
  refine seq_s (to_s1 (ps_for hp hc pi_of pg_of pss_of hf) ?_)
  refine hi.ap tk mt.mw o.bind (fun l _ o1 J I1 H1 g1 yl => ?_) fun _ z => z.xo mt hs
  obtain ⟨T1, mt1⟩ := (mt.gr g1).sub h0
  refine ⟨fun i m σ' H' => m = l.length - i ∧ i ≤ l.length ∧ ∃ s I' T', Mt X.K X.mg I0 H0 (F s) σ' I' H' T' ∧ Same I1 I' ∧ Out (lp (l.drop i) s) (DO X I0 H0 E D) (XS X W I0 H0 Γx), ⟨l.length, rfl, Nat.zero_le _, s0, I1, T1, mt1, .refl _, o1⟩, ?_⟩
  rintro i _ σ' H' ⟨rfl, hi, s, I', T', mt', s1, o'⟩
  obtain ⟨go, stop⟩ := yl i I' H' s1 mt'.wd.ih
  by_cases hlt : i < l.length
  · obtain ⟨g2, y2⟩ := go l[i] (List.getElem?_eq_getElem hlt)
    rw [List.drop_eq_getElem_cons hlt, hlp] at o'
    refine .inr ⟨g2, fun σ2 H2 => ∃ s I' T', Mt X.K X.mg I0 H0 (F s) σ2 I' H2 T' ∧ Same I1 I' ∧ Out (lp (l.drop (i + 1)) s) (DO X I0 H0 E D) (XS X W I0 H0 Γx), fun σ2 H2 h => ⟨l.length - (i + 1), by omega, rfl, hlt, h⟩, fun x H2 y => ?_⟩
    obtain ⟨I2, g3, r3⟩ := y2 x H2 y
    have mt2 := mt'.gr g3
    refine hg (F s) (hn s) x l[i] σ' I2 H2 T' mt2.mw r3 _ fun σ3 T3 _ _ s3 c3 d3 => ?_
    have mt4 : Mt X.K X.mg I0 H0 (u l[i] (F s)) σ3 I2 H2 T3 := ⟨⟨mt2.wd.ih, mt2.wd.i0, mt2.wd.h0, fun p hp => mt2.wd.fr p (c3 p hp), d3, mt2.wd.sep⟩, s3⟩
    have w0 := mt4.wd
    refine hb s l[i] W tk I2 H0 σ3 I2 H2 T3 mt4.root _ (o'.bind.mono (fun r _ o2 => ?_) fun ex _ z => z.re w0)
    refine ⟨fun Γ' σ4 I4 H4 T4 z mt5 => ?_, fun Γ' σ4 I4 H4 T4 z mt5 => ?_, fun Γ' σ4 I4 H4 T4 z mt5 => ?_, fun Γ' σ4 ow v I4 H4 T4 T4' z wd5 sl5 q => ?_⟩
    · obtain ⟨s', hsub, e⟩ := hnx r (l.drop (i + 1)) Γ' z
      rw [e] at o2
      obtain ⟨T5, mt6⟩ := (Mt.re w0 mt5).sub hsub
      exact ⟨s', I4, T5, mt6, (s1.trans g3.i0).trans mt5.wd.i0, o2⟩
    · obtain ⟨s', hsub, e⟩ := hbk r (l.drop (i + 1)) Γ' z
      rw [e] at o2
      obtain ⟨T5, mt6⟩ := (Mt.re w0 mt5).sub hsub
      exact rest_s (hk s') tk mt6 o2
    · obtain ⟨s', hsub, e⟩ := hct r (l.drop (i + 1)) Γ' z
      rw [e] at o2
      obtain ⟨T5, mt6⟩ := (Mt.re w0 mt5).sub hsub
      exact ⟨s', I4, T5, mt6, (s1.trans g3.i0).trans mt5.wd.i0, o2⟩
    · obtain ⟨t, e, ht⟩ := hrt r (l.drop (i + 1)) Γ' ow z
      rw [e] at o2
      exact DO.rt (E := E) o2 Γ' σ4 ow v I4 H4 T4 T4' ht (w0.re wd5) sl5 q
  · have e : i = l.length := by omega
    subst e
    rw [List.drop_length] at o'
    exact .inl ⟨stop (Nat.le_refl _), rest_s (hk s) tk mt' o'⟩
/-- a for with break, return -/
theorem vs_for {S : Type} {n : Nat} (F : S → List SL) (s0 : S) {tg : Expr} {vs : List Nat} {u : α → List SL → List SL} {m : M (List α)} {body : List Stmt} {b : S → α → M (Stp S τ)} {k : S → M τ} (hp : PassesOwn (model X.prog X.w) X.A X.env X.xe) (hc : X.calm = true) (hi : VI X Γ tg e m) (hg : VG X n tg vs u)
    (hb : ∀ s a, VS X (u a (F s)) Γx body (eSt F E) (b s a)) (hk : ∀ s, VS X (F s) Γx rest E (k s)) (h0 : Sub Γ (F s0)) (hs : Sub Γ Γx) (hn : ∀ s, (F s).length = n := by exact fun _ => rfl) (hf : ∀ x, foldedSetIterable e X.env x = pure x := by intro _; rfl) :
    VS X Γ Γx (.For tg e body [] pos :: rest) E (m >>= fun l => loopM b l s0 >>= fun r => r.on k) :=
  for_core (lp := fun l s => loopM b l s >>= fun r => r.on k) F s0 hp hc hi hg hb hk (fun r l => match r with | .nx s => loopM b l s >>= fun r => r.on k | .bk s => k s | .rt t => .ok t)
    (fun s a l => by
      rw [loopM_cons, M.bind_assoc]
      congr 1
      funext r
      cases r <;> rfl)
    (fun r l Γ' ⟨s, e, h⟩ => ⟨s, h, by rw [e]⟩) (fun r l Γ' ⟨s, e, h⟩ => ⟨s, h, by rw [e]⟩) (fun r l Γ' ⟨s, e, h⟩ => ⟨s, h, by rw [e]; rfl⟩) (fun r l Γ' o ⟨t, e, h⟩ => ⟨t, by rw [e], h⟩) h0 hs hn hf
/-- a for that is never left -/
theorem vs_forS {S : Type} {n : Nat} (F : S → List SL) (s0 : S) {tg : Expr} {vs : List Nat} {u : α → List SL → List SL} {m : M (List α)} {body : List Stmt} {b : S → α → M S} {k : S → M τ} (hp : PassesOwn (model X.prog X.w) X.A X.env X.xe) (hc : X.calm = true) (hi : VI X Γ tg e m) (hg : VG X n tg vs u)
    (hb : ∀ s a, VS X (u a (F s)) Γx body (eLp F) (b s a)) (hk : ∀ s, VS X (F s) Γx rest E (k s)) (h0 : Sub Γ (F s0)) (hs : Sub Γ Γx) (hn : ∀ s, (F s).length = n := by exact fun _ => rfl) (hf : ∀ x, foldedSetIterable e X.env x = pure x := by intro _; rfl) :
    VS X Γ Γx (.For tg e body [] pos :: rest) E (m >>= fun l => loopS b l s0 >>= k) :=
  for_core (lp := fun l s => loopS b l s >>= k) F s0 hp hc hi hg hb hk (fun r l => loopS b l r >>= k)
    (fun s a l => by rw [loopS_cons, M.bind_assoc])
    (fun r l Γ' h => ⟨r, h, rfl⟩) (fun r l Γ' h => ⟨r, h, rfl⟩) (fun r l Γ' h => h.elim) (fun r l Γ' o h => h.elim) h0 hs hn hf

/-! ### while -/
def whileM {S : Type} (c : S → M Bool) (f : S → M S) : Nat → S → M S
  | 0, _ => .stuck
  | n + 1, s => c s >>= fun x => if x then f s >>= fun s' => whileM c f n s' else .ok s
theorem whileM_succ {S : Type} (c : S → M Bool) (f : S → M S) (n : Nat) (s : S) : whileM c f (n + 1) s = c s >>= fun x => if x then f s >>= fun s' => whileM c f n s' else .ok s := rfl
def whileR {S τ : Type} (c : S → M Bool) (f : S → M (Stp S τ)) : Nat → S → M (Stp S τ)
  | 0, _ => .stuck
  | n + 1, s => c s >>= fun x => if x then f s >>= fun r => match r with
    | .nx s' => whileR c f n s'
    | .bk s' => .ok (.bk s')
    | .rt t => .ok (.rt t) else .ok (.nx s)
theorem whileR_succ {S τ : Type} (c : S → M Bool) (f : S → M (Stp S τ)) (n : Nat) (s : S) : whileR c f (n + 1) s = c s >>= fun x => if x then f s >>= fun r => match r with
    | .nx s' => whileR c f n s'
    | .bk s' => .ok (.bk s')
    | .rt t => .ok (.rt t) else .ok (.nx s) := rfl
theorem while_core {S R : Type} (F : S → List SL) (s0 : S) (fuel : Nat) {c : Expr} {mc : S → M Bool} {body : List Stmt} {EB : Eds R} {b : S → M R} {lp : Nat → S → M τ} {k : S → M τ} (hp : PassesOwn (model X.prog X.w) X.A X.env X.xe) (hc : ∀ s, VT X (F s) c (mc s))
    (hb : ∀ s, VS X (F s) Γx body EB (b s)) (hk : ∀ s, VS X (F s) Γx rest E (k s)) (fin : R → Nat → M τ) (hl0 : ∀ s, lp 0 s = .stuck) (hlp : ∀ s n, lp (n + 1) s = mc s >>= fun x => if x then b s >>= fun r => fin r n else k s)
    (hnx : ∀ r l Γ', EB.nx Γ' r → ∃ s, Sub Γ' (F s) ∧ fin r l = lp l s) (hct : ∀ r l Γ', EB.ct Γ' r → ∃ s, Sub Γ' (F s) ∧ fin r l = lp l s)
    (hbk : ∀ r l Γ', EB.bk Γ' r → ∃ s, Sub Γ' (F s) ∧ fin r l = k s) (hrt : ∀ r l Γ' o, EB.rt Γ' o r → ∃ t, fin r l = .ok t ∧ E.rt Γ' o t)
    (h0 : Sub Γ (F s0)) (hs : ∀ s, Sub (F s) Γx) : VS X Γ Γx (.While c body [] pos :: rest) E (lp fuel s0) := fun W tk I0 H0 σ I H T mt D o => by
  refine seq_s (to_s1 (ps_while hp pt_of pss_of) ?_)
  obtain ⟨T1, mt1⟩ := mt.sub h0
  refine ⟨fun n σ' H' => ∃ s I' T', Mt X.K X.mg I0 H0 (F s) σ' I' H' T' ∧ Out (lp n s) (DO X I0 H0 E D) (XS X W I0 H0 Γx), ⟨fuel, s0, I, T1, mt1, o⟩, ?_⟩
  rintro n σ' H' ⟨s, I', T', mt', o'⟩
  cases n with
  | zero => rw [hl0] at o'; exact o'.elim
  | succ n =>
    rw [hlp] at o'
    refine (hc s).ap tk mt'.mw o'.bind (fun x _ o1 I1 H1 g1 => ?_) fun _ z => z.xo mt' (hs s)
    have mt1 := mt'.gr g1
    cases x with
    | false =>
      refine iteF (rest_s (hk s) tk mt1 ?_)
      exact o1
    | true =>
      refine iteT ⟨fun σ2 H2 => ∃ s I' T', Mt X.K X.mg I0 H0 (F s) σ2 I' H2 T' ∧ Out (lp n s) (DO X I0 H0 E D) (XS X W I0 H0 Γx), fun σ2 H2 h => ⟨n, Nat.lt_succ_self n, h⟩, ?_⟩
      have o1 : Out (b s >>= fun r => fin r n) (DO X I0 H0 E D) (XS X W I0 H0 Γx) := o1
      refine hb s W tk I0 H0 σ' I1 H1 T' mt1 _ (o1.bind.mono (fun r _ o2 => ?_) fun _ _ z => z)
      refine ⟨fun Γ' σ4 I4 H4 T4 z mt5 => ?_, fun Γ' σ4 I4 H4 T4 z mt5 => ?_, fun Γ' σ4 I4 H4 T4 z mt5 => ?_, fun Γ' σ4 ow v I4 H4 T4 T4' z wd5 sl5 q => ?_⟩
      · obtain ⟨s', hsub, e⟩ := hnx r n Γ' z
        rw [e] at o2
        obtain ⟨T5, mt6⟩ := mt5.sub hsub
        exact ⟨s', I4, T5, mt6, o2⟩
      · obtain ⟨s', hsub, e⟩ := hbk r n Γ' z
        rw [e] at o2
        obtain ⟨T5, mt6⟩ := mt5.sub hsub
        exact rest_s (hk s') tk mt6 o2
      · obtain ⟨s', hsub, e⟩ := hct r n Γ' z
        rw [e] at o2
        obtain ⟨T5, mt6⟩ := mt5.sub hsub
        exact ⟨s', I4, T5, mt6, o2⟩
      · obtain ⟨t, e, ht⟩ := hrt r n Γ' ow z
        rw [e] at o2
        exact DO.rt (E := E) o2 Γ' σ4 ow v I4 H4 T4 T4' ht wd5 sl5 q
theorem vs_whileS {S : Type} (F : S → List SL) (s0 : S) (fuel : Nat) {c : Expr} {mc : S → M Bool} {body : List Stmt} {b : S → M S} {k : S → M τ} (hp : PassesOwn (model X.prog X.w) X.A X.env X.xe) (hc : ∀ s, VT X (F s) c (mc s)) (hb : ∀ s, VS X (F s) Γx body (eLp F) (b s)) (hk : ∀ s, VS X (F s) Γx rest E (k s)) (h0 : Sub Γ (F s0)) (hs : ∀ s, Sub (F s) Γx) :
    VS X Γ Γx (.While c body [] pos :: rest) E (whileM mc b fuel s0 >>= k) :=
  while_core (lp := fun n s => whileM mc b n s >>= k) F s0 fuel hp hc hb hk (fun r n => whileM mc b n r >>= k) (fun _ => rfl) (fun s n => by
    rw [whileM_succ, M.bind_assoc]
    congr 1
    funext x
    cases x
    · rfl
    · simp only [if_true]; rw [M.bind_assoc]) (fun r l Γ' h => ⟨r, h, rfl⟩) (fun r l Γ' h => ⟨r, h, rfl⟩) (fun r l Γ' h => h.elim) (fun r l Γ' o h => h.elim) h0 hs
theorem vs_while {S : Type} (F : S → List SL) (s0 : S) (fuel : Nat) {c : Expr} {mc : S → M Bool} {body : List Stmt} {b : S → M (Stp S τ)} {k : S → M τ} (hp : PassesOwn (model X.prog X.w) X.A X.env X.xe) (hc : ∀ s, VT X (F s) c (mc s)) (hb : ∀ s, VS X (F s) Γx body (eSt F E) (b s)) (hk : ∀ s, VS X (F s) Γx rest E (k s)) (h0 : Sub Γ (F s0)) (hs : ∀ s, Sub (F s) Γx) :
    VS X Γ Γx (.While c body [] pos :: rest) E (whileR mc b fuel s0 >>= fun r => r.on k) :=
  while_core (lp := fun n s => whileR mc b n s >>= fun r => r.on k) F s0 fuel hp hc hb hk (fun r n => match r with | .nx s => whileR mc b n s >>= fun r => r.on k | .bk s => k s | .rt t => .ok t) (fun _ => rfl) (fun s n => by
    rw [whileR_succ, M.bind_assoc]
    congr 1
    funext x
    cases x
    · rfl
    · simp only [if_true]; rw [M.bind_assoc]; congr 1; funext r; cases r <;> rfl) (fun r l Γ' ⟨s, e, h⟩ => ⟨s, h, by rw [e]⟩) (fun r l Γ' ⟨s, e, h⟩ => ⟨s, h, by rw [e]⟩) (fun r l Γ' ⟨s, e, h⟩ => ⟨s, h, by rw [e]⟩) (fun r l Γ' o ⟨t, e, h⟩ => ⟨t, by rw [e], h⟩) h0 hs
end
end Vc

set_option Elab.async false
set_option linter.all false
set_option maxRecDepth 100000
namespace Vc
open PySem PySem.Spec PyProof.Rows L2
open Enc (enc)
theorem takes0N {X : Cx} : L2N.Takes X (fun _ _ _ _ => False) := fun _ _ x => by
  obtain ⟨_, _, _, _, _, _, _, _, _, _, _, _, _, _, _, _, z⟩ := x
  exact z.elim

/-! ### comprehensions -/
/-- [f a for a in l if t a] -/
def lcGo {α β : Type} (t : α → M Bool) (f : α → M β) : List α → M (List β)
  | [] => .ok []
  | a :: l => t a >>= fun c => if c then f a >>= fun b => lcGo t f l >>= fun r => .ok (b :: r) else lcGo t f l
def lcM {α β : Type} (t : α → M Bool) (f : α → M β) (l : List α) : M (List β) := chk (l.length ≤ sizeLine) >>= fun _ => nox (lcGo t f l)
/-- [f a for a in l] -/
def mapGo {α β : Type} (f : α → M β) : List α → M (List β)
  | [] => .ok []
  | a :: l => f a >>= fun b => mapGo f l >>= fun r => .ok (b :: r)
def mapM' {α β : Type} (f : α → M β) (l : List α) : M (List β) := chk (l.length ≤ sizeLine) >>= fun _ => nox (mapGo f l)
theorem lcGo_yes {α β : Type} (f : α → M β) (l : List α) : lcGo (fun _ => .ok true) f l = mapGo f l := by
  induction l with
  | nil => rfl
  | cons a l ih =>
    show (f a >>= fun b => lcGo _ f l >>= fun r => M.ok (b :: r)) = f a >>= fun b => mapGo f l >>= fun r => M.ok (b :: r)
    rw [ih]
theorem nox_out {α : Type} {m : M α} {P : α → Prop} {E : Exn → Prop} (o : Out (nox m) P E) : Out m P fun _ => False := by
  cases m with
  | ok a => exact o
  | stuck => exact o
  | exc e => exact o
theorem nox_exc {α : Type} {m : M α} {e : Exn} : nox m ≠ .exc e := by cases m <;> intro h <;> cases h
section
variable {X : Cx} {Γ Γx : List SL} {e a b c : Expr} {es : List Expr} {rest : List Stmt} {pos p : Pos} {α β γ : Type} [Enc α] [Enc β] [Enc γ] {w w' : Bool} {τ : Type} {E : Eds τ}
def wipeG (Γ : List SL) : List Nat → List SL
  | [] => Γ
  | v :: vs => (wipeG Γ vs).set v .any
theorem wipeG_length (Γ : List SL) : ∀ vs, (wipeG Γ vs).length = Γ.length
  | [] => rfl
  | v :: vs => by show ((wipeG Γ vs).set v .any).length = _; rw [List.length_set, wipeG_length Γ vs]
theorem Sls.anyAt {K : PySem.W.Frag} {mg : Str → Option Value} {I H : Hp} : ∀ {σ : L2.St} {Γ : List SL} {T : List Addr} (i : Nat) (x : Option V), Sls K mg I H σ Γ T → ∃ T', Sls K mg I H (σ.set i x) (Γ.set i .any) T' ∧ T'.Sublist T
  | _, _, _, _, _, .nil => ⟨[], by simp; exact .nil, .refl _⟩
  | _, _, _, 0, _, .any r => ⟨_, .any r, .refl _⟩
  | _, _, _, 0, _, .val q r => ⟨_, .any r, List.sublist_append_right _ _⟩
  | _, _, _, i + 1, x, .any r => let ⟨T', s, k⟩ := Sls.anyAt i x r; ⟨T', .any s, k⟩
  | _, _, _, i + 1, x, .val q r => let ⟨T', s, k⟩ := Sls.anyAt i x r; ⟨_, .val q s, (List.Sublist.refl _).append k⟩
theorem Mw.wipe {K : PySem.W.Frag} {mg : Str → Option Value} {Γ : List SL} {σ : L2.St} {I H : Hp} {T : List Addr} (m : Mw K mg Γ σ I H T) : ∀ vs, ∃ T', Mw K mg (wipeG Γ vs) (L2.wipe σ vs) I H T' ∧ T'.Sublist T
  | [] => ⟨T, m, .refl _⟩
  | v :: vs => by
    obtain ⟨T1, m1, s1⟩ := Mw.wipe m vs
    obtain ⟨T2, m2, s2⟩ := m1.sl.anyAt v none
    exact ⟨T2, ⟨m1.ih, fun p hp => m1.fr p (s2.subset hp), m1.nd.sublist s2, m2⟩, s2.trans s1⟩
/-- a comprehension's own slots do not matter for what holds elsewhere -/
def gAll (X : Cx) (scope : Scope) (tg : Expr) : TG := fun v σ H Q => ∀ s H0 C cl fp, gOf (X.blk s H0 scope (compEnvC scope cl C X.env) fp) tg v σ H Q
def tAll (X : Cx) (scope : Scope) (e : Expr) : TE := fun σ H Q => ∀ s H0 C cl fp, tOf (X.blk s H0 scope (compEnvC scope cl C X.env) fp) e σ H Q
def ksOf (X : Cx) (ifs : List Expr) : TT := fun σ H Q => ∀ pins s, Inv X pins σ H s → wpAny (model X.prog X.w) X.A (forIn ifs true fun c r => if r = true then do let ok ← isTrue c X.env (eval c X.env); pure (ForInStep.yield ok) else pure (ForInStep.yield r)) (TP X pins σ Q) X.xe s
def kAll (X : Cx) (scope : Scope) (ifs : List Expr) : TT := fun σ H Q => ∀ s H0 C cl fp, ksOf (X.blk s H0 scope (compEnvC scope cl C X.env) fp) ifs σ H Q
/-- tests of a clause -/
def VK (X : Cx) (Γ : List SL) (ifs : List Expr) (m : M Bool) : Prop :=
  ∀ (W : WX), L2N.Takes X W → ∀ σ I H T, Mw X.K X.mg Γ σ I H T → ∀ Q : Bool → Hp → Prop,
    Out m (fun a => ∀ I' H', Gr I H I' H' → Q a H') (XO X W σ I H) → ksOf X ifs σ H Q
theorem vk_nil : VK X Γ [] (.ok true) := fun W tk σ I H T mw Q o pins s In => pts_nil.run pins s σ H Q In (o I H (.refl mw.ih))
theorem vk_one {m : M Bool} (h : VT X Γ c m) : VK X Γ [c] m := fun W tk σ I H T mw Q o pins s In => (pts_one pt_of).run pins s σ H Q In (h W tk σ I H T mw Q o)
abbrev BLK (X : Cx) (scope : Scope) (P : Cx → Prop) : Prop := ∀ (s : Shared) (H : Hp) (C : Addr) (cl : List (Str × Addr)) (fp : List Addr), P (X.blk s H scope (compEnvC scope cl C X.env) fp)
theorem lc_read {n : Nat} {tg : Expr} {ifs : List Expr} {elt : Expr} {scope : Scope} {vs : List Nat} {u : α → List SL → List SL} {m : M (List α)} {t : α → M Bool} {f : α → M β} (hi : VI X Γ tg e m) (hg : BLK X scope fun Y => VG Y n tg vs u) (ht : ∀ a, BLK X scope fun Y => VK Y (u a (wipeG Γ vs)) ifs (t a))
    (he : ∀ a, BLK X scope fun Y => VE Y (u a (wipeG Γ vs)) elt (f a)) (hn : Γ.length = n) {W : WX} (tk : L2N.Takes X W) {σ : L2.St} {I H : Hp} {T : List Addr} (mw : Mw X.K X.mg Γ σ I H T) {Q : L2.VK} {P : List β → Prop} {E : Exn → Prop} (o : Out (m >>= fun l => lcM t f l) P E)
    (hP : ∀ r, P r → ∀ v I' H' T2, Wd I H I' H' T2 → Ow X.K X.mg I' H' v (ow1 r) T2 → Q v H') (hE : ∀ ex, E ex → XO X W σ I H ex) : tLc (iOf X tg e) (gAll X scope tg) (kAll X scope ifs) (tAll X scope elt) vs σ H Q := by
  refine hi.ap tk mw o.bind (fun l _ o1 J I1 H1 g1 yl => ?_) hE
  intro D hD
  unfold lcM at o1
  obtain ⟨hz, o2⟩ := o1.chk
  have o3 := nox_out o2
  have mw1 := mw.gr g1
  refine ⟨fun i m H' => m = l.length - i ∧ i ≤ l.length ∧ ∃ I' acc xs, Wd I H I' H' [D] ∧ Same I1 I' ∧ H' D = some (.lst xs) ∧ Rs X.K X.mg I' xs ((acc : List β).map enc) ∧ acc.length ≤ i ∧ Out (lcGo t f (l.drop i)) (fun r => P (acc ++ r)) (fun _ => False), ⟨l.length, rfl, Nat.zero_le _, I1, [], [], ?_, .refl _, upd_same, .nil, Nat.le_refl _, o3⟩, ?_⟩
  · have := Wd.ow g1 (fun _ z => nomatch z) (Wd.new (o := .lst []) g1.ih hD)
    simpa using this
  rintro i _ H' ⟨rfl, hi, I', acc, xs, wd, s1, hDl, rs, ha, o'⟩
  obtain ⟨go, stop⟩ := yl i I' H' s1 wd.ih
  by_cases hlt : i < l.length
  · obtain ⟨g2, y2⟩ := go l[i] (List.getElem?_eq_getElem hlt)
    rw [List.drop_eq_getElem_cons hlt] at o'
    refine .inr ⟨g2, fun H2 => ∃ I' acc xs, Wd I H I' H2 [D] ∧ Same I1 I' ∧ H2 D = some (.lst xs) ∧ Rs X.K X.mg I' xs ((acc : List β).map enc) ∧ acc.length ≤ i + 1 ∧ Out (lcGo t f (l.drop (i + 1))) (fun r => P (acc ++ r)) (fun _ => False), fun H2 h => ⟨l.length - (i + 1), by omega, rfl, hlt, h⟩, fun x H2 y => ?_⟩
    obtain ⟨I2, g3, r3⟩ := y2 x H2 y
    -- the block's slots: those of the frame, with D owned besides
    have mwD : ∀ {I3 H3 : Hp}, Wd I H I3 H3 [D] → Mw X.K X.mg Γ σ I3 H3 T := fun {I3 H3} w => ⟨w.ih, fun p hp => w.sep p (by obtain ⟨zs, e⟩ := mw.sl.there p hp; rw [e]; simp) (mw.fr p hp), mw.nd, mw.sl.mono w.i0 fun p hp => by
      obtain ⟨zs, e⟩ := mw.sl.there p hp
      rw [e]; exact w.h0 p _ e⟩
    have thD : ∀ p ∈ [D], H' p ≠ none := fun p hp => by
      have : p = D := by simpa using hp
      rw [this, hDl]; simp
    have wd3 : Wd I H I2 H2 [D] := wd.gr thD g3
    have hD2 : H2 D = some (.lst xs) := g3.h0 _ _ hDl
    obtain ⟨T2, mw2, _⟩ := (mwD wd3).wipe vs
    intro s0 H0 C cl fp
    refine hg s0 H0 C cl fp (wipeG Γ vs) (by rw [wipeG_length]; exact hn) x l[i] _ I2 H2 T2 mw2 r3 _ fun σ3 T3 w3 _ s3 c3 d3 => ?_
    have w3' : L2.wipe σ3 vs = L2.wipe σ vs := by
      rw [w3]
      have idem : ∀ vs, L2.wipe (L2.wipe σ vs) vs = L2.wipe σ vs := by
        intro vs
        have set2 : ∀ (us : List Nat) (τ : L2.St) (j : Nat), j ∈ us → (L2.wipe τ us).set j none = L2.wipe τ us := by
          intro us
          induction us with
          | nil => intro _ _ h; cases h
          | cons u us ih =>
            intro τ j hj
            show ((L2.wipe τ us).set u none).set j none = (L2.wipe τ us).set u none
            by_cases hju : j = u
            · subst hju; rw [List.set_set]
            · rw [List.set_comm _ _ (Ne.symm hju), ih τ j (by simpa [hju] using hj)]
        have gen : ∀ (us ws : List Nat), (∀ j ∈ us, j ∈ ws) → L2.wipe (L2.wipe σ ws) us = L2.wipe σ ws := by
          intro us
          induction us with
          | nil => intro _ _; rfl
          | cons u us ih =>
            intro ws h
            show (L2.wipe (L2.wipe σ ws) us).set u none = _
            rw [ih ws fun j hj => h j (List.mem_cons_of_mem _ hj)]
            exact set2 ws σ u (h u List.mem_cons_self)
        exact gen vs vs fun _ h => h
      exact idem vs
    refine ⟨w3', ?_⟩
    have mw3 : Mw X.K X.mg (u l[i] (wipeG Γ vs)) σ3 I2 H2 T3 := ⟨mw2.ih, fun p hp => mw2.fr p (c3 p hp), d3, s3⟩
    intro s1' H1' C1 cl1 fp1
    have o4 : Out (t l[i] >>= fun c => if c then f l[i] >>= fun b => lcGo t f (l.drop (i + 1)) >>= fun r => M.ok (b :: r) else lcGo t f (l.drop (i + 1))) (fun r => P (acc ++ r)) (fun _ => False) := o'
    refine ht l[i] s1' H1' C1 cl1 fp1 (fun _ _ _ _ => False) takes0N σ3 I2 H2 T3 mw3 _ (o4.bind.mono (fun c _ o5 I4 H4 g4 => ?_) fun _ _ z => z.elim)
    have wd4 : Wd I H I4 H4 [D] := wd3.gr (fun p hp => by
      have : p = D := by simpa using hp
      rw [this, hD2]; simp) g4
    have hD4 : H4 D = some (.lst xs) := g4.h0 _ _ hD2
    cases c with
    | false =>
      refine iteF ⟨I4, acc, xs, wd4, (s1.trans g3.i0).trans g4.i0, hD4, (rs.mono g3.i0).mono g4.i0, Nat.le_succ_of_le ha, o5⟩
    | true =>
      refine iteT ?_
      intro s2' H2' C2 cl2 fp2
      have o5 : Out (f l[i] >>= fun b => lcGo t f (l.drop (i + 1)) >>= fun r => M.ok (b :: r)) (fun r => P (acc ++ r)) (fun _ => False) := o5
      refine he l[i] s2' H2' C2 cl2 fp2 (fun _ _ _ _ => False) takes0N σ3 I4 H4 T3 (mw3.gr g4) _ (o5.bind.mono (fun b _ o6 v I5 H5 g5 r5 => ?_) fun _ _ z => z.elim)
      have wd5 : Wd I H I5 H5 [D] := wd4.gr (fun p hp => by
        have : p = D := by simpa using hp
        rw [this, hD4]; simp) g5
      have hD5 : H5 D = some (.lst xs) := g5.h0 _ _ hD4
      have hl : xs.length = acc.length := by rw [rs.length, List.length_map]
      refine ⟨xs, hD5, by rw [hl]; omega, I5, acc ++ [b], xs ++ [v], wd5.put (by simp), ((s1.trans g3.i0).trans g4.i0).trans g5.i0, upd_same, ?_, by rw [List.length_append]; simp; omega, ?_⟩
      · rw [List.map_append]
        exact Rs.append (((rs.mono g3.i0).mono g4.i0).mono g5.i0) (.cons r5 .nil)
      · refine o6.bind.mono (fun r _ o7 => ?_) fun _ _ z => z
        rw [List.append_assoc]
        exact o7
  · have e : i = l.length := by omega
    subst e
    rw [List.drop_length] at o'
    refine .inl ⟨stop (Nat.le_refl _), hP acc (by have := o'; simpa [lcGo, Out] using this) _ I' H' [D] wd ?_⟩
    refine .lst (T := []) hDl ?_
    rw [show acc.map (fun a => O.imm (enc a)) = (acc.map enc).map O.imm by rw [List.map_map]; rfl]
    exact Ows.of_imm rs
theorem lc_pg {scope : Scope} {tg : Expr} : ∀ (s : Shared) (H : Hp) (C : Addr) (cl : List (Str × Addr)) (fp : List Addr), PG (X.blk s H scope (compEnvC scope cl C X.env) fp) tg (gAll X scope tg) := fun s H C cl fp => ⟨fun pins s2 σ2 H2 v u2 Q2 In r h => (h s H C cl fp).run pins s2 u2 In r⟩
theorem lc_pt {scope : Scope} {ifs : List Expr} : ∀ (s : Shared) (H : Hp) (C : Addr) (cl : List (Str × Addr)) (fp : List Addr), PTs (X.blk s H scope (compEnvC scope cl C X.env) fp) ifs (kAll X scope ifs) := fun s H C cl fp => ⟨fun pins s2 σ2 H2 Q2 In h => h s H C cl fp pins s2 In⟩
theorem lc_pe {scope : Scope} {elt : Expr} : ∀ (s : Shared) (H : Hp) (C : Addr) (cl : List (Str × Addr)) (fp : List Addr), PE (X.blk s H scope (compEnvC scope cl C X.env) fp) elt (tAll X scope elt) := fun s H C cl fp => ⟨fun pins s2 σ2 H2 Q2 In h => (h s H C cl fp).run pins s2 In⟩
theorem vo_lc {n : Nat} {tg : Expr} {ifs : List Expr} {elt : Expr} {scope : Scope} (own : List (Str × Nat)) {u : α → List SL → List SL} {m : M (List α)} {t : α → M Bool} {f : α → M β} (hc : X.calm = true) (hN : X.N.Nodup) (hi : VI X Γ tg e m) (ok : BlkOk X.N X.env.scope scope own)
    (hg : BLK X scope fun Y => VG Y n tg (own.map (·.2)) u) (ht : ∀ a, BLK X scope fun Y => VK Y (u a (wipeG Γ (own.map (·.2)))) ifs (t a)) (he : ∀ a, BLK X scope fun Y => VE Y (u a (wipeG Γ (own.map (·.2)))) elt (f a)) (hn : Γ.length = n := by rfl) (hs : ∀ x, foldedSetIterable e X.env x = pure x := by intro _; rfl) :
    VO X Γ (.ListComp elt [⟨tg, e, ifs, 0⟩] scope pos) ow1 (m >>= fun l => lcM t f l) := fun W tk σ I H T mw Q o => by
  refine to_t (pe_lc hc hN pi_of ok lc_pg lc_pt lc_pe hs) ?_
  exact lc_read hi hg ht he hn tk mw o (fun r k => k) fun _ z => z
/-- name = [..] -/
theorem vs_setLc (i : Nat) {x : Str} {px : Pos} {n : Nat} {tg : Expr} {ifs : List Expr} {elt : Expr} {scope : Scope} (own : List (Str × Nat)) {u : α → List SL → List SL} {m : M (List α)} {t : α → M Bool} {f : α → M β} {k : List β → M τ} (hc : X.calm = true) (hN : X.N.Nodup) (hi : VI X Γ tg e m) (ok : BlkOk X.N X.env.scope scope own)
    (hg : BLK X scope fun Y => VG Y n tg (own.map (·.2)) u) (ht : ∀ a, BLK X scope fun Y => VK Y (u a (wipeG Γ (own.map (·.2)))) ifs (t a)) (he : ∀ a, BLK X scope fun Y => VE Y (u a (wipeG Γ (own.map (·.2)))) elt (f a))
    (hk : ∀ r, VS X (Γ.set i (sO r)) Γx rest E (k r)) (hsb : Sub Γ Γx) (hsw : swapsWith (.ListComp elt [⟨tg, e, ifs, 0⟩] scope pos) (some (.Name x px)) p.line X.env = pure true) (hn : Γ.length = n := by rfl) (hl : Nat.blt i Γ.length = true := by rfl) (hy : X.N[i]? = some x := by rfl) (hyl : X.env.scope.names.lookup x = some .local := by rfl) (hs : ∀ x, foldedSetIterable e X.env x = pure x := by intro _; rfl) :
    VS X Γ Γx (.Assign [.Name x px] (.ListComp elt [⟨tg, e, ifs, 0⟩] scope pos) p :: rest) E ((m >>= fun l => lcM t f l) >>= k) := fun W tk I0 H0 σ I H T mt D o => by
  refine seq_s (to_s1 (ps_setLc hc hN hy hyl hsw pi_of ok lc_pg lc_pt lc_pe hs) ?_)
  show tLc (iOf X tg e) (gAll X scope tg) (kAll X scope ifs) (tAll X scope elt) (own.map (·.2)) σ H _
  refine lc_read hi hg ht he hn tk mt.mw o.bind (fun r o1 v I1 H1 T2 w1 q => ?_) fun _ z => z.xo mt hsb
  have there : ∀ p ∈ T, H p ≠ none := fun p hp => by obtain ⟨xs, e⟩ := mt.sl.there p hp; rw [e]; simp
  have mt1 : Sls X.K X.mg I1 H1 σ Γ T := mt.sl.mono w1.i0 fun p hp => by
    obtain ⟨xs, e⟩ := mt.sl.there p hp
    rw [e]; exact w1.h0 p _ e
  obtain ⟨T', s', c', d'⟩ := mt1.put (Nat.blt_eq.mp hl) q
  have wd := mt.wd.ow there w1
  exact rest_s (hk r) tk ⟨⟨wd.ih, wd.i0, wd.h0, fun p hp => wd.fr p (List.mem_append.mpr (c' p hp)), d' wd.nd, wd.sep⟩, s'⟩ o1
end

/-! ### defs -/
/-- a def's promise: m is what it computes; ea its arguments as data, eo its result -/
def spF (K : PySem.W.Frag) (mg : Str → Option Value) {A ρ : Type} (ea : A → List D) (eo : ρ → O) (m : A → M ρ) : Sp := fun vs H Q E => ∃ (I : Hp) (x : A), Same I H ∧ Rs K mg I vs (ea x) ∧
  Out (m x) (fun r => ∀ v I' H' T, Wd I H I' H' T → Ow K mg I' H' v (eo r) T → Q v H') (fun ex => ∀ cl d I' H', Gr I H I' H' → ExcAt K mg I' ex cl d → E cl d H')
def eFn {ρ : Type} (eo : ρ → O) : Eds ρ where
  nx := fun _ r => eo r = .imm .non
  rt := fun _ o r => o = eo r
def anys (n : Nat) : List SL := List.replicate n .any
def ent (N : List Str) (ds : List D) : List SL := ds.map (fun d => .val (.imm d)) ++ List.replicate (N.length - ds.length) .any
theorem sub_anys : ∀ Γ : List SL, Sub Γ (anys Γ.length)
  | [] => .nil
  | a :: Γ => .any (sub_anys Γ)
theorem Sls.start {K : PySem.W.Frag} {mg : Str → Option Value} {I H : Hp} : ∀ {vs : List V} {ds : List D} (k : Nat), Rs K mg I vs ds → Sls K mg I H (vs.map some ++ List.replicate k none) (ds.map (fun d => .val (.imm d)) ++ List.replicate k .any) []
  | _, _, 0, .nil => .nil
  | _, _, k + 1, .nil => .any (by have := Sls.start (I := I) (H := H) (K := K) (mg := mg) k .nil; exact this)
  | _, _, k, .cons h r => .val (T := []) (.imm h) (Sls.start k r)
theorem Mt.start {K : PySem.W.Frag} {mg : Str → Option Value} {I H : Hp} {vs : List V} {ds : List D} {N : List Str} (h : Same I H) (r : Rs K mg I vs ds) : Mt K mg I H (ent N ds) (start N vs) I H [] :=
  ⟨Gr.refl h, by unfold ent L2.start; rw [r.length]; exact Sls.start _ r⟩
section
variable {P : Program} {w : World} {K : PySem.W.Frag} {mg : Str → Option Value} {base : Heap}
/-- THE RULE for a def -/
theorem fn_ok {x qual : Str} {st : Stmt} {f : Addr} {fd : FuncData} {N ps : List Str} {k : Nat} {A ρ : Type} {ea : A → List D} {eo : ρ → O} {m : A → M ρ} (F : Fun K x qual st f fd) (S : FnScope N ps (defScope st)) (hl : ∀ a, (ea a).length = ps.length)
    (body : ∀ (cdv : Value) (Ar : Around) (outer : List Env) (s : Shared) (H : Hp) (E : XK), Room k (Ar.deeper (envOfC qual (defScope st) s.heap.objs.size f cdv)) →
      ∀ X, X = cxOf (L2N.CX P w) P w K mg base N qual (defScope st) f cdv Ar outer s H E → ∀ a, VS X (ent N (ea a)) (anys N.length) (defBody st) (eFn eo) (m a)) :
    FnOk P w K mg base (L2N.CX P w) (k + 1) f fd ps (spF K mg ea eo m) := by
  obtain ⟨oc, od, kV, doc, pm, an, cdv, ct, osl, rfl, lk, hcd⟩ := F.ex
  refine fn_of lk hcd S (fun vs H Q E h => ?_) (fun Ar outer s H vs Q E hr h => ?_)
  · obtain ⟨I, x, _, r, _⟩ := h
    rw [r.length, hl]
  · obtain ⟨I, x, hs, r, o⟩ := h
    refine ⟨_, pss_of, ?_⟩
    refine body cdv Ar outer s H E hr _ rfl x (fun cls d _ H' => E cls d H') (L2N.takes_of rfl rfl rfl rfl) I H _ I H [] (Mt.start hs r) _ ?_
    refine o.mono (fun r _ k => ?_) fun ex _ k cl d σ' I' H' T' mt a => ?_
    · exact ⟨fun Γ' σ' I' H' T' z mt => k .non I' H' [] (mt.wd.subl (List.nil_sublist _)) (by rw [show eo r = .imm .non from z]; exact .imm .non), fun _ _ _ _ _ z => z.elim, fun _ _ _ _ _ z => z.elim, fun Γ' σ' o v I' H' T2 T' z wd sl q => k v I' H' T2 (wd.subl (List.sublist_append_left _ _)) (by rw [← show o = eo r from z]; exact q)⟩
    · exact k cl d I' H' (mt.wd.subl (List.nil_sublist _)) a
end
section
variable {X : Cx} {Γ Γx : List SL} {e a b c : Expr} {es : List Expr} {rest : List Stmt} {pos p : Pos} {α β γ : Type} [Enc α] [Enc β] [Enc γ] {w w' : Bool} {τ : Type} {E : Eds τ}
  {k : Nat} {f : Addr} {fd : FuncData} {ps : List Str} {x : Str} {A ρ : Type} {ea : A → List D} {m : A → M ρ} {ma : M A}
/-- f(e, ..): the result is new or plain -/
theorem vo_call {eo : ρ → O} (F : FnOk X.prog X.w X.K X.mg X.base (L2N.CX X.prog X.w) k f fd ps (spF X.K X.mg ea eo m)) (hr : Room k X.A) (hm : X.mg x = some (.ref f)) (hk : PySem.W.keepIn X.K (.ref f) = true) (hb : Binds X.K fd ps []) (h : VA false X Γ (e :: es) ea ma) (hg : Gl X x := by rfl)
    (hdb : (x == ("__debug__" : Str)) = false := by decide) (he : starEach (e :: es) X.env = (false, eval e X.env) :: starEach es X.env := by rfl) (hpl : (backTo pos (starEach es X.env)).any (·.1) = false := by rfl) : VO X Γ (.Call (.Name x p) (e :: es) [] pos) eo (ma >>= m) := fun W tk σ I H T mw Q o => by
  refine to_t (pe_callS (E := WE W) F hr hg hm hk hb (fun σ => L2N.passAt tk σ) pa_of hdb he hpl) (h.ap tk mw o.bind (fun a _ o1 vs I1 H1 g1 r1 => ?_) fun _ z => z)
  refine ⟨I1, a, g1.ih, r1, o1.mono (fun r _ k v I' H' T' wd q => k v I' H' T' (by have := Wd.ow g1 (fun _ z => nomatch z) wd; simpa using this) q) fun ex _ k cl d I' H' g at' => k cl d I' H' (g1.trans g) at'⟩
theorem ve_call [Enc ρ] (F : FnOk X.prog X.w X.K X.mg X.base (L2N.CX X.prog X.w) k f fd ps (spF X.K X.mg ea (fun r : ρ => .imm (enc r)) m)) (hr : Room k X.A) (hm : X.mg x = some (.ref f)) (hk : PySem.W.keepIn X.K (.ref f) = true) (hb : Binds X.K fd ps []) (h : VA false X Γ (e :: es) ea ma) (hg : Gl X x := by rfl)
    (hdb : (x == ("__debug__" : Str)) = false := by decide) (he : starEach (e :: es) X.env = (false, eval e X.env) :: starEach es X.env := by rfl) (hpl : (backTo pos (starEach es X.env)).any (·.1) = false := by rfl) : VX w X Γ (.Call (.Name x p) (e :: es) [] pos) (ma >>= m) := (vo_call F hr hm hk hb h hg hdb he hpl).ve fun r => O.toD_imm _
/-- arguments that are only borrowed -/
def bor {α : Type} : M α → M α
  | .ok a => .ok a
  | .stuck => .stuck
  | .exc e => if e.fs.isEmpty then .exc e else .stuck
theorem bor_out {α : Type} {m : M α} {P : α → Prop} {E : Exn → Prop} (o : Out (bor m) P E) : Out m P fun e => e.fs = [] ∧ E e := by
  cases m with
  | ok a => exact o
  | stuck => exact o
  | exc e =>
    have o : Out (if e.fs.isEmpty then M.exc e else M.stuck) P E := o
    cases q : e.fs.isEmpty with
    | true => rw [q] at o; exact ⟨by simpa using q, o⟩
    | false => rw [q] at o; exact o.elim
@[simp] theorem bor_ok {α : Type} (a : α) : bor (.ok a) = .ok a := rfl
theorem Gr.keep {I H I' H' : Hp} {T : List Addr} (h : Same I H) (w : Wd H H I' H' T) : Gr I H I H' := ⟨h.trans w.h0, .refl _, w.h0, fun _ z => (nomatch z), List.nodup_nil, fun _ _ z => z⟩
/-- .. a plain result -/
theorem ve_callB [Enc ρ] [Atm ρ] (F : FnOk X.prog X.w X.K X.mg X.base (L2N.CX X.prog X.w) k f fd ps (spF X.K X.mg ea (fun r : ρ => .imm (enc r)) m)) (hr : Room k X.A) (hm : X.mg x = some (.ref f)) (hk : PySem.W.keepIn X.K (.ref f) = true) (hb : Binds X.K fd ps []) (h : VA true X Γ (e :: es) ea ma) (hg : Gl X x := by rfl)
    (hdb : (x == ("__debug__" : Str)) = false := by decide) (he : starEach (e :: es) X.env = (false, eval e X.env) :: starEach es X.env := by rfl) (hpl : (backTo pos (starEach es X.env)).any (·.1) = false := by rfl) : VX w X Γ (.Call (.Name x p) (e :: es) [] pos) (ma >>= fun a => bor (m a)) := fun W tk σ I H T mw Q o => by
  refine to_t (pe_callS (E := WE W) F hr hg hm hk hb (fun σ => L2N.passAt tk σ) pa_of hdb he hpl) (h.ap tk mw o.bind (fun a _ o1 vs I1 H1 g1 r1 => ?_) fun _ z => z)
  refine ⟨H1, a, .refl _, r1, (bor_out o1).mono (fun r _ k v I' H' T' wd q => ?_) fun ex hex k cl d I' H' g at' => ?_⟩
  · cases q with
    | imm r2 => exact k v I1 H' (g1.trans (Gr.keep g1.ih wd)) (r2.atom (Atm.atm r))
  · exact k.2 cl d I1 H' (g1.trans (Gr.keep g1.ih g)) ⟨at'.cls, at'.non, fun z => absurd k.1 z⟩
/-- .. a new list of plain things -/
theorem vo_callB [Enc α] [Atm α] {m : A → M (List α)} (F : FnOk X.prog X.w X.K X.mg X.base (L2N.CX X.prog X.w) k f fd ps (spF X.K X.mg ea ow1 m)) (hr : Room k X.A) (hm : X.mg x = some (.ref f)) (hk : PySem.W.keepIn X.K (.ref f) = true) (hb : Binds X.K fd ps []) (h : VA true X Γ (e :: es) ea ma) (hg : Gl X x := by rfl)
    (hdb : (x == ("__debug__" : Str)) = false := by decide) (he : starEach (e :: es) X.env = (false, eval e X.env) :: starEach es X.env := by rfl) (hpl : (backTo pos (starEach es X.env)).any (·.1) = false := by rfl) : VO X Γ (.Call (.Name x p) (e :: es) [] pos) ow1 (ma >>= fun a => bor (m a)) := fun W tk σ I H T mw Q o => by
  refine to_t (pe_callS (E := WE W) F hr hg hm hk hb (fun σ => L2N.passAt tk σ) pa_of hdb he hpl) (h.ap tk mw o.bind (fun a _ o1 vs I1 H1 g1 r1 => ?_) fun _ z => z)
  refine ⟨H1, a, .refl _, r1, (bor_out o1).mono (fun r _ k v I' H' T' wd q => ?_) fun ex hex k cl d I' H' g at' => ?_⟩
  · refine k v I1 H' T' ?_ ?_
    · have w2 : Wd I1 H1 I1 H' T' := ⟨g1.ih.trans wd.h0, .refl _, wd.h0, fun p hp => ⟨g1.ih.free (wd.fr p hp).2, (wd.fr p hp).2⟩, wd.nd, fun _ _ z => z⟩
      have := Wd.ow g1 (fun _ z => nomatch z) w2
      simpa using this
    · cases q with
      | lst e1 e2 =>
        refine .lst e1 ?_
        rw [show r.map (fun a => O.imm (enc a)) = (r.map enc).map O.imm by rw [List.map_map]; rfl] at e2 ⊢
        obtain ⟨rfl, rs⟩ := e2.imm
        exact Ows.of_imm rs.atoms
  · exact k.2 cl d I1 H' (g1.trans (Gr.keep g1.ih g)) ⟨at'.cls, at'.non, fun z => absurd k.1 z⟩

/-! ### raise, try -/
/-- raise X('..'), a class of one's own without an __init__ -/
theorem vs_raise {bmB : List Value} {B newId initId : String} {C : Addr} {msg : Str} {j : Nat} {pc p2 : Pos} (F : ExcBaseFacts B newId initId bmB) (q : PySem.W.excIn X.K C bmB newId = true) (gC : X.mg x = some (.ref C)) (kC : PySem.W.keepIn X.K (.ref C) = true) (r : Raises X (.ref C)) (hc : X.calm = true) (hs : Sub Γ Γx) (hg : Gl X x := by rfl)
    (hdb : (x == ("__debug__" : Str)) = false := by decide) : VS X Γ Γx (.Raise (some (.Call (.Name x p) [.Constant (.str msg) j p2] [] pc)) none pos :: rest) E (.exc ⟨x, []⟩) := fun W tk I0 H0 σ I H T mt D o => by
  refine seq_s (to_s1 (L2N.ps_raise hc tk (L2N.pmk_own F q gC kC r hg hdb)) ?_)
  obtain ⟨T', mt'⟩ := mt.sub hs
  exact o (.ref C) none σ I H T' mt' ⟨gC, fun _ => rfl, fun z => absurd rfl z⟩
/-- the classes of errors: each name, and what it is below of -/
abbrev ETab := List (Str × List Str)
/-- the except clause's class c against an error's class -/
structure EOk (K : PySem.W.Frag) (mg : Str → Option Value) (tb : ETab) (n : Str) (c : Value) : Prop where
  ex : ∀ m up, tb.lookup m = some up → ∀ cl, mg m = some cl → PySem.W.exmOne K cl c = some (up.contains n)
def isE (tb : ETab) (e : Exn) (n : Str) : M Bool := match tb.lookup e.nm with
  | some up => .ok (up.contains n)
  | none => .stuck
/-- what a try makes of an error -/
def tryM {α : Type} (tb : ETab) (n : Str) (m : M α) (h : Exn → M α) : M α := match m with
  | .ok a => .ok a
  | .stuck => .stuck
  | .exc e => isE tb e n >>= fun b => if b then h e else .exc e
@[simp] theorem tryM_ok {α : Type} (tb : ETab) (n : Str) (a : α) (h : Exn → M α) : tryM tb n (.ok a) h = .ok a := rfl
/-- an error as data -/
def eD (a : Addr) (d : Option Addr) (ex : Exn) : D := match d with
  | none => .adr a
  | some dd => .exn a dd ex.fs
/-- the suite of except .. as e (the error at slot i, its object at a) -/
def SUI (X : Cx) (ex : Exn) (P : Cx → Addr → Option Addr → Prop) : Prop := ∀ (a : Addr) (oe : Obj) (cls : Value) (d : Option Addr) (pn : List (Addr × Obj)), L2N.Zn cls d oe → (∃ vs, oe.data = .fields vs) → X.mg ex.nm = some cls → (ex.fs = [] → d = none) → (ex.fs ≠ [] → d ≠ none) → P (X.suite a ((a, oe) :: pn)) a d
theorem Mt.putD {K : PySem.W.Frag} {mg : Str → Option Value} {I0 H0 : Hp} {Γ : List SL} {σ : L2.St} {I H : Hp} {T : List Addr} {i : Nat} (m : Mt K mg I0 H0 Γ σ I H T) : ∃ T', Mt K mg I0 H0 (Γ.set i .any) (σ.set i none) I H T' := by
  obtain ⟨T', s, k⟩ := m.sl.anyAt i none
  exact ⟨T', m.wd.subl k, s⟩
/-- what falls through a suite has lost the error's name -/
def eSu {τ : Type} (i : Nat) (E : Eds τ) : Eds τ where
  nx := fun Γ' t => E.nx (Γ'.set i .any) t
  bk := fun Γ' t => E.bk (Γ'.set i .any) t
  ct := fun Γ' t => E.ct (Γ'.set i .any) t
  rt := fun Γ' o t => E.rt (Γ'.set i .any) o t
/-- try: body / except x as n: suite, the last statement of a block, or behind it what E's fall-through asks -/
theorem vs_try {S : Type} (F : S → List SL) (i : Nat) (tb : ETab) {xc n : Str} {c : Value} {body suite : List Stmt} {b₀ : Stmt} {np pos' : Pos} {mb : M (Jn S τ)} {mh : Exn → M (Jn S τ)} {kk : S → M τ} (Γt : List SL) (hX : X.stack = X.env :: X.outer) (hf : X.env.frame = some X.env.locals) (hN : X.N.Nodup) (hc : Names X xc c) (hE : EOk X.K X.mg tb xc c)
    (hb : ∀ (pn : List (Addr × Obj)) (xe : Value → Shared → Prop), PassesOwn (model X.prog X.w) X.A X.env xe → VS (X.tr pn xe) Γ Γt body (eJn F E) mb)
    (hsu : ∀ ex, SUI X ex fun Y a d => VS Y (Γt.set i (.val (.imm (eD a d ex)))) (anys Γt.length) (b₀ :: suite) (eSu i (eJn F E)) (mh ex))
    (hk : ∀ s, VS X (F s) Γx rest E (kk s)) (hs : Sub Γt Γx) (hi : X.N[i]? = some n := by rfl) (hl : Nat.blt i Γt.length = true := by rfl) (hln : X.env.kindOf n = some .local := by rfl) :
    VS X Γ Γx (.Try body [.ExceptHandler (some (.Name xc np)) (some n) (b₀ :: suite) pos'] [] [] pos :: rest) E (tryM tb xc mb (fun ex => nox (mh ex)) >>= fun j => j.on kk) := fun W tk I0 H0 σ I H T mt D o => by
  refine seq_s (to_s1 (L2N.ps_try_as (tb := fun W' => fun D σ H => ∀ pn xe, L2N.Takes (X.tr pn xe) W' → PassesOwn (model X.prog X.w) X.A X.env xe → sOf (X.tr pn xe) body D σ H) (ts := fun a cls d => fun D σ H => ∀ oe pn, L2N.Zn cls d oe → (∃ vs, oe.data = .fields vs) → sOf (X.suite a ((a, oe) :: pn)) (b₀ :: suite) D σ H)
    hX hf hN hi hln hc tk (fun W' pn xe tk' po => ⟨fun pins s σ H D In h => (h pn xe tk' po).run pins s In⟩) (fun a oe cls d pn hz hfl => ⟨fun pins s σ H D In h => (h oe pn hz hfl).run pins s In⟩)) ?_)
  intro pn xe tk' po
  have fin : ∀ (j : Jn S τ), Out (j.on kk) (DO X I0 H0 E D) (XS X W I0 H0 Γx) → DO X I0 H0 (eJn F E) { D with nx := sOf X rest D } j := fun j o => ⟨fun Γ' σ' I' H' T' z m => by
      obtain ⟨s, rfl, z⟩ := z
      obtain ⟨T2, m2⟩ := m.sub z
      exact rest_s (hk s) tk m2 o, fun Γ' σ' I' H' T' z m => by
      obtain ⟨t, rfl, z⟩ := z
      exact DO.bk (E := E) o Γ' σ' I' H' T' z m, fun Γ' σ' I' H' T' z m => by
      obtain ⟨t, rfl, z⟩ := z
      exact DO.ct (E := E) o Γ' σ' I' H' T' z m, fun Γ' σ' ow v I' H' T2 T' z m sl r => by
      obtain ⟨t, rfl, z⟩ := z
      exact DO.rt (E := E) o Γ' σ' ow v I' H' T2 T' z m sl r⟩
  refine hb pn xe po _ tk' I0 H0 σ I H T mt _ ?_
  cases mb with
  | stuck => exact o.elim
  | ok j => exact (let g := fin j o; ⟨g.nx, g.bk, g.ct, g.rt⟩ : DO (X.tr pn xe) I0 H0 (eJn F E) _ j)
  | exc ex =>
    intro cl d σ' I' H' T' mt' at'
    have o1 : Out ((isE tb ex xc >>= fun b => if b then nox (mh ex) else M.exc ex) >>= fun j => j.on kk) (DO X I0 H0 E D) (XS X W I0 H0 Γx) := o
    unfold isE at o1
    cases q : tb.lookup ex.nm with
    | none => rw [q] at o1; exact o1.elim
    | some up =>
      rw [q] at o1
      refine ⟨up.contains xc, hE.ex ex.nm up q cl at'.cls, fun hy a ha => ?_, fun hno => ?_⟩
      · have o2 : Out ((if up.contains xc = true then nox (mh ex) else M.exc ex) >>= fun j => j.on kk) (DO X I0 H0 E D) (XS X W I0 H0 Γx) := o1
        rw [if_pos hy] at o2
        have o3 := nox_out o2.bind
        intro oe pn2 hz hfl
        obtain ⟨T2, mt2⟩ := Mt.putI (i := i) (v := .ref a) (d := eD a d ex) mt' (Nat.blt_eq.mp hl) (by
          cases d with
          | none => exact .adr a
          | some dd =>
            by_cases hfs : ex.fs = []
            · have := at'.non hfs; cases this
            · obtain ⟨dd', vs, e, h1, h2⟩ := at'.fld hfs
              cases e
              exact .exn h1 h2)
        refine hsu ex a oe cl d pn2 hz hfl at'.cls at'.non (fun z => by obtain ⟨dd, _, e, _⟩ := at'.fld z; rw [e]; simp) (fun _ _ _ _ => False) takes0N I0 H0 _ I' H' T2 mt2 _ (o3.mono (fun j _ o4 => ?_) fun _ _ z => z.elim)
        have g := fin j o4
        exact ⟨fun Γ' σ4 I4 H4 T4 z m => by
          obtain ⟨T5, m5⟩ := m.putD (i := i)
          exact g.nx _ _ _ _ _ z m5, fun Γ' σ4 I4 H4 T4 z m => by
          obtain ⟨T5, m5⟩ := m.putD (i := i)
          exact g.bk _ _ _ _ _ z m5, fun Γ' σ4 I4 H4 T4 z m => by
          obtain ⟨T5, m5⟩ := m.putD (i := i)
          exact g.ct _ _ _ _ _ z m5, fun Γ' σ4 ow v I4 H4 T2 T4 z m sl r => by
          obtain ⟨T5, s5, k5⟩ := sl.anyAt i none
          exact g.rt _ _ _ _ _ _ _ _ z (m.subl ((List.Sublist.refl _).append k5)) s5 r⟩
      · have o2 : Out ((if up.contains xc = true then nox (mh ex) else M.exc ex) >>= fun j => j.on kk) (DO X I0 H0 E D) (XS X W I0 H0 Γx) := o1
        rw [if_neg (by rw [hno]; simp)] at o2
        obtain ⟨T2, mt2⟩ := mt'.sub hs
        exact o2 cl d σ' I' H' T2 mt2 at'
/-- isinstance(e, C) in the suite -/
structure IOk (K : PySem.W.Frag) (mg : Str → Option Value) (tb : ETab) (n : Str) (cv : Value) : Prop where
  ex : ∀ m up, tb.lookup m = some up → ∃ Dc, mg m = some (.ref Dc) ∧ ExcC K Dc ∧ PySem.W.kitOne K (.ref Dc) cv = some (up.contains n)
theorem ve_isE (i : Nat) (tb : ETab) {xe n : Str} {c : V} {cv : Value} {a : Addr} {oe : Obj} {cls : Value} {pn : List (Addr × Obj)} {ex : Exn} {px : Pos} {b : Expr} (hz : L2N.Zn cls none oe) (hfl : ∃ vs, oe.data = .fields vs) (hm : X.mg ex.nm = some cls) (hI : IOk X.K X.mg tb n cv) (hcv : ∀ u, RelV c u → u = cv) (hb : PE (X.suite a ((a, oe) :: pn)) b (tC c))
    (hΓ : Γ[i]? = some (.val (.imm (.adr a)))) (hN : X.N[i]? = some xe := by rfl) (hv : Vis X.env.scope xe := by first | exact Or.inl rfl | exact Or.inr (Or.inl rfl) | exact Or.inr (Or.inr rfl)) (hmi : X.mg "isinstance" = none) (hg : Gl X "isinstance" := by rfl)
    (hd : (xe == ("__debug__" : Str)) = false := by decide) (hcd : (xe == ("__classdict__" : Str)) = false := by decide) (hst : starEach [.Name xe px, b] X.env = (false, eval (.Name xe px) X.env) :: starEach [b] X.env := by rfl) (hst2 : starEach [b] X.env = (false, eval b X.env) :: starEach [] X.env := by rfl) (hpl : (backTo pos (starEach [b] X.env)).any (·.1) = false := by rfl) :
    VX w (X.suite a ((a, oe) :: pn)) Γ (.Call (.Name "isinstance" p) [.Name xe px, b] [] pos) (isE tb ex n) := fun W tk σ I H T mw Q o => by
  unfold isE at o
  cases q : tb.lookup ex.nm with
  | none => rw [q] at o; exact o.elim
  | some up =>
    rw [q] at o
    obtain ⟨Dc, h1, h2, h3⟩ := hI.ex _ _ q
    rw [hm] at h1
    cases h1
    obtain ⟨v, hv1, r⟩ := mw.sl.imm hΓ
    cases r
    refine to_t (pe_callB (call_isE h2 hz.zc hfl) hg hmi (by decide +kernel) (pa_cons (pe_var hN hv hd hcd) (pa_cons hb pa_nil hst2) hst) (by decide) (by decide) hst hpl) ⟨.ref a, hv1, c, cv, up.contains n, rfl, hcv, h3, ?_⟩
    exact o _ I H (.refl mw.ih) (.bl _)
end
end Vc

set_option Elab.async false
set_option linter.all false
set_option maxRecDepth 100000
namespace Vc
open PySem PySem.Spec PyProof.Rows L2
open Enc (enc)

theorem VO.congr {X : Cx} {Γ : List SL} {e : Expr} {α : Type} {o : α → O} {m m' : M α} (h : VO X Γ e o m) (q : m = m') : VO X Γ e o m' := q ▸ h
theorem VT.congr {X : Cx} {Γ : List SL} {e : Expr} {m m' : M Bool} (h : VT X Γ e m) (q : m = m') : VT X Γ e m' := q ▸ h
theorem VA.congr {w : Bool} {X : Cx} {Γ : List SL} {e : List Expr} {A : Type} {o : A → List D} {m m' : M A} (h : VA w X Γ e o m) (q : m = m') : VA w X Γ e o m' := q ▸ h
theorem VI.congr {X : Cx} {Γ : List SL} {tg e : Expr} {α : Type} [Enc α] {m m' : M (List α)} (h : VI X Γ tg e m) (q : m = m') : VI X Γ tg e m' := q ▸ h
theorem VS.congr {X : Cx} {Γ Γx : List SL} {sts : List Stmt} {τ : Type} {E : Eds τ} {m m' : M τ} (h : VS X Γ Γx sts E m) (q : m = m') : VS X Γ Γx sts E m' := q ▸ h

/-! ### == of data -/
class Eqv (α : Type) [Enc α] [DecidableEq α] where
  py : α → PyData
  dp : ∀ (K : PySem.W.Frag) (mg : Str → Option Value) (H : Hp) (v : V) (a : α), R K mg H v (enc a) → Dp K H v (py a)
  lay : α → Bool
  lyq : ∀ a : α, (py a).canLay0 = lay a
  dep : Nat
  dle : ∀ a : α, (py a).depth ≤ dep
  eqv : ∀ a b : α, PyData.eqv (py a) (py b) = decide (a = b)
/-- no text within -/
class LayT (α : Type) [Enc α] [DecidableEq α] [Eqv α] : Prop where
  lt : ∀ a : α, Eqv.lay a = true
/-- the kind of data -/
def kd : PyData → Nat
  | .none => 0
  | .bool _ => 1
  | .int _ => 1
  | .str _ => 2
  | .list _ => 3
  | .tuple _ => 4
  | .dict _ => 5
class Knd (α : Type) [Enc α] [DecidableEq α] [Eqv α] where
  k : Nat
  ok : ∀ a : α, kd (Eqv.py a) = k
theorem eqv_kd : ∀ (a b : PyData), kd a ≠ kd b → PyData.eqv a b = false := by
  intro a b h
  cases a <;> cases b <;> first | rfl | exact absurd rfl h
instance : Eqv Int := ⟨PyData.int, fun K mg H v a r => by cases r; exact .int a, fun _ => true, fun _ => rfl, 0, fun _ => Nat.le_refl _, fun a b => by
  show (a == b) = decide (a = b)
  by_cases h : a = b <;> simp [h]⟩
instance : Eqv Bool := ⟨PyData.bool, fun K mg H v a r => by cases r; exact .bl a, fun _ => true, fun _ => rfl, 0, fun _ => Nat.le_refl _, fun a b => by cases a <;> cases b <;> rfl⟩
instance : Eqv Str := ⟨PyData.str, fun K mg H v a r => by cases r; exact .str a, PyData.strOk, fun _ => rfl, 0, fun _ => Nat.le_refl _, fun a b => by
  show (a == b) = decide (a = b)
  by_cases h : a = b <;> simp [h]⟩
instance : Eqv Unit := ⟨fun _ => .none, fun K mg H v a r => by cases r; exact .non, fun _ => true, fun _ => rfl, 0, fun _ => Nat.le_refl _, fun a b => by cases a; cases b; rfl⟩
instance : LayT Int := ⟨fun _ => rfl⟩
instance : LayT Bool := ⟨fun _ => rfl⟩
instance : LayT Unit := ⟨fun _ => rfl⟩
instance : Knd Int := ⟨1, fun _ => rfl⟩
instance : Knd Bool := ⟨1, fun _ => rfl⟩
instance : Knd Str := ⟨2, fun _ => rfl⟩
instance : Knd Unit := ⟨0, fun _ => rfl⟩
theorem dpAll {α : Type} [Enc α] [DecidableEq α] [Eqv α] {K : PySem.W.Frag} {mg : Str → Option Value} {H : Hp} : ∀ {xs : List V} {l : List α}, Rs K mg H xs (l.map enc) → DpAll K H xs (l.map Eqv.py)
  | _, [], .nil => .nil
  | _, a :: l, .cons h r => .cons (Eqv.dp K mg H _ a h) (dpAll r)
theorem layAll {α : Type} [Enc α] [DecidableEq α] [Eqv α] : ∀ l : List α, PyData.canLayAll0 (l.map Eqv.py) = l.all Eqv.lay
  | [] => rfl
  | a :: l => by
    show (PyData.canLay0 (Eqv.py a) && PyData.canLayAll0 (l.map Eqv.py)) = (Eqv.lay a && l.all Eqv.lay)
    rw [Eqv.lyq a, layAll l]
theorem depAll {α : Type} [Enc α] [DecidableEq α] [E : Eqv α] : ∀ l : List α, PyData.depthAll (l.map Eqv.py) ≤ E.dep
  | [] => Nat.zero_le _
  | a :: l => by
    show max (PyData.depth (Eqv.py a)) (PyData.depthAll (l.map Eqv.py)) ≤ _
    exact Nat.max_le.mpr ⟨Eqv.dle a, depAll l⟩
theorem eqvAll {α : Type} [Enc α] [DecidableEq α] [Eqv α] : ∀ l r : List α, PyData.eqvAll (l.map Eqv.py) (r.map Eqv.py) = decide (l = r)
  | [], [] => rfl
  | [], _ :: _ => rfl
  | _ :: _, [] => rfl
  | a :: l, b :: r => by
    show (PyData.eqv (Eqv.py a) (Eqv.py b) && PyData.eqvAll (l.map Eqv.py) (r.map Eqv.py)) = _
    rw [Eqv.eqv a b, eqvAll l r]
    by_cases h : a = b <;> by_cases h2 : l = r <;> simp [h, h2]
section
variable {α β γ δ ε : Type} [Enc α] [DecidableEq α] [Enc β] [DecidableEq β] [Enc γ] [DecidableEq γ] [Enc δ] [DecidableEq δ] [Enc ε] [DecidableEq ε]
instance [E : Eqv α] : Eqv (List α) := ⟨fun l => .list (l.map Eqv.py), fun K mg H v a r => by
    obtain ⟨p, xs, rfl, h, q⟩ := R.lst_inv r
    exact .lst h (dpAll q), fun l => l.all Eqv.lay, fun l => layAll l, E.dep + 1, fun l => Nat.succ_le_succ (depAll l), fun a b => eqvAll a b⟩
instance [Eqv α] : Knd (List α) := ⟨3, fun _ => rfl⟩
instance [Eqv α] [LayT α] : LayT (List α) := ⟨fun l => List.all_eq_true.mpr fun x _ => LayT.lt x⟩
instance : DecidableEq (Tup α) := fun a b => decidable_of_iff (a.l = b.l) ⟨fun h => by cases a; cases b; cases h; rfl, fun h => by rw [h]⟩
instance [E : Eqv α] : Eqv (Tup α) := ⟨fun l => .tuple (l.l.map Eqv.py), fun K mg H v a r => by
    obtain ⟨p, xs, rfl, h, q⟩ := R.tup_inv r
    exact .tup h (dpAll q), fun l => l.l.all Eqv.lay, fun l => layAll l.l, E.dep + 1, fun l => Nat.succ_le_succ (depAll l.l), fun a b => by
    show PyData.eqvAll _ _ = _
    rw [eqvAll]
    cases a; cases b
    simp⟩
instance [Eqv α] : Knd (Tup α) := ⟨4, fun _ => rfl⟩
instance [Eqv α] [LayT α] : LayT (Tup α) := ⟨fun l => List.all_eq_true.mpr fun x _ => LayT.lt x⟩
instance [E : Eqv α] [F : Eqv β] : Eqv (α × β) := ⟨fun p => .tuple [Eqv.py p.1, Eqv.py p.2], fun K mg H v a r => by
    obtain ⟨p, xs, rfl, h, q⟩ := R.tup_inv r
    cases q with
    | cons h1 q => cases q with
      | cons h2 q =>
        cases q
        exact .tup h (.cons (Eqv.dp K mg H _ _ h1) (.cons (Eqv.dp K mg H _ _ h2) .nil)), fun p => Eqv.lay p.1 && Eqv.lay p.2, fun p => by
    show (PyData.canLay0 (Eqv.py p.1) && (PyData.canLay0 (Eqv.py p.2) && true)) = _
    rw [Eqv.lyq p.1, Eqv.lyq p.2, Bool.and_true], max E.dep F.dep + 1, fun p => by
    show max (PyData.depth (Eqv.py p.1)) (max (PyData.depth (Eqv.py p.2)) 0) + 1 ≤ _
    have h1 := Eqv.dle p.1
    have h2 := Eqv.dle p.2
    omega, fun a b => by
    show (PyData.eqv (Eqv.py a.1) (Eqv.py b.1) && (PyData.eqv (Eqv.py a.2) (Eqv.py b.2) && true)) = _
    rw [Eqv.eqv, Eqv.eqv]
    obtain ⟨a1, a2⟩ := a
    obtain ⟨b1, b2⟩ := b
    by_cases h : a1 = b1 <;> by_cases h2 : a2 = b2 <;> simp [h, h2]⟩
instance [Eqv α] [Eqv β] : Knd (α × β) := ⟨4, fun _ => rfl⟩
instance [Eqv α] [Eqv β] [LayT α] [LayT β] : LayT (α × β) := ⟨fun p => by show (Eqv.lay p.1 && Eqv.lay p.2) = true; rw [LayT.lt, LayT.lt]; rfl⟩
instance [E : Eqv α] [F : Eqv β] [G : Eqv γ] : Eqv (T3 α β γ) := ⟨fun p => .tuple [Eqv.py p.a, Eqv.py p.b, Eqv.py p.c], fun K mg H v a r => by
    obtain ⟨p, xs, rfl, h, q⟩ := R.tup_inv r
    cases q with
    | cons h1 q => cases q with
      | cons h2 q => cases q with
        | cons h3 q =>
          cases q
          exact .tup h (.cons (Eqv.dp K mg H _ _ h1) (.cons (Eqv.dp K mg H _ _ h2) (.cons (Eqv.dp K mg H _ _ h3) .nil))), fun p => Eqv.lay p.a && (Eqv.lay p.b && Eqv.lay p.c), fun p => by
    show (PyData.canLay0 (Eqv.py p.a) && (PyData.canLay0 (Eqv.py p.b) && (PyData.canLay0 (Eqv.py p.c) && true))) = _
    rw [Eqv.lyq p.a, Eqv.lyq p.b, Eqv.lyq p.c, Bool.and_true], max E.dep (max F.dep G.dep) + 1, fun p => by
    show max (PyData.depth (Eqv.py p.a)) (max (PyData.depth (Eqv.py p.b)) (max (PyData.depth (Eqv.py p.c)) 0)) + 1 ≤ _
    have h1 := Eqv.dle p.a
    have h2 := Eqv.dle p.b
    have h3 := Eqv.dle p.c
    omega, fun a b => by
    show (PyData.eqv (Eqv.py a.a) (Eqv.py b.a) && (PyData.eqv (Eqv.py a.b) (Eqv.py b.b) && (PyData.eqv (Eqv.py a.c) (Eqv.py b.c) && true))) = _
    rw [Eqv.eqv, Eqv.eqv, Eqv.eqv]
    obtain ⟨a1, a2, a3⟩ := a
    obtain ⟨b1, b2, b3⟩ := b
    by_cases h : a1 = b1 <;> by_cases h2 : a2 = b2 <;> by_cases h3 : a3 = b3 <;> simp [h, h2, h3]⟩
instance [Eqv α] [Eqv β] [Eqv γ] : Knd (T3 α β γ) := ⟨4, fun _ => rfl⟩
instance [Eqv α] [Eqv β] [Eqv γ] [LayT α] [LayT β] [LayT γ] : LayT (T3 α β γ) := ⟨fun p => by show (Eqv.lay p.a && (Eqv.lay p.b && Eqv.lay p.c)) = true; rw [LayT.lt, LayT.lt, LayT.lt]; rfl⟩
instance [E : Eqv α] [F : Eqv β] [G : Eqv γ] [I : Eqv δ] [J : Eqv ε] : Eqv (T5 α β γ δ ε) := ⟨fun p => .tuple [Eqv.py p.a, Eqv.py p.b, Eqv.py p.c, Eqv.py p.d, Eqv.py p.e], fun K mg H v a r => by
    obtain ⟨p, xs, rfl, h, q⟩ := R.tup_inv r
    cases q with
    | cons h1 q => cases q with
      | cons h2 q => cases q with
        | cons h3 q => cases q with
          | cons h4 q => cases q with
            | cons h5 q =>
              cases q
              exact .tup h (.cons (Eqv.dp K mg H _ _ h1) (.cons (Eqv.dp K mg H _ _ h2) (.cons (Eqv.dp K mg H _ _ h3) (.cons (Eqv.dp K mg H _ _ h4) (.cons (Eqv.dp K mg H _ _ h5) .nil))))), fun p => Eqv.lay p.a && (Eqv.lay p.b && (Eqv.lay p.c && (Eqv.lay p.d && Eqv.lay p.e))), fun p => by
    show (PyData.canLay0 (Eqv.py p.a) && (PyData.canLay0 (Eqv.py p.b) && (PyData.canLay0 (Eqv.py p.c) && (PyData.canLay0 (Eqv.py p.d) && (PyData.canLay0 (Eqv.py p.e) && true))))) = _
    rw [Eqv.lyq p.a, Eqv.lyq p.b, Eqv.lyq p.c, Eqv.lyq p.d, Eqv.lyq p.e, Bool.and_true], max E.dep (max F.dep (max G.dep (max I.dep J.dep))) + 1, fun p => by
    show max (PyData.depth (Eqv.py p.a)) (max (PyData.depth (Eqv.py p.b)) (max (PyData.depth (Eqv.py p.c)) (max (PyData.depth (Eqv.py p.d)) (max (PyData.depth (Eqv.py p.e)) 0)))) + 1 ≤ _
    have h1 := Eqv.dle p.a
    have h2 := Eqv.dle p.b
    have h3 := Eqv.dle p.c
    have h4 := Eqv.dle p.d
    have h5 := Eqv.dle p.e
    omega, fun a b => by
    show (PyData.eqv (Eqv.py a.a) (Eqv.py b.a) && (PyData.eqv (Eqv.py a.b) (Eqv.py b.b) && (PyData.eqv (Eqv.py a.c) (Eqv.py b.c) && (PyData.eqv (Eqv.py a.d) (Eqv.py b.d) && (PyData.eqv (Eqv.py a.e) (Eqv.py b.e) && true))))) = _
    rw [Eqv.eqv, Eqv.eqv, Eqv.eqv, Eqv.eqv, Eqv.eqv]
    obtain ⟨a1, a2, a3, a4, a5⟩ := a
    obtain ⟨b1, b2, b3, b4, b5⟩ := b
    by_cases h : a1 = b1 <;> by_cases h2 : a2 = b2 <;> by_cases h3 : a3 = b3 <;> by_cases h4 : a4 = b4 <;> by_cases h5 : a5 = b5 <;> simp [h, h2, h3, h4, h5]⟩
instance [Eqv α] [Eqv β] [Eqv γ] [Eqv δ] [Eqv ε] : Knd (T5 α β γ δ ε) := ⟨4, fun _ => rfl⟩
instance [Eqv α] [Eqv β] [Eqv γ] [Eqv δ] [Eqv ε] [LayT α] [LayT β] [LayT γ] [LayT δ] [LayT ε] : LayT (T5 α β γ δ ε) := ⟨fun p => by show (Eqv.lay p.a && (Eqv.lay p.b && (Eqv.lay p.c && (Eqv.lay p.d && Eqv.lay p.e)))) = true; rw [LayT.lt, LayT.lt, LayT.lt, LayT.lt, LayT.lt]; rfl⟩
/-- one of two kinds -/
@[reducible] def eqvSum (α β : Type) [Enc α] [DecidableEq α] [Enc β] [DecidableEq β] [E : Eqv α] [F : Eqv β] [A : Knd α] [B : Knd β] (h : A.k ≠ B.k) : Eqv (α ⊕ β) := ⟨fun o => match o with | .inl a => E.py a | .inr b => F.py b, fun K mg H v a r => by
    cases a with
    | inl a => exact E.dp K mg H v a r
    | inr a => exact F.dp K mg H v a r, fun o => match o with | .inl a => E.lay a | .inr b => F.lay b, fun o => by
    cases o with
    | inl a => exact E.lyq a
    | inr a => exact F.lyq a, max E.dep F.dep, fun o => by
    cases o with
    | inl a => exact Nat.le_trans (E.dle a) (Nat.le_max_left _ _)
    | inr a => exact Nat.le_trans (F.dle a) (Nat.le_max_right _ _), fun a b => by
    cases a with
    | inl a =>
      cases b with
      | inl b => show PyData.eqv (E.py a) (E.py b) = _; rw [E.eqv]; simp
      | inr b => show PyData.eqv (E.py a) (F.py b) = _; rw [eqv_kd _ _ (by rw [A.ok, B.ok]; exact h)]; simp
    | inr a =>
      cases b with
      | inl b => show PyData.eqv (F.py a) (E.py b) = _; rw [eqv_kd _ _ (by rw [A.ok, B.ok]; exact h.symm)]; simp
      | inr b => show PyData.eqv (F.py a) (F.py b) = _; rw [F.eqv]; simp⟩
@[reducible] def eqvOpt (α : Type) [Enc α] [DecidableEq α] [E : Eqv α] [A : Knd α] (h : A.k ≠ 0) : Eqv (Option α) := ⟨fun o => match o with | none => .none | some a => E.py a, fun K mg H v a r => by
    cases a with
    | none => cases r; exact .non
    | some a => exact E.dp K mg H v a r, fun o => match o with | none => true | some a => E.lay a, fun o => by
    cases o with
    | none => rfl
    | some a => exact E.lyq a, E.dep, fun o => by
    cases o with
    | none => exact Nat.zero_le _
    | some a => exact E.dle a, fun a b => by
    cases a with
    | none =>
      cases b with
      | none => rfl
      | some b => show PyData.eqv .none (E.py b) = _; rw [eqv_kd _ _ (by rw [A.ok]; exact h.symm)]; simp
    | some a =>
      cases b with
      | none => show PyData.eqv (E.py a) .none = _; rw [eqv_kd _ _ (by rw [A.ok]; exact h)]; simp
      | some b => show PyData.eqv (E.py a) (E.py b) = _; rw [E.eqv]; simp⟩
end
section
variable {X : Cx} {Γ Γx : List SL} {e a b c : Expr} {es : List Expr} {rest : List Stmt} {pos p : Pos} {α β γ : Type} [Enc α] [Enc β] [Enc γ] {w w' : Bool} {τ : Type} {E : Eds τ}
theorem eq_read [DecidableEq α] [V : Eqv α] (hd : V.dep ≤ 64) {K : PySem.W.Frag} {mg : Str → Option Value} {x y : α} {H : Hp} {v u : L2.V} (hx : V.lay x = true) (hy : V.lay y = true) (r1 : R K mg H v (enc x)) (r2 : R K mg H u (enc y)) : Dp K H v (V.py x) ∧ Dp K H u (V.py y) ∧ SeqAt.shaped (V.py x) = true ∧ SeqAt.shaped (V.py y) = true :=
  ⟨V.dp K mg H v x r1, V.dp K mg H u y r2, by unfold SeqAt.shaped; rw [V.lyq x, hx, decide_eq_true (Nat.le_trans (V.dle x) hd)]; rfl, by unfold SeqAt.shaped; rw [V.lyq y, hy, decide_eq_true (Nat.le_trans (V.dle y) hd)]; rfl⟩
theorem ve_eqD [DecidableEq α] [V : Eqv α] [LayT α] {m1 m2 : M α} (hu : X.A.units + 64 < cLine) (ha : VX true X Γ a m1) (hb : VX true X Γ b m2) (hd : V.dep ≤ 64 := by decide) : VX w X Γ (.Compare a [.Eq] [b] pos) (m1 >>= fun x => m2 >>= fun y => M.ok (decide (x = y))) := ve_cmp (op_eqD hu) ha hb (nomark _) (fun x y H v u r1 r2 Q o => by
    obtain ⟨h1, h2, h3, h4⟩ := eq_read hd (LayT.lt x) (LayT.lt y) r1 r2
    exact ⟨_, _, h1, h2, h3, h4, by rw [V.eqv]; exact o⟩) fun _ _ _ z => nomatch z
theorem ve_eqDc [DecidableEq α] [V : Eqv α] {m1 m2 : M α} (hu : X.A.units + 64 < cLine) (ha : VX true X Γ a m1) (hb : VX true X Γ b m2) (hd : V.dep ≤ 64 := by decide) : VX w X Γ (.Compare a [.Eq] [b] pos) (m1 >>= fun x => m2 >>= fun y => chk (V.lay x = true ∧ V.lay y = true) >>= fun _ => M.ok (decide (x = y))) := ve_cmp (op_eqD hu) ha hb (nomark _) (fun x y H v u r1 r2 Q o => by
    obtain ⟨⟨hx, hy⟩, o⟩ := o.chk
    obtain ⟨h1, h2, h3, h4⟩ := eq_read hd hx hy r1 r2
    exact ⟨_, _, h1, h2, h3, h4, by rw [V.eqv]; exact o⟩) fun _ _ _ z => by unfold chk at z; split at z <;> cases z
theorem vt_eqD [DecidableEq α] [V : Eqv α] [LayT α] {m1 m2 : M α} (hu : X.A.units + 64 < cLine) (ha : VX true X Γ a m1) (hb : VX true X Γ b m2) (hd : V.dep ≤ 64 := by decide) : VT X Γ (.Compare a [.Eq] [b] pos) (m1 >>= fun x => m2 >>= fun y => M.ok (decide (x = y))) := vt_cmp (op_eqD hu) ha hb (nomark _) (fun x y H v u r1 r2 Q o => by
    obtain ⟨h1, h2, h3, h4⟩ := eq_read hd (LayT.lt x) (LayT.lt y) r1 r2
    exact ⟨_, _, h1, h2, h3, h4, by rw [V.eqv]; exact o⟩) fun _ _ _ z => nomatch z
theorem vt_eqDc [DecidableEq α] [V : Eqv α] {m1 m2 : M α} (hu : X.A.units + 64 < cLine) (ha : VX true X Γ a m1) (hb : VX true X Γ b m2) (hd : V.dep ≤ 64 := by decide) : VT X Γ (.Compare a [.Eq] [b] pos) (m1 >>= fun x => m2 >>= fun y => chk (V.lay x = true ∧ V.lay y = true) >>= fun _ => M.ok (decide (x = y))) := vt_cmp (op_eqD hu) ha hb (nomark _) (fun x y H v u r1 r2 Q o => by
    obtain ⟨⟨hx, hy⟩, o⟩ := o.chk
    obtain ⟨h1, h2, h3, h4⟩ := eq_read hd hx hy r1 r2
    exact ⟨_, _, h1, h2, h3, h4, by rw [V.eqv]; exact o⟩) fun _ _ _ z => by unfold chk at z; split at z <;> cases z
theorem ve_neD [DecidableEq α] [V : Eqv α] [LayT α] {m1 m2 : M α} (hu : X.A.units + 64 < cLine) (ha : VX true X Γ a m1) (hb : VX true X Γ b m2) (hd : V.dep ≤ 64 := by decide) : VX w X Γ (.Compare a [.NotEq] [b] pos) (m1 >>= fun x => m2 >>= fun y => M.ok (!decide (x = y))) := ve_cmp (op_neD hu) ha hb (nomark _) (fun x y H v u r1 r2 Q o => by
    obtain ⟨h1, h2, h3, h4⟩ := eq_read hd (LayT.lt x) (LayT.lt y) r1 r2
    exact ⟨_, _, h1, h2, h3, h4, by rw [V.eqv]; exact o⟩) fun _ _ _ z => nomatch z
theorem ve_neDc [DecidableEq α] [V : Eqv α] {m1 m2 : M α} (hu : X.A.units + 64 < cLine) (ha : VX true X Γ a m1) (hb : VX true X Γ b m2) (hd : V.dep ≤ 64 := by decide) : VX w X Γ (.Compare a [.NotEq] [b] pos) (m1 >>= fun x => m2 >>= fun y => chk (V.lay x = true ∧ V.lay y = true) >>= fun _ => M.ok (!decide (x = y))) := ve_cmp (op_neD hu) ha hb (nomark _) (fun x y H v u r1 r2 Q o => by
    obtain ⟨⟨hx, hy⟩, o⟩ := o.chk
    obtain ⟨h1, h2, h3, h4⟩ := eq_read hd hx hy r1 r2
    exact ⟨_, _, h1, h2, h3, h4, by rw [V.eqv]; exact o⟩) fun _ _ _ z => by unfold chk at z; split at z <;> cases z
theorem vt_neD [DecidableEq α] [V : Eqv α] [LayT α] {m1 m2 : M α} (hu : X.A.units + 64 < cLine) (ha : VX true X Γ a m1) (hb : VX true X Γ b m2) (hd : V.dep ≤ 64 := by decide) : VT X Γ (.Compare a [.NotEq] [b] pos) (m1 >>= fun x => m2 >>= fun y => M.ok (!decide (x = y))) := vt_cmp (op_neD hu) ha hb (nomark _) (fun x y H v u r1 r2 Q o => by
    obtain ⟨h1, h2, h3, h4⟩ := eq_read hd (LayT.lt x) (LayT.lt y) r1 r2
    exact ⟨_, _, h1, h2, h3, h4, by rw [V.eqv]; exact o⟩) fun _ _ _ z => nomatch z
theorem vt_neDc [DecidableEq α] [V : Eqv α] {m1 m2 : M α} (hu : X.A.units + 64 < cLine) (ha : VX true X Γ a m1) (hb : VX true X Γ b m2) (hd : V.dep ≤ 64 := by decide) : VT X Γ (.Compare a [.NotEq] [b] pos) (m1 >>= fun x => m2 >>= fun y => chk (V.lay x = true ∧ V.lay y = true) >>= fun _ => M.ok (!decide (x = y))) := vt_cmp (op_neD hu) ha hb (nomark _) (fun x y H v u r1 r2 Q o => by
    obtain ⟨⟨hx, hy⟩, o⟩ := o.chk
    obtain ⟨h1, h2, h3, h4⟩ := eq_read hd hx hy r1 r2
    exact ⟨_, _, h1, h2, h3, h4, by rw [V.eqv]; exact o⟩) fun _ _ _ z => by unfold chk at z; split at z <;> cases z
/-! ### divisors that are written -/
theorem ve_modK {m : M Int} {k : Int} (ha : VX true X Γ a m) (hb : VX true X Γ b (M.ok k)) (hk : 0 < k := by decide) : VX w X Γ (.BinOp a .Mod b pos) (m >>= fun x => M.ok (x % k)) := by
  have h := ve_binC (w := w) (pos := pos) (C := fun _ j => 0 < j) (g := fun i j => i % j) op_mod ha hb
  refine h.congr ?_
  congr 1
  funext x
  show (chk (0 < k) >>= fun _ => M.ok (x % k)) = _
  rw [chk_ok hk]; rfl
instance (i j : Int) : Decidable (CDiv i j) := by unfold CDiv; infer_instance
instance (i j : Int) : Decidable (CMul i j) := by unfold CMul; infer_instance
instance (i j : Int) : Decidable (CPow i j) := by unfold CPow; infer_instance
theorem ve_divK {m : M Int} {k : Int} (ha : VX true X Γ a m) (hb : VX true X Γ b (M.ok k)) (hk : CDiv 0 k := by decide) : VX w X Γ (.BinOp a .FloorDiv b pos) (m >>= fun x => M.ok (x / k)) := by
  have h := ve_binC (w := w) (pos := pos) (C := CDiv) (g := fun i j => i / j) op_fdiv ha hb
  refine h.congr ?_
  congr 1
  funext x
  show (chk (CDiv x k) >>= fun _ => M.ok (x / k)) = _
  rw [chk_ok (show CDiv x k from hk)]; rfl
theorem ve_mulR {m : M Int} {k : Int} (ha : VX true X Γ a m) (hb : VX true X Γ b (M.ok k)) (hk : -(2 ^ 64) < k ∧ k < 2 ^ 64 := by decide) : VX w X Γ (.BinOp a .Mult b pos) (m >>= fun x => M.ok (x * k)) := by
  have h := ve_binC (w := w) (pos := pos) (C := CMul) (g := fun i j => i * j) op_mul ha hb
  refine h.congr ?_
  congr 1
  funext x
  show (chk (CMul x k) >>= fun _ => M.ok (x * k)) = _
  rw [chk_ok (show CMul x k from .inr hk)]; rfl
theorem ve_mulL {m : M Int} {k : Int} (ha : VX true X Γ a (M.ok k)) (hb : VX true X Γ b m) (hk : -(2 ^ 64) < k ∧ k < 2 ^ 64 := by decide) : VX w X Γ (.BinOp a .Mult b pos) (m >>= fun x => M.ok (k * x)) := by
  have h := ve_binC (w := w) (pos := pos) (C := CMul) (g := fun i j => i * j) op_mul ha hb
  refine h.congr ?_
  show (m >>= fun x => chk (CMul k x) >>= fun _ => M.ok (k * x)) = _
  congr 1
  funext x
  rw [chk_ok (show CMul k x from .inl hk)]; rfl
theorem ve_shrK {m : M Int} {k : Int} (ha : VX true X Γ a m) (hb : VX true X Γ b (M.ok k)) (hk : 0 ≤ k := by decide) : VX w X Γ (.BinOp a .RShift b pos) (m >>= fun x => M.ok (x / 2 ^ k.toNat)) := by
  have h := ve_binC (w := w) (pos := pos) (C := fun _ j => 0 ≤ j) (g := fun i j => i / 2 ^ j.toNat) op_shr ha hb
  refine h.congr ?_
  congr 1
  funext x
  show (chk (0 ≤ k) >>= fun _ => M.ok (x / 2 ^ k.toNat)) = _
  rw [chk_ok hk]; rfl
theorem ve_mul {m1 m2 : M Int} (ha : VX true X Γ a m1) (hb : VX true X Γ b m2) : VX w X Γ (.BinOp a .Mult b pos) (m1 >>= fun x => m2 >>= fun y => chk (CMul x y) >>= fun _ => M.ok (x * y)) := ve_binC op_mul ha hb
theorem ve_mod {m1 m2 : M Int} (ha : VX true X Γ a m1) (hb : VX true X Γ b m2) : VX w X Γ (.BinOp a .Mod b pos) (m1 >>= fun x => m2 >>= fun y => chk (0 < y) >>= fun _ => M.ok (x % y)) := ve_binC (C := fun _ y => 0 < y) op_mod ha hb
theorem ve_div {m1 m2 : M Int} (ha : VX true X Γ a m1) (hb : VX true X Γ b m2) : VX w X Γ (.BinOp a .FloorDiv b pos) (m1 >>= fun x => m2 >>= fun y => chk (CDiv x y) >>= fun _ => M.ok (x / y)) := ve_binC op_fdiv ha hb
theorem ve_shl {m1 m2 : M Int} (ha : VX true X Γ a m1) (hb : VX true X Γ b m2) : VX w X Γ (.BinOp a .LShift b pos) (m1 >>= fun x => m2 >>= fun y => chk (CPow x y) >>= fun _ => M.ok (x * 2 ^ y.toNat)) := ve_binC op_shl ha hb
theorem ve_shr {m1 m2 : M Int} (ha : VX true X Γ a m1) (hb : VX true X Γ b m2) : VX w X Γ (.BinOp a .RShift b pos) (m1 >>= fun x => m2 >>= fun y => chk (0 ≤ y) >>= fun _ => M.ok (x / 2 ^ y.toNat)) := ve_binC (C := fun _ y => 0 ≤ y) op_shr ha hb
theorem ve_pow {m1 m2 : M Int} (ha : VX true X Γ a m1) (hb : VX true X Γ b m2) : VX w X Γ (.BinOp a .Pow b pos) (m1 >>= fun x => m2 >>= fun y => chk (CPow x y) >>= fun _ => M.ok (x ^ y.toNat)) := ve_binC op_pow ha hb
/-! plain tests -/
theorem vw_and_p {x y : Bool} (h : VT X Γ a (.ok x)) {rs : List Expr} (h2 : VW X Γ (.BoolOp .And (b :: rs) pos) (.ok y)) : VW X Γ (.BoolOp .And (a :: b :: rs) pos) (.ok (x && y)) := by
  have q := vw_and h h2
  rw [bAnd_ok] at q
  exact q
theorem vw_or_p {x y : Bool} (h : VT X Γ a (.ok x)) {rs : List Expr} (h2 : VW X Γ (.BoolOp .Or (b :: rs) pos) (.ok y)) : VW X Γ (.BoolOp .Or (a :: b :: rs) pos) (.ok (x || y)) := by
  have q := vw_or h h2
  rw [bOr_ok] at q
  exact q
theorem ve_and_p {x y : Bool} (h : VX true X Γ a (.ok x)) {rs : List Expr} (h2 : VX true X Γ (.BoolOp .And (b :: rs) pos) (.ok y)) : VX w X Γ (.BoolOp .And (a :: b :: rs) pos) (.ok (x && y)) := by
  have q := ve_and (w := w) h h2
  rw [bAnd_ok] at q
  exact q
theorem ve_or_p {x y : Bool} (h : VX true X Γ a (.ok x)) {rs : List Expr} (h2 : VX true X Γ (.BoolOp .Or (b :: rs) pos) (.ok y)) : VX w X Γ (.BoolOp .Or (a :: b :: rs) pos) (.ok (x || y)) := by
  have q := ve_or (w := w) h h2
  rw [bOr_ok] at q
  exact q
theorem ve_ite_p {x : Bool} {y z : α} (h : VT X Γ c (.ok x)) (h1 : VX w X Γ a (.ok y)) (h2 : VX w X Γ b (.ok z)) : VX w X Γ (.IfExp c a b pos) (.ok (if x then y else z)) := by
  have q := ve_ite h h1 h2 (pos := pos)
  cases x
  · exact q
  · exact q
/-- a < b < c -/
theorem ve_chain {op op' : CmpOp} {p1 p2 : Int → Int → Bool} {m1 m2 m3 : M Int} (ho : OpR X (compareOp op) (rI0 fun i j => .bl (p1 i j))) (ho' : OpR X (compareOp op') (rI0 fun i j => .bl (p2 i j))) (ha : VX true X Γ a m1) (hb : VX true X Γ b m2) (hc : VX true X Γ c m3)
    (h1 : lastMarks [op, op'] [b, c] = false) : VX w X Γ (.Compare a [op, op'] [b, c] pos) (m1 >>= fun x => m2 >>= fun y => bAnd (M.ok (p1 x y)) (m3 >>= fun z => M.ok (p2 y z))) := fun W tk σ I H T mw Q o => by
  refine to_t (pe_chain ho ho' pe_of pe_of pe_of h1) ?_
  refine ha.ap tk mw o.bind (fun x _ o1 v I1 H1 g1 r1 => ?_) fun _ z => z
  refine hb.ap tk (mw.gr g1) o1.bind (fun y _ o2 u I2 H2 g2 r2 => ?_) fun _ z => z.gr g1
  cases r1; cases r2
  refine ⟨x, y, rfl, rfl, p1 x y, rfl, ?_⟩
  cases q : p1 x y with
  | true =>
    rw [q] at o2
    refine iteT ?_
    refine hc.ap tk ((mw.gr g1).gr g2) (show Out (m3 >>= fun z => M.ok (p2 y z)) _ _ from o2).bind (fun z _ o3 t I3 H3 g3 r3 => ?_) fun _ z => (z.gr g1).gr g2
    cases r3
    exact ⟨y, z, rfl, rfl, o3 _ I3 H3 ((g1.trans g2).trans g3) (.bl _)⟩
  | false =>
    rw [q] at o2
    exact iteF (o2 _ I2 H2 (g1.trans g2) (.bl _))

/-! ### None -/
class NN (α : Type) [Enc α] : Prop where
  nn : ∀ (K : PySem.W.Frag) (mg : Str → Option Value) (H : Hp) (v : V) (a : α), R K mg H v (enc a) → v ≠ .non
instance : NN Int := ⟨fun K mg H v a r => by cases r; intro h; cases h⟩
instance : NN Bool := ⟨fun K mg H v a r => by cases r; intro h; cases h⟩
instance : NN Str := ⟨fun K mg H v a r => by cases r; intro h; cases h⟩
instance {α : Type} [Enc α] : NN (List α) := ⟨fun K mg H v a r => by cases r; intro h; cases h⟩
instance {α : Type} [Enc α] : NN (Tup α) := ⟨fun K mg H v a r => by cases r; intro h; cases h⟩
instance {α β : Type} [Enc α] [Enc β] : NN (α × β) := ⟨fun K mg H v a r => by cases r; intro h; cases h⟩
instance {α β γ : Type} [Enc α] [Enc β] [Enc γ] : NN (T3 α β γ) := ⟨fun K mg H v a r => by cases r; intro h; cases h⟩
instance {α β γ δ : Type} [Enc α] [Enc β] [Enc γ] [Enc δ] : NN (T4 α β γ δ) := ⟨fun K mg H v a r => by cases r; intro h; cases h⟩
instance {α β γ δ ε : Type} [Enc α] [Enc β] [Enc γ] [Enc δ] [Enc ε] : NN (T5 α β γ δ ε) := ⟨fun K mg H v a r => by cases r; intro h; cases h⟩
theorem opt_non [NN α] {K : PySem.W.Frag} {mg : Str → Option Value} {H : Hp} {v : V} {o : Option α} (r : R K mg H v (enc o)) : decide (v = .non) = o.isNone := by
  cases o with
  | none => cases r; rfl
  | some a =>
    have h := NN.nn K mg H v a r
    simp [h]
theorem ve_isN [NN α] {j : Nat} {pc : Pos} {m : M (Option α)} (ha : VX true X Γ a m) : VX w X Γ (.Compare a [.Is] [.Constant .none j pc] pos) (m >>= fun o => M.ok o.isNone) :=
  (ve_cmp (β := Unit) (w := w) (f := fun (o : Option α) (_ : Unit) => M.ok o.isNone) op_isN ha ve_non (nomark _) (fun x y H v u r1 r2 Q o => by
    cases r2
    exact ⟨rfl, by rw [opt_non r1]; exact o⟩) fun _ _ _ z => nomatch z).congr (by cases m <;> rfl)
theorem ve_isNN [NN α] {j : Nat} {pc : Pos} {m : M (Option α)} (ha : VX true X Γ a m) : VX w X Γ (.Compare a [.IsNot] [.Constant .none j pc] pos) (m >>= fun o => M.ok o.isSome) :=
  (ve_cmp (β := Unit) (w := w) (f := fun (o : Option α) (_ : Unit) => M.ok o.isSome) op_notN ha ve_non (nomark _) (fun x y H v u r1 r2 Q o => by
    cases r2
    refine ⟨rfl, ?_⟩
    rw [opt_non r1]
    cases x
    · exact o
    · exact o) fun _ _ _ z => nomatch z).congr (by cases m <;> rfl)

/-! ### isinstance -/
class PyT (α : Type) [Enc α] where
  nm : α → String
  ty : ∀ (K : PySem.W.Frag) (mg : Str → Option Value) (H : Hp) (v : V) (a : α), R K mg H v (enc a) → TyX K H v (.type (nm a))
instance : PyT Int := ⟨fun _ => "int", fun K mg H v a r => by cases r; exact .base (.int _)⟩
instance : PyT Bool := ⟨fun _ => "bool", fun K mg H v a r => by cases r; exact .base (.bl _)⟩
instance : PyT Str := ⟨fun _ => "str", fun K mg H v a r => by cases r; exact .base (.str _)⟩
instance : PyT Unit := ⟨fun _ => "NoneType", fun K mg H v a r => by cases r; exact .base .non⟩
theorem ty_lst {K : PySem.W.Frag} {mg : Str → Option Value} {H : Hp} {v : V} {l : List D} (r : R K mg H v (.lst l)) : TyX K H v (.type "list") := by
  obtain ⟨p, xs, rfl, h, q⟩ := r.lst_inv
  rcases h with (h | ⟨o, h⟩) | ⟨o, its, n, h, hc, _⟩
  · exact .base (.lst h)
  · exact .base (.frz h)
  · exact .kList h hc
theorem ty_tup {K : PySem.W.Frag} {mg : Str → Option Value} {H : Hp} {v : V} {l : List D} (r : R K mg H v (.tup l)) : TyX K H v (.type "tuple") := by
  obtain ⟨p, xs, rfl, h, q⟩ := r.tup_inv
  rcases h with (h | ⟨o, h⟩) | ⟨o, its, n, h, hc, _⟩
  · exact .base (.tup h)
  · exact .fTuple h
  · exact .kTuple h hc
instance {α : Type} [Enc α] : PyT (List α) := ⟨fun _ => "list", fun K mg H v a r => ty_lst r⟩
instance {α : Type} [Enc α] : PyT (Tup α) := ⟨fun _ => "tuple", fun K mg H v a r => ty_tup r⟩
instance {α β : Type} [Enc α] [Enc β] : PyT (α × β) := ⟨fun _ => "tuple", fun K mg H v a r => ty_tup r⟩
instance {α β γ : Type} [Enc α] [Enc β] [Enc γ] : PyT (T3 α β γ) := ⟨fun _ => "tuple", fun K mg H v a r => ty_tup r⟩
instance {α β γ δ : Type} [Enc α] [Enc β] [Enc γ] [Enc δ] : PyT (T4 α β γ δ) := ⟨fun _ => "tuple", fun K mg H v a r => ty_tup r⟩
instance {α β γ δ ε : Type} [Enc α] [Enc β] [Enc γ] [Enc δ] [Enc ε] : PyT (T5 α β γ δ ε) := ⟨fun _ => "tuple", fun K mg H v a r => ty_tup r⟩
instance {α : Type} [Enc α] [P : PyT α] : PyT (Option α) := ⟨fun o => match o with | none => "NoneType" | some a => P.nm a, fun K mg H v a r => by
  cases a with
  | none => cases r; exact .base .non
  | some a => exact P.ty K mg H v a r⟩
instance {α β : Type} [Enc α] [Enc β] [P : PyT α] [Q : PyT β] : PyT (α ⊕ β) := ⟨fun o => match o with | .inl a => P.nm a | .inr a => Q.nm a, fun K mg H v a r => by
  cases a with
  | inl a => exact P.ty K mg H v a r
  | inr a => exact Q.ty K mg H v a r⟩
theorem ve_isi [P : PyT α] {m : M α} {T : Str} {n : String} {pt : Pos} (f : α → Bool) (hm : X.mg "isinstance" = none) (hT : X.mg T = none) (ha : VX true X Γ a m) (hf : ∀ x : α, kitB (P.nm x) n = some (f x)) (hv : bootBuiltins T = some (.type n) := by decide +kernel) (hg : Gl X "isinstance" := by rfl) (hgT : Gl X T := by rfl) (hnT : T ≠ "__name__" := by decide) (hdT : (T == ("__debug__" : Str)) = false := by decide)
    (hs : starEach [a, .Name T pt] X.env = (false, eval a X.env) :: starEach [.Name T pt] X.env := by rfl) (hs2 : starEach [.Name T pt] X.env = (false, eval (.Name T pt) X.env) :: starEach [] X.env := by rfl) (hpl : (backTo pos (starEach [.Name T pt] X.env)).any (·.1) = false := by rfl) :
    VX w X Γ (.Call (.Name "isinstance" p) [a, .Name T pt] [] pos) (m >>= fun x => M.ok (f x)) := fun W tk σ I H T' mw Q o => by
  refine to_t (pe_callB call_isi hg hm (by decide +kernel) (pa_cons pe_of (pa_cons (pe_bltn (v := .ty n) hgT hT hv rfl hnT hdT) pa_nil hs2) hs) (by decide) (by decide) hs hpl) ?_
  refine ha.ap tk mw o.bind (fun x _ o1 v I1 H1 g1 r1 => ?_) fun _ z => z
  exact ⟨v, .ty n, .type (P.nm x), .type n, f x, rfl, .ty n, P.ty _ _ _ _ _ (r1 : R X.K X.mg H1 v (enc x)), kit_ty (hf x), o1 _ I1 H1 g1 (.bl _)⟩

theorem ve_isiS [P : PyT α] {m : M α} {T : Str} {n : String} {pt : Pos} (n0 : String) (f : Bool) (hm : X.mg "isinstance" = none) (hT : X.mg T = none) (ha : VX true X Γ a m) (hn0 : ∀ x : α, P.nm x = n0) (hf : kitB n0 n = some f) (hv : bootBuiltins T = some (.type n) := by decide +kernel) (hg : Gl X "isinstance" := by rfl) (hgT : Gl X T := by rfl) (hnT : T ≠ "__name__" := by decide) (hdT : (T == ("__debug__" : Str)) = false := by decide)
    (hs : starEach [a, .Name T pt] X.env = (false, eval a X.env) :: starEach [.Name T pt] X.env := by rfl) (hs2 : starEach [.Name T pt] X.env = (false, eval (.Name T pt) X.env) :: starEach [] X.env := by rfl) (hpl : (backTo pos (starEach [.Name T pt] X.env)).any (·.1) = false := by rfl) :
    VX w X Γ (.Call (.Name "isinstance" p) [a, .Name T pt] [] pos) (m >>= fun x => M.ok f) := ve_isi (fun _ => f) hm hT ha (fun x => by rw [hn0 x]; exact hf) hv hg hgT hnT hdT hs hs2 hpl

/-! ### plain forms of statements -/
theorem vs_retp {x : α} {t : τ} (he : VE X Γ e (M.ok x)) (hr : E.rt Γ (.imm (enc x)) t) (hs : Sub Γ Γx) : VS X Γ Γx (.Return (some e) pos :: rest) E (.ok t) := fun W tk I0 H0 σ I H T mt D o => by
  refine seq_s (to_s1 (ps_ret pe_of) ?_)
  show tOf X e σ H _
  refine he.ap tk mt.mw (P := fun _ => True) (E := fun _ => False) trivial (fun a q _ v I1 H1 g1 r1 => ?_) fun _ z => z.elim
  cases q
  have mt1 := mt.gr g1
  exact o.rt _ σ _ v I1 H1 [] T hr mt1.wd mt1.sl (.imm r1)
theorem vs_ifxp {a : List Stmt} {x : Bool} {m1 m2 : M τ} (hc : VT X Γ c (.ok x)) (ha : VS X Γ Γx a { E with nx := fun _ _ => False } m1) (hb : VS X Γ Γx rest E m2) (hs : Sub Γ Γx) : VS X Γ Γx (.If c a [] pos :: rest) E (if x then m1 else m2) := vs_ifx (b := []) hc ha hb hs
theorem vs_ifxxp {a b : List Stmt} {x : Bool} {m1 m2 : M τ} (hc : VT X Γ c (.ok x)) (ha : VS X Γ Γx a { E with nx := fun _ _ => False } m1) (hb : VS X Γ Γx b { E with nx := fun _ _ => False } m2) (hs : Sub Γ Γx) : VS X Γ Γx (.If c a b pos :: rest) E (if x then m1 else m2) := vs_ifxx hc ha hb hs
theorem vs_iflp {a b : List Stmt} {x : Bool} {m1 m2 : M τ} (hc : VT X Γ c (.ok x)) (ha : VS X Γ Γx a E m1) (hb : VS X Γ Γx b E m2) (hs : Sub Γ Γx) : VS X Γ Γx [.If c a b pos] E (if x then m1 else m2) := vs_ifl hc ha hb hs
theorem vs_ifjp {S : Type} (F : S → List SL) {a b : List Stmt} {x : Bool} {m1 m2 : M S} {k : S → M τ} (hc : VT X Γ c (.ok x)) (ha : VS X Γ Γx a (eNx F) m1) (hb : VS X Γ Γx b (eNx F) m2) (hk : ∀ s, VS X (F s) Γx rest E (k s)) (hs : Sub Γ Γx) :
    VS X Γ Γx (.If c a b pos :: rest) E ((if x then m1 else m2) >>= k) := vs_ifj F hc ha hb hk hs
theorem vs_ifgp {S : Type} (F : S → List SL) {a b : List Stmt} {x : Bool} {m1 m2 : M (Jn S τ)} {k : S → M τ} (hc : VT X Γ c (.ok x)) (ha : VS X Γ Γx a (eJn F E) m1) (hb : VS X Γ Γx b (eJn F E) m2) (hk : ∀ s, VS X (F s) Γx rest E (k s)) (hs : Sub Γ Γx) :
    VS X Γ Γx (.If c a b pos :: rest) E ((if x then m1 else m2) >>= fun j => j.on k) := vs_ifg F hc ha hb hk hs
/-- a test whose answer is known -/
theorem vs_ifT {a b : List Stmt} {m1 : M τ} (hc : VT X Γ c (.ok true)) (ha : VS X Γ Γx a { E with nx := fun _ _ => False } m1) (hs : Sub Γ Γx) : VS X Γ Γx (.If c a b pos :: rest) E m1 := fun W tk I0 H0 σ I H T mt D o => by
  refine seq_s (to_s1 (ps_if pt_of pss_of pss_of) ?_)
  show kOf X c σ H _
  refine hc.ap tk mt.mw (P := fun _ => True) (E := fun _ => False) trivial (fun x q _ I1 H1 g1 => ?_) fun _ z => z.elim
  cases q
  exact iteT (ha W tk I0 H0 σ I1 H1 T (mt.gr g1) _ (o.mono (fun t _ d => ⟨fun _ _ _ _ _ z => z.elim, d.bk, d.ct, d.rt⟩) fun _ _ z => z))
theorem vs_ifF {a : List Stmt} {m1 : M τ} (hc : VT X Γ c (.ok false)) (ha : VS X Γ Γx rest E m1) (hs : Sub Γ Γx) : VS X Γ Γx (.If c a [] pos :: rest) E m1 := fun W tk I0 H0 σ I H T mt D o => by
  refine seq_s (to_s1 (ps_if pt_of pss_of pss_of) ?_)
  show kOf X c σ H _
  refine hc.ap tk mt.mw (P := fun _ => True) (E := fun _ => False) trivial (fun x q _ I1 H1 g1 => ?_) fun _ z => z.elim
  cases q
  exact iteF (to_s pss_nil (rest_s ha tk (mt.gr g1) o))
end

/-! ### facts of the text -/
/-- a def as the top has left it -/
structure DefAt (K : PySem.W.Frag) (mg : Str → Option Value) (x : Str) (st : Stmt) (f : Addr) (fd : FuncData) (ps : List Str) : Prop where
  F : Fun K x x st f fd
  g : mg x = some (.ref f)
  b : Binds K fd ps []
/-- an own class of errors without __init__ -/
structure ExcCls (K : PySem.W.Frag) (mg : Str → Option Value) (x : Str) : Prop where
  ex : ∃ C, mg x = some (.ref C) ∧ PySem.W.excIn K C [.type "ValueError", .type "Exception", .type "BaseException", .type "object"] "ValueError.__new__" = true ∧ PySem.W.keepIn K (.ref C) = true ∧ PySem.W.subIn K (.ref C) (.type "BaseException") = some true ∧ PySem.W.typeIn K (.ref C) = some (.type "type")
theorem vs_raiseT {X : Cx} {Γ Γx : List SL} {rest : List Stmt} {τ : Type} {E : Eds τ} {x : Str} {msg : Str} {j : Nat} {p pc p2 pos : Pos} (T : ExcCls X.K X.mg x) (hc : X.calm = true) (hs : Sub Γ Γx) (hg : Gl X x := by rfl) (hdb : (x == ("__debug__" : Str)) = false := by decide) :
    VS X Γ Γx (.Raise (some (.Call (.Name x p) [.Constant (.str msg) j p2] [] pc)) none pos :: rest) E (.exc ⟨x, []⟩) := by
  obtain ⟨C, h1, h2, h3, h4, h5⟩ := T.ex
  exact vs_raise PySem.F.excBase_ValueError h2 h1 h3 (raises_own h4 h5) hc hs hg hdb
/-- the law's promise -/
theorem law_sp {K : PySem.W.Frag} {mg : Str → Option Value} {m : List Int × Unit → M Bool} (h : ∀ ns : List Int, ns.length ≤ 63 → m (ns, ()) = .ok true) {H : Hp} {a : Addr} {ns : List Int} (hl : ns.length ≤ 63) (hS : SqL K H a (ns.map V.int)) :
    spF K mg e1 (fun r : Bool => O.imm (enc r)) m [.ref a] H (fun v _ => v = .bl true) fun _ _ _ => False := by
  refine ⟨H, (ns, ()), .refl _, .cons (.lst hS ?_) .nil, ?_⟩
  · exact Rs.of_ints
  · rw [h ns hl]
    intro v I' H' T wd q
    cases q with
    | imm r => cases r; rfl
theorem cx_no {P : Program} {w : World} {H : Hp} {s : Shared} {e : Value} {s' : Shared} (h : L2N.CX P w [] H s (fun _ _ _ => False) e s') : False := by
  obtain ⟨_, _, _, _, _, _, _, _, _, _, _, _, z⟩ := h
  exact z
end Vc

set_option Elab.async false
set_option linter.all false
set_option maxRecDepth 100000
namespace Vc
open PySem PySem.Spec PyProof.Rows L2
open Enc (enc)
section
variable {X : Cx} {Γ Γx : List SL} {e a b c : Expr} {es : List Expr} {rest : List Stmt} {pos p : Pos} {α β γ : Type} [Enc α] [Enc β] [Enc γ] {w w' : Bool} {τ : Type} {E : Eds τ} {x : Str}
theorem ve_gint {n : Int} (h : ∃ t, X.mg x = some (.int n t)) (hg : Gl X x) (hd : (x == ("__debug__" : Str)) = false := by decide) : VX w X Γ (.Name x p) (M.ok n) := by
  obtain ⟨t, h⟩ := h
  exact ve_glob hg h (v := .int n) ⟨t, rfl⟩ (fun H => .int n) hd
theorem ve_gdat {k : α} (h : ∃ q, X.mg x = some (.ref q) ∧ ∀ H, R X.K X.mg H (.ref q) (enc k)) (hg : Gl X x) (hd : (x == ("__debug__" : Str)) = false := by decide) : VX w X Γ (.Name x p) (.ok k) := by
  obtain ⟨q, h, r⟩ := h
  exact ve_glob hg h (v := .ref q) rfl r hd
theorem ve_chainp {op op' : CmpOp} {p1 p2 : Int → Int → Bool} {x y z : Int} (ho : OpR X (compareOp op) (rI0 fun i j => .bl (p1 i j))) (ho' : OpR X (compareOp op') (rI0 fun i j => .bl (p2 i j))) (ha : VX true X Γ a (.ok x)) (hb : VX true X Γ b (.ok y)) (hc : VX true X Γ c (.ok z))
    (h1 : lastMarks [op, op'] [b, c] = false := by with_unfolding_all rfl) : VX w X Γ (.Compare a [op, op'] [b, c] pos) (M.ok (p1 x y && p2 y z)) := by
  have h := ve_chain (w := w) (pos := pos) ho ho' ha hb hc h1
  refine h.congr ?_
  show bAnd (M.ok (p1 x y)) (M.ok (p2 y z)) = _
  exact bAnd_ok _ _
theorem VX.some {m : M α} (h : VX w X Γ e m) : VX w X Γ e (m >>= fun x => M.ok (some x : Option α)) := fun W tk σ I H T mw Q o => h W tk σ I H T mw Q (o.bind.mono (fun a _ k v I' H' g r => k v I' H' g r) fun _ _ z => z)
theorem VX.none_ {m : M Unit} (h : VX w X Γ e m) : VX w X Γ e (m >>= fun _ => M.ok (Option.none : Option α)) := fun W tk σ I H T mw Q o => h W tk σ I H T mw Q (o.bind.mono (fun a _ k v I' H' g r => k v I' H' g r) fun _ _ z => z)
theorem VX.inl {m : M α} (h : VX w X Γ e m) : VX w X Γ e (m >>= fun x => M.ok (.inl x : α ⊕ β)) := fun W tk σ I H T mw Q o => h W tk σ I H T mw Q (o.bind.mono (fun a _ k v I' H' g r => k v I' H' g r) fun _ _ z => z)
theorem VX.inr {m : M β} (h : VX w X Γ e m) : VX w X Γ e (m >>= fun x => M.ok (.inr x : α ⊕ β)) := fun W tk σ I H T mw Q o => h W tk σ I H T mw Q (o.bind.mono (fun a _ k v I' H' g r => k v I' H' g r) fun _ _ z => z)
theorem vs_stuck {sts : List Stmt} : VS X Γ Γx sts E (M.stuck : M τ) := fun W tk I0 H0 σ I H T mt D o => o.elim
theorem VS.chk {sts : List Stmt} {P : Prop} [Decidable P] {k : Unit → M τ} (h : P → VS X Γ Γx sts E (k ())) : VS X Γ Γx sts E (Vc.chk P >>= k) := fun W tk I0 H0 σ I H T mt D o => by
  obtain ⟨hp, o⟩ := o.chk
  exact h hp W tk I0 H0 σ I H T mt D o

/-- written ints -/
inductive CInts : List Expr → List Int → Prop
  | nil : CInts [] []
  | cons {i : Int} {j : Nat} {pos : Pos} {es : List Expr} {l : List Int} : CInts es l → CInts (.Constant (.int i) j pos :: es) (i :: l)
theorem va_ints {l : List Int} (h : CInts es l) : VA w X Γ es (fun _ : Unit => l.map D.int) (M.ok ()) := by
  induction h with
  | nil => exact fun W tk σ I H T mw Q o => to_a pa_nil (o [] I H (.refl mw.ih) .nil)
  | cons h ih =>
    intro W tk σ I H T mw Q o
    refine to_a (pa_cons pe_of pa_of) (VX.ap (w := w) ve_int tk mw (P := fun _ => True) (E := fun _ => False) trivial (fun x q _ v I1 H1 g1 r1 => ?_) fun _ z => z.elim)
    cases q
    refine ih W tk σ I1 H1 T (mw.gr g1) _ ?_
    intro vs I2 H2 g2 r2
    exact o (v :: vs) I2 H2 (g1.trans g2) (.cons (r1.mono (wsel_same g2)) r2)
def rdInts : List Expr → Option (List Int)
  | [] => some []
  | .Constant (.int i) _ _ :: es => match rdInts es with | some l => some (i :: l) | none => none
  | _ => none
theorem rdInts_ok : ∀ (es : List Expr) (l : List Int), rdInts es = some l → CInts es l := by
  intro es
  induction es with
  | nil => intro l h; cases h; exact .nil
  | cons e es ih =>
    intro l h
    unfold rdInts at h
    split at h
    · rename_i h1; cases h1
    · rename_i i j p es' h1
      cases h1
      split at h
      · rename_i l' h2
        cases h
        exact .cons (ih l' h2)
      · cases h
    · cases h
theorem ve_tupK {l : List Int} {k : Nat} (h0 : rdInts es = some l := by decide +kernel) (hz : Nat.ble l.length sizeLine = true := by decide +kernel) : VX w X Γ (.Tuple es k pos) (M.ok (⟨l⟩ : Tup Int)) := VX.le fun W tk σ I H T mw Q o => by
  have h := rdInts_ok _ _ h0
  refine to_t (pe_tup pa_of) (VA.ap (w := false) (va_ints h) tk mw (P := fun _ => True) (E := fun _ => False) trivial (fun x q _ vs I1 H1 g1 r1 => ⟨by rw [r1.length, List.length_map]; exact Nat.le_of_ble_eq_true hz, fun p hp => ?_⟩) fun _ z => z.elim)
  refine o _ _ _ (g1.trans (Gr.new g1.ih hp)) ?_
  exact .tup (.of upd_same) (r1.mono (Gr.new g1.ih hp).i0)

/-! ### walks -/
theorem vi_rangeK {tg : Expr} {n : Int} (hm : X.mg "range" = none) (h : VX true X Γ a (M.ok n)) (hn : rOk n) (hg : Gl X "range" := by rfl) (hs : starEach [a] X.env = [(false, eval a X.env)] := by rfl) : VI X Γ tg (.Call (.Name "range" p) [a] [] pos) (M.ok (rng 0 n)) := by
  have h2 := vi_range1 (tg := tg) (p := p) (pos := pos) hm h hg hs
  refine h2.congr ?_
  show (Vc.chk (rOk n) >>= fun _ => M.ok (rng 0 n)) = _
  rw [chk_ok hn]; rfl
/-- range(a, b, -1) -/
def rngD (a b : Int) : List Int := (List.range (a - b).toNat).map fun i : Nat => a - (i : Int)
theorem rngD_get {a b : Int} {i : Nat} {x : Int} (h : (rngD a b)[i]? = some x) : i < (a - b).toNat ∧ x = a - (i : Int) := by
  unfold rngD at h
  rw [List.getElem?_map] at h
  by_cases hi : i < (a - b).toNat
  · rw [List.getElem?_range hi] at h
    exact ⟨hi, (Option.some.inj h).symm⟩
  · rw [List.getElem?_eq_none (by rw [List.length_range]; omega)] at h
    cases h
theorem rngD_length (a b : Int) : (rngD a b).length = (a - b).toNat := by unfold rngD; rw [List.length_map, List.length_range]
theorem vi_rangeD {tg : Expr} {m1 m2 : M Int} (hm : X.mg "range" = none) (h : VX true X Γ a m1) (h2 : VX true X Γ b m2) (h3 : VX true X Γ c (M.ok (-1 : Int))) (hg : Gl X "range" := by rfl)
    (hs : starEach [a, b, c] X.env = (false, eval a X.env) :: starEach [b, c] X.env := by rfl) (hs2 : starEach [b, c] X.env = (false, eval b X.env) :: starEach [c] X.env := by rfl) (hs3 : starEach [c] X.env = (false, eval c X.env) :: starEach [] X.env := by rfl) (hpl : (backTo pos (starEach [b, c] X.env)).any (·.1) = false := by rfl) :
    VI X Γ tg (.Call (.Name "range" p) [a, b, c] [] pos) (m1 >>= fun x => m2 >>= fun y => Vc.chk (rOk x ∧ rOk y) >>= fun _ => M.ok (rngD x y)) := fun W tk σ I H T mw R o => by
  refine to_i (pi_range3 hg hm (pa_cons pe_of (pa_cons pe_of (pa_cons pe_of pa_nil hs3) hs2) hs) hs hpl) (h.ap tk mw o.bind (fun x _ o1 v I1 H1 g1 r1 => ?_) fun _ z => z)
  refine h2.ap tk (mw.gr g1) o1.bind (fun y _ o2 u I2 H2 g2 r2 => ?_) fun _ z => z.gr g1
  refine h3.ap tk ((mw.gr g1).gr g2) (P := fun _ => True) (E := fun _ => False) trivial (fun z q _ t I3 H3 g3 r3 => ?_) fun _ z => z.elim
  cases q
  cases r1; cases r2; cases r3
  obtain ⟨⟨⟨h1, h2⟩, h3, h4⟩, o3⟩ := o2.chk
  refine ⟨x, y, -1, (x - y).toNat, rfl, RgC.neg h1 h2 h3 h4, o3 _ I3 H3 ((g1.trans g2).trans g3) fun i I4 H4 s1 s2 => ⟨fun z hz => ?_, fun h => by rw [rngD_length] at h; exact h⟩⟩
  obtain ⟨hi, rfl⟩ := rngD_get hz
  refine ⟨hi, fun v H5 q => ?_⟩
  obtain ⟨rfl, rfl⟩ := q
  refine ⟨I4, .refl s2, ?_⟩
  rw [show x + (i : Int) * (-1) = x - (i : Int) by omega]
  exact .int _
def enumL {α : Type} (l : List α) : List (Int × α) := l.zipIdx.map fun p => ((p.2 : Int), p.1)
theorem enumL_get {l : List α} {i : Nat} {q : Int × α} (h : (enumL l)[i]? = some q) : l[i]? = some q.2 ∧ q.1 = (i : Int) := by
  unfold enumL at h
  rw [List.getElem?_map, List.getElem?_zipIdx] at h
  cases e : l[i]? with
  | none => rw [e] at h; cases h
  | some a =>
    rw [e] at h
    have h : (((0 + i : Nat) : Int), a) = q := Option.some.inj h
    subst h
    exact ⟨rfl, by simp⟩
theorem enumL_length (l : List α) : (enumL l).length = l.length := by unfold enumL; rw [List.length_map, List.length_zipIdx]
theorem vi_enum {elts : List Expr} {kk : Nat} {tpos : Pos} {m : M (List α)} (hm : X.mg "enumerate" = none) (h : VX false X Γ e m) (hg : Gl X "enumerate" := by rfl) (hs : starEach [e] X.env = [(false, eval e X.env)] := by rfl) : VI X Γ (.Tuple elts kk tpos) (.Call (.Name "enumerate" p) [e] [] pos) (m >>= fun l => M.ok (enumL l)) := fun W tk σ I H T mw R o => by
  refine to_i (pi_enum hg hm (pa_cons pe_of pa_nil hs) hs) (h.ap tk mw o.bind (fun l _ k v I1 H1 g1 r1 => ?_) fun _ z => z)
  obtain ⟨p, xs, rfl, hq, rs⟩ := Vc.R.lst_inv r1
  refine ⟨p, xs, rfl, g1.ih.seq hq, k _ I1 H1 g1 fun i I2 H2 s1 s2 => ⟨fun a ha => ?_, fun hi => ⟨xs, (s1.trans s2).seq hq, by rw [rs.length, List.length_map]; rw [enumL_length] at hi; exact hi⟩⟩⟩
  obtain ⟨h1, h2⟩ := enumL_get ha
  obtain ⟨v, e1, r2⟩ := (rs.mono s1).get (i := i) (x := enc a.2) (by rw [List.getElem?_map, h1]; rfl)
  refine ⟨⟨xs, v, (s1.trans s2).seq hq, e1⟩, fun x H3 y => ?_⟩
  obtain ⟨T2, z, rfl, hT, rfl, y⟩ := y
  rw [y xs ((s1.trans s2).seq hq)] at e1
  cases e1
  refine ⟨_, Gr.new s2 hT, ?_⟩
  refine .tup (.of upd_same) (.cons ?_ (.cons (r2.mono (Gr.new s2 hT).i0) .nil))
  rw [h2]
  exact .int _
theorem vi_zip {elts : List Expr} {kk : Nat} {tpos : Pos} {m1 : M (List α)} {m2 : M (List β)} (hm : X.mg "zip" = none) (h : VX false X Γ a m1) (h2 : VX false X Γ b m2) (hg : Gl X "zip" := by rfl) (hs : starEach [a, b] X.env = (false, eval a X.env) :: starEach [b] X.env := by rfl) (hs2 : starEach [b] X.env = (false, eval b X.env) :: starEach [] X.env := by rfl) (hpl : (backTo pos (starEach [b] X.env)).any (·.1) = false := by rfl) :
    VI X Γ (.Tuple elts kk tpos) (.Call (.Name "zip" p) [a, b] [] pos) (m1 >>= fun x => m2 >>= fun y => M.ok (x.zip y)) := fun W tk σ I H T mw R o => by
  refine to_i (pi_zip hg hm (pa_cons pe_of (pa_cons pe_of pa_nil hs2) hs) hs hpl) (h.ap tk mw o.bind (fun l _ o1 v I1 H1 g1 r1 => ?_) fun _ z => z)
  refine h2.ap tk (mw.gr g1) o1.bind (fun l2 _ k u I2 H2 g2 r2 => ?_) fun _ z => z.gr g1
  obtain ⟨p, xs, rfl, hq, rs⟩ := Vc.R.lst_inv (r1.mono g2.i0)
  obtain ⟨p2, ys, rfl, hq2, rs2⟩ := Vc.R.lst_inv r2
  refine ⟨p, p2, xs, ys, rfl, g2.ih.seq hq, g2.ih.seq hq2, k _ I2 H2 (g1.trans g2) fun i I3 H3 s1 s2 => ⟨fun a ha => ?_, fun hi => ⟨xs, ys, (s1.trans s2).seq hq, (s1.trans s2).seq hq2, by rw [rs.length, rs2.length, List.length_map, List.length_map]; rw [List.length_zip] at hi; omega⟩⟩⟩
  have ⟨h1, h3⟩ : l[i]? = some a.1 ∧ l2[i]? = some a.2 := by
    rw [List.getElem?_zip_eq_some] at ha
    exact ha
  obtain ⟨v, e1, r3⟩ := (rs.mono s1).get (i := i) (x := enc a.1) (by rw [List.getElem?_map, h1]; rfl)
  obtain ⟨v2, e2, r4⟩ := (rs2.mono s1).get (i := i) (x := enc a.2) (by rw [List.getElem?_map, h3]; rfl)
  refine ⟨⟨xs, ys, v, v2, (s1.trans s2).seq hq, (s1.trans s2).seq hq2, e1, e2⟩, fun x H4 y => ?_⟩
  obtain ⟨T2, z, z2, rfl, hT, rfl, y1, y2⟩ := y
  rw [y1 xs ((s1.trans s2).seq hq)] at e1
  rw [y2 ys ((s1.trans s2).seq hq2)] at e2
  cases e1; cases e2
  exact ⟨_, Gr.new s2 hT, .tup (.of upd_same) (.cons (r3.mono (Gr.new s2 hT).i0) (.cons (r4.mono (Gr.new s2 hT).i0) .nil))⟩
theorem vi_rev {tg : Expr} {m : M (List α)} (hm : X.mg "reversed" = none) (h : VX false X Γ e m) (hg : Gl X "reversed" := by rfl) (hs : starEach [e] X.env = [(false, eval e X.env)] := by rfl) : VI X Γ tg (.Call (.Name "reversed" p) [e] [] pos) (m >>= fun l => M.ok l.reverse) := fun W tk σ I H T mw R o => by
  refine to_i (pi_reversed hg hm (pa_cons pe_of pa_nil hs) hs) (h.ap tk mw o.bind (fun l _ k v I1 H1 g1 r1 => ?_) fun _ z => z)
  obtain ⟨p, xs, rfl, hq, rs⟩ := Vc.R.lst_inv r1
  have hl : xs.length = l.length := by rw [rs.length, List.length_map]
  refine ⟨p, xs, rfl, g1.ih.seq hq, k _ I1 H1 g1 fun i I2 H2 s1 s2 => ⟨fun a ha => ?_, fun hi => by rw [List.length_reverse] at hi; rw [← hl] at hi; exact hi⟩⟩
  have hi : i < l.length := by
    have := (List.getElem?_eq_some_iff.mp ha).1
    rwa [List.length_reverse] at this
  have ha' : l[l.length - 1 - i]? = some a := by rw [← List.getElem?_reverse hi]; exact ha
  obtain ⟨v, e1, r2⟩ := (rs.mono s1).get (i := l.length - 1 - i) (x := enc a) (by rw [List.getElem?_map, ha']; rfl)
  rw [← hl] at e1
  refine ⟨⟨by rw [hl]; exact hi, xs, v, (s1.trans s2).seq hq, e1⟩, fun x H3 y => ?_⟩
  obtain ⟨rfl, y⟩ := y
  rw [y xs ((s1.trans s2).seq hq)] at e1
  cases e1
  exact ⟨I2, .refl s2, r2⟩

theorem ve_lenP {k : Int} {m : M α} (hm : X.mg "len" = none) (h : VX true X Γ e m) (hk : ∀ x : α, ∃ ds, enc x = .tup ds ∧ (ds.length : Int) = k := by exact fun _ => ⟨_, rfl, rfl⟩) (hg : Gl X "len" := by rfl) (hs : starEach [e] X.env = (false, eval e X.env) :: starEach [] X.env := by rfl) : VX w X Γ (.Call (.Name "len" p) [e] [] pos) (m >>= fun _ => M.ok k) := by
  have q := ve_bcall (w := w) (f := fun a : α × Unit => M.ok k) (p := p) (pos := pos) call_len_seq hg hm boot_len (va_cons h va_nil hs) (fun a vs I H s rs Q o => by
    obtain ⟨v, rfl, r⟩ := rs.one
    obtain ⟨ds, e1, e2⟩ := hk a.1
    rw [e1] at r
    obtain ⟨p, xs, rfl, hq, rs⟩ := r.tup_inv
    refine ⟨p, xs, rfl, .inr hq, ?_⟩
    rw [rs.length, e2]
    exact o _ I H (.refl s) (.int _)) (fun _ _ z => nomatch z) (he := hs)
  refine q.congr ?_
  cases m <;> rfl

/-! ### more lists -/
theorem vo_rev {j : Nat} {p1 p2 p3 : Pos} {m : M (List α)} (h : VX false X Γ e m) : VO X Γ (.Subscript e (.Slice none none (some (.UnaryOp .USub (.Constant (.int 1) j p1) p2)) p3) pos) ow1 (m >>= fun l => M.ok l.reverse) := fun W tk σ I H T mw Q o => by
  refine to_t (pe_revL pe_of) (h.ap tk mw o.bind (fun l _ o1 v I1 H1 g1 r1 => ?_) fun _ z => z)
  obtain ⟨p, xs, rfl, hq, rs⟩ := r1.lst_inv
  refine ⟨p, xs, rfl, g1.ih.seq hq, fun q hq => o1 _ I1 _ [q] (by have := Wd.ow g1 (fun _ z => nomatch z) (Wd.new (o := .lst xs.reverse) g1.ih hq); simpa using this) (ow1_new ?_)⟩
  rw [List.map_reverse]
  exact rs.reverse
theorem vo_revB [Atm α] {j : Nat} {p1 p2 p3 : Pos} {m : M (List α)} (h : VX true X Γ e m) : VO X Γ (.Subscript e (.Slice none none (some (.UnaryOp .USub (.Constant (.int 1) j p1) p2)) p3) pos) ow1 (m >>= fun l => M.ok l.reverse) := fun W tk σ I H T mw Q o => by
  refine to_t (pe_revL pe_of) (h.ap tk mw o.bind (fun l _ o1 v I1 H1 g1 r1 => ?_) fun _ z => z)
  obtain ⟨p, xs, rfl, hq, rs⟩ := r1.lst_inv
  refine ⟨p, xs, rfl, hq, fun q hq => o1 _ I1 _ [q] (by have := Wd.ow g1 (fun _ z => nomatch z) (Wd.new (o := .lst xs.reverse) g1.ih hq); simpa using this) (ow1_new ?_)⟩
  have h2 := rs.reverse
  rw [← List.map_reverse] at h2
  exact h2.atoms
theorem ve_tuple {m : M (List α)} (hm : X.mg "tuple" = none) (h : VX false X Γ e m) (hg : Gl X "tuple" := by rfl) (hs : starEach [e] X.env = (false, eval e X.env) :: starEach [] X.env := by rfl) : VX w X Γ (.Call (.Name "tuple" p) [e] [] pos) (m >>= fun l => M.ok (⟨l⟩ : Tup α)) := VX.le fun W tk σ I H T mw Q o => by
  refine to_t (pe_callTy call_tuple_of hg hm (by decide +kernel) (pa_cons pe_of pa_nil hs) (by decide) (by decide) hs (by rfl)) ?_
  refine h.ap tk mw o.bind (fun l _ o1 v I1 H1 g1 r1 => ?_) fun _ z => z
  obtain ⟨p, xs, rfl, hq, rs⟩ := Vc.R.lst_inv r1
  refine ⟨p, xs, rfl, .inl ⟨g1.ih.seq hq, fun q hq => o1 _ _ _ (g1.trans (Gr.new g1.ih hq)) ?_⟩⟩
  exact .tup (.of upd_same) (Rs.mono (Gr.new g1.ih hq).i0 rs)
theorem ve_tupleB [Atm α] {m : M (List α)} (hm : X.mg "tuple" = none) (h : VX true X Γ e m) (hg : Gl X "tuple" := by rfl) (hs : starEach [e] X.env = (false, eval e X.env) :: starEach [] X.env := by rfl) : VX w X Γ (.Call (.Name "tuple" p) [e] [] pos) (m >>= fun l => M.ok (⟨l⟩ : Tup α)) := VX.le fun W tk σ I H T mw Q o => by
  refine to_t (pe_callTy call_tuple_of hg hm (by decide +kernel) (pa_cons pe_of pa_nil hs) (by decide) (by decide) hs (by rfl)) ?_
  refine h.ap tk mw o.bind (fun l _ o1 v I1 H1 g1 r1 => ?_) fun _ z => z
  obtain ⟨p, xs, rfl, hq, rs⟩ := Vc.R.lst_inv r1
  refine ⟨p, xs, rfl, .inl ⟨hq, fun q hq => o1 _ _ _ (g1.trans (Gr.new g1.ih hq)) ?_⟩⟩
  exact .tup (.of upd_same) rs.atoms
theorem vo_listT {m : M (Tup α)} (hm : X.mg "list" = none) (h : VX false X Γ e m) (hg : Gl X "list" := by rfl) (hs : starEach [e] X.env = (false, eval e X.env) :: starEach [] X.env := by rfl) : VO X Γ (.Call (.Name "list" p) [e] [] pos) ow1 (m >>= fun t => M.ok t.l) := by
  have q := vo_tcall (w := false) (ow := ow1) (f := fun a : Tup α × Unit => M.ok a.1.l) (p := p) (pos := pos) call_list_of hg hm (by decide +kernel) (va_cons h va_nil hs) (fun a vs I H s rs Q o => by
    obtain ⟨v, rfl, r⟩ := rs.one
    obtain ⟨p, xs, rfl, hq, rs⟩ := r.tup_inv
    exact ⟨p, xs, rfl, .inr (Same.seqT s hq), fun l hl => o _ I _ [l] (Wd.new s hl) (ow1_new rs)⟩) (fun _ _ z => nomatch z) (he := hs)
  have e : (m >>= fun x => M.ok () >>= fun y => M.ok (x, y)) >>= (fun a : Tup α × Unit => M.ok a.1.l) = (m >>= fun t => M.ok t.l) := by cases m <;> rfl
  rw [← e]
  exact q
theorem ve_sum {m : M (List Int)} (hc : X.calm = true) (hm : X.mg "sum" = none) (h : VX true X Γ e m) (hg : Gl X "sum" := by rfl) (hs : starEach [e] X.env = (false, eval e X.env) :: starEach [] X.env := by rfl) : VX w X Γ (.Call (.Name "sum" p) [e] [] pos) (m >>= fun l => M.ok l.sum) := by
  have q := ve_bcall (w := w) (f := fun a : List Int × Unit => M.ok a.1.sum) (p := p) (pos := pos) (cr_sum hc) hg hm (by decide +kernel) (va_cons h va_nil hs) (fun a vs I H s rs Q o => by
    obtain ⟨v, rfl, r⟩ := rs.one
    obtain ⟨p, xs, rfl, hq, rs⟩ := r.lst_inv
    have e := rs.ints
    subst e
    exact ⟨p, a.1, rfl, hq, o _ I H (.refl s) (.int _)⟩) (fun _ _ z => nomatch z) (he := hs)
  refine q.congr ?_
  cases m <;> rfl
theorem ve_all {m : M (List Bool)} (hc : X.calm = true) (hm : X.mg "all" = none) (h : VX true X Γ e m) (hg : Gl X "all" := by rfl) (hs : starEach [e] X.env = (false, eval e X.env) :: starEach [] X.env := by rfl) : VX w X Γ (.Call (.Name "all" p) [e] [] pos) (m >>= fun l => M.ok (l.all id)) := by
  have q := ve_bcall (w := w) (f := fun a : List Bool × Unit => M.ok (a.1.all id)) (p := p) (pos := pos) (cr_all hc) hg hm (by decide +kernel) (va_cons h va_nil hs) (fun a vs I H s rs Q o => by
    obtain ⟨v, rfl, r⟩ := rs.one
    obtain ⟨p, xs, rfl, hq, rs⟩ := r.lst_inv
    have e := rs.bools
    subst e
    exact ⟨p, a.1, rfl, hq, o _ I H (.refl s) (.bl _)⟩) (fun _ _ z => nomatch z) (he := hs)
  refine q.congr ?_
  cases m <;> rfl
theorem ve_any {m : M (List Bool)} (hc : X.calm = true) (hm : X.mg "any" = none) (h : VX true X Γ e m) (hg : Gl X "any" := by rfl) (hs : starEach [e] X.env = (false, eval e X.env) :: starEach [] X.env := by rfl) : VX w X Γ (.Call (.Name "any" p) [e] [] pos) (m >>= fun l => M.ok (l.any id)) := by
  have q := ve_bcall (w := w) (f := fun a : List Bool × Unit => M.ok (a.1.any id)) (p := p) (pos := pos) (cr_any hc) hg hm (by decide +kernel) (va_cons h va_nil hs) (fun a vs I H s rs Q o => by
    obtain ⟨v, rfl, r⟩ := rs.one
    obtain ⟨p, xs, rfl, hq, rs⟩ := r.lst_inv
    have e := rs.bools
    subst e
    exact ⟨p, a.1, rfl, hq, o _ I H (.refl s) (.bl _)⟩) (fun _ _ z => nomatch z) (he := hs)
  refine q.congr ?_
  cases m <;> rfl
/-- list(range(..)): over the range as a value -/
theorem rgV_eq (a b : Int) : rgV a b = (rng a b).map V.int := by unfold rgV rng; rw [List.map_map]; rfl
def VR (X : Cx) (Γ : List SL) (e : Expr) (m : M (Int × Int)) : Prop :=
  ∀ (W : WX), L2N.Takes X W → ∀ σ I H T, Mw X.K X.mg Γ σ I H T → ∀ Q : Int → Int → Hp → Prop,
    Out m (fun a => ∀ I' H', Gr I H I' H' → Q a.1 a.2 H') (XO X W σ I H) → ∃ t, PRg X e t ∧ t σ H Q
theorem vr_1 {m : M Int} (hm : X.mg "range" = none) (h : VX true X Γ a m) (hg : Gl X "range" := by rfl) (na : starEach [a] X.env = (false, eval a X.env) :: starEach [] X.env := by rfl) : VR X Γ (.Call (.Name "range" p) [a] [] pos) (m >>= fun n => M.ok ((0 : Int), n)) := fun W tk σ I H T mw Q o =>
  ⟨_, prg_1 hg hm pe_of na, h.ap tk mw o.bind (fun n _ o1 v I1 H1 g1 r1 => by cases r1; exact ⟨n, rfl, o1 I1 H1 g1⟩) fun _ z => z⟩
theorem vr_2 {m1 m2 : M Int} (hm : X.mg "range" = none) (h : VX true X Γ a m1) (h2 : VX true X Γ b m2) (hg : Gl X "range" := by rfl) (na : starEach [a, b] X.env = (false, eval a X.env) :: starEach [b] X.env := by rfl) (nb : starEach [b] X.env = (false, eval b X.env) :: starEach [] X.env := by rfl) (hpl : (backTo pos (starEach [b] X.env)).any (·.1) = false := by rfl) : VR X Γ (.Call (.Name "range" p) [a, b] [] pos) (m1 >>= fun x => m2 >>= fun y => M.ok (x, y)) := fun W tk σ I H T mw Q o =>
  ⟨_, prg_2 hg hm pe_of pe_of na nb hpl, h.ap tk mw o.bind (fun x _ o1 v I1 H1 g1 r1 => h2.ap tk (mw.gr g1) o1.bind (fun y _ o2 u I2 H2 g2 r2 => by cases r1; cases r2; exact ⟨x, y, rfl, rfl, o2 I2 H2 (g1.trans g2)⟩) fun _ z => z.gr g1) fun _ z => z⟩
instance (a b : Int) : Decidable (RgOk a b) := by unfold RgOk; infer_instance
def rOf (X : Cx) (e : Expr) : L2.St → Hp → (Int → Int → Hp → Prop) → Prop := fun σ H Q => ∃ t, PRg X e t ∧ t σ H Q
theorem prg_of : PRg X e (rOf X e) := fun pins s σ H Q I h => by
  obtain ⟨t, p, q⟩ := h
  exact p pins s σ H Q I q
theorem vo_listR {m : M (Int × Int)} (hc : X.calm = true) (hm : X.mg "list" = none) (h : VR X Γ e m) (hg : Gl X "list" := by rfl) (na : starEach [e] X.env = (false, eval e X.env) :: starEach [] X.env := by rfl) : VO X Γ (.Call (.Name "list" p) [e] [] pos) ow1 (m >>= fun r => Vc.chk (RgOk r.1 r.2) >>= fun _ => M.ok (rng r.1 r.2)) := fun W tk σ I H T mw Q o => by
  refine to_t (pe_listRg hc hg hm prg_of na) (h W tk σ I H T mw _ (o.bind.mono (fun r _ o1 I1 H1 g1 => ?_) fun _ _ z => z))
  obtain ⟨hr, o2⟩ := o1.chk
  refine ⟨hr, fun q hq => o2 _ I1 _ [q] (by have := Wd.ow g1 (fun _ z => nomatch z) (Wd.new (o := .lst (rgV r.1 r.2)) g1.ih hq); simpa using this) ?_⟩
  have : rgV r.1 r.2 = (rng r.1 r.2).map V.int := rgV_eq _ _
  rw [this]
  exact ow1_new Rs.of_ints
end

/-! ### the errors of the text -/
/-- the class n, named in an except clause -/
structure EEx (K : PySem.W.Frag) (mg : Str → Option Value) (tb : ETab) (n : Str) : Prop where
  ex : ∃ C, mg n = some (.ref C) ∧ EOk K mg tb n (.ref C)
structure IEx (K : PySem.W.Frag) (mg : Str → Option Value) (tb : ETab) (n : Str) : Prop where
  ex : ∃ C, mg n = some (.ref C) ∧ IOk K mg tb n (.ref C)
section
variable {X : Cx} {Γ Γx : List SL} {e a b c : Expr} {es : List Expr} {rest : List Stmt} {pos p : Pos} {α β γ : Type} [Enc α] [Enc β] [Enc γ] {w w' : Bool} {τ : Type} {E : Eds τ} {x : Str}
theorem vs_tryT {S : Type} (F : S → List SL) (i : Nat) (tb : ETab) {xc n : Str} {body suite : List Stmt} {b₀ : Stmt} {np pos' : Pos} {mb : M (Jn S τ)} {mh : Exn → M (Jn S τ)} {kk : S → M τ} (Γt : List SL) (hX : X.stack = X.env :: X.outer) (hf : X.env.frame = some X.env.locals) (hN : X.N.Nodup) (hE : EEx X.K X.mg tb xc)
    (hb : ∀ (pn : List (Addr × Obj)) (xe : Value → Shared → Prop), PassesOwn (model X.prog X.w) X.A X.env xe → VS (X.tr pn xe) Γ Γt body (eJn F E) mb)
    (hsu : ∀ ex, ex.fs = [] → ∀ (a : Addr) (oe : Obj) (cls : Value) (pn : List (Addr × Obj)), L2N.Zn cls none oe → (∃ vs, oe.data = .fields vs) → X.mg ex.nm = some cls → VS (X.suite a ((a, oe) :: pn)) (Γt.set i (.val (.imm (.adr a)))) (anys Γt.length) (b₀ :: suite) (eSu i (eJn F E)) (mh ex))
    (hk : ∀ s, VS X (F s) Γx rest E (kk s)) (hs : Sub Γt Γx) (hg : Gl X xc := by rfl) (hdb : (xc == ("__debug__" : Str)) = false := by decide) (hi : X.N[i]? = some n := by rfl) (hl : Nat.blt i Γt.length = true := by rfl) (hln : X.env.kindOf n = some .local := by rfl) :
    VS X Γ Γx (.Try body [.ExceptHandler (some (.Name xc np)) (some n) (b₀ :: suite) pos'] [] [] pos :: rest) E (tryM tb xc mb (fun ex => nox (Vc.chk (ex.fs.isEmpty = true) >>= fun _ => mh ex)) >>= fun j => j.on kk) := by
  obtain ⟨C, h1, h2⟩ := hE.ex
  refine vs_try (mh := fun ex => Vc.chk (ex.fs.isEmpty = true) >>= fun _ => mh ex) F i tb Γt hX hf hN ⟨hg, hdb, .inl h1⟩ h2 hb (fun ex a oe cls d pn hz hfl hm h0 _ => VS.chk fun hfs => ?_) hk hs hi hl hln
  have hfs' : ex.fs = [] := by simpa using hfs
  have hd := h0 hfs'
  subst hd
  exact hsu ex hfs' a oe cls pn hz hfl hm
theorem ve_isEo (i : Nat) {tb : ETab} {xe n : Str} {a : Addr} {oe : Obj} {cls : Value} {pn : List (Addr × Obj)} {ex : Exn} {px pt : Pos} (hz : L2N.Zn cls none oe) (hfl : ∃ vs, oe.data = .fields vs) (hm : X.mg ex.nm = some cls) (hI : IEx X.K X.mg tb n) (hmi : X.mg "isinstance" = none)
    (hΓ : Γ[i]? = some (.val (.imm (.adr a))) := by rfl) (hN : X.N[i]? = some xe := by rfl) (hv : Vis X.env.scope xe := by first | exact Or.inl rfl | exact Or.inr (Or.inl rfl) | exact Or.inr (Or.inr rfl)) (hg : Gl X "isinstance" := by rfl) (hgn : Gl X n := by rfl)
    (hd : (xe == ("__debug__" : Str)) = false := by decide) (hdn : (n == ("__debug__" : Str)) = false := by decide) (hcd : (xe == ("__classdict__" : Str)) = false := by decide) (hst : starEach [.Name xe px, .Name n pt] X.env = (false, eval (.Name xe px) X.env) :: starEach [.Name n pt] X.env := by rfl) (hst2 : starEach [.Name n pt] X.env = (false, eval (.Name n pt) X.env) :: starEach [] X.env := by rfl) (hpl : (backTo pos (starEach [.Name n pt] X.env)).any (·.1) = false := by rfl) :
    VX w (X.suite a ((a, oe) :: pn)) Γ (.Call (.Name "isinstance" p) [.Name xe px, .Name n pt] [] pos) (isE tb ex n) := by
  obtain ⟨C, h1, h2⟩ := hI.ex
  exact ve_isE (c := .ref C) i tb hz hfl hm h2 (fun u r => r) (pe_glob (X := X.suite a ((a, oe) :: pn)) hgn h1 rfl hdn) hΓ hN hv hmi hg hd hcd hst hst2 hpl
theorem ve_isEb (i : Nat) {tb : ETab} {xe n : Str} {t : String} {a : Addr} {oe : Obj} {cls : Value} {pn : List (Addr × Obj)} {ex : Exn} {px pt : Pos} (hz : L2N.Zn cls none oe) (hfl : ∃ vs, oe.data = .fields vs) (hm : X.mg ex.nm = some cls) (hI : IOk X.K X.mg tb n (.type t)) (hmn : X.mg n = none) (hmi : X.mg "isinstance" = none) (hvn : bootBuiltins n = some (.type t) := by decide +kernel)
    (hΓ : Γ[i]? = some (.val (.imm (.adr a))) := by rfl) (hN : X.N[i]? = some xe := by rfl) (hv : Vis X.env.scope xe := by first | exact Or.inl rfl | exact Or.inr (Or.inl rfl) | exact Or.inr (Or.inr rfl)) (hg : Gl X "isinstance" := by rfl) (hgn : Gl X n := by rfl)
    (hnn : n ≠ "__name__" := by decide) (hd : (xe == ("__debug__" : Str)) = false := by decide) (hdn : (n == ("__debug__" : Str)) = false := by decide) (hcd : (xe == ("__classdict__" : Str)) = false := by decide) (hst : starEach [.Name xe px, .Name n pt] X.env = (false, eval (.Name xe px) X.env) :: starEach [.Name n pt] X.env := by rfl) (hst2 : starEach [.Name n pt] X.env = (false, eval (.Name n pt) X.env) :: starEach [] X.env := by rfl) (hpl : (backTo pos (starEach [.Name n pt] X.env)).any (·.1) = false := by rfl) :
    VX w (X.suite a ((a, oe) :: pn)) Γ (.Call (.Name "isinstance" p) [.Name xe px, .Name n pt] [] pos) (isE tb ex n) :=
  ve_isE (c := .ty t) i tb hz hfl hm hI (fun u r => r) (pe_bltn (X := X.suite a ((a, oe) :: pn)) hgn hmn hvn rfl hnn hdn) hΓ hN hv hmi hg hd hcd hst hst2 hpl
end
/-! facts, from the written part -/
theorem exm_in {K : PySem.W.Frag} {C S : Addr} {b : Bool} (h1 : PySem.W.subIn K (.ref C) (.type "BaseException") = some true) (h2 : PySem.W.hasDictIn K C = true) (h3 : PySem.W.typeIn K (.ref C) = some (.type "type")) (h4 : PySem.W.subIn K (.ref S) (.ref C) = some b) : PySem.W.exmOne K (.ref S) (.ref C) = some b := PySem.W.exm_ref h1 h2 h3 h4
theorem lookup_mem {β : Type} : ∀ {l : List (Str × β)} {m : Str} {up : β}, l.lookup m = some up → (m, up) ∈ l
  | [], _, _, h => by cases h
  | (n, v) :: l, m, up, h => by
    rw [List.lookup_cons] at h
    cases q : m == n with
    | true =>
      rw [q] at h
      cases h
      have e : m = n := by simpa using q
      subst e
      exact List.mem_cons_self
    | false => rw [q] at h; exact List.mem_cons_of_mem _ (lookup_mem h)
end Vc

set_option Elab.async false
set_option linter.all false
set_option maxRecDepth 100000
namespace Vc
open PySem PySem.Spec PyProof.Rows L2
open Enc (enc)

structure iOfH (X : Cx) (tg e : Expr) (σ : L2.St) (H : Hp) (R : It → Hp → Prop) : Prop where
  run : ∀ pins s, Inv X pins σ H s → wpAny (model X.prog X.w) X.A (eval e X.env) (fun v s1 => wpAny (model X.prog X.w) X.A (pyIter v) (L2H.PIEH X pins σ tg R) X.xe s1) X.xe s
theorem pi_ofH {X : Cx} {tg e : Expr} : L2H.PIH X tg e (iOfH X tg e) := ⟨fun pins s σ H R I h => h.run pins s I⟩
theorem to_iH {X : Cx} {tg e : Expr} {t : TI} {σ : L2.St} {H : Hp} {R : It → Hp → Prop} (p : L2H.PIH X tg e t) (h : t σ H R) : iOfH X tg e σ H R := ⟨fun pins s I => p.run pins s σ H R I h⟩
section
variable {X : Cx} {Γ Γx : List SL} {e a b c : Expr} {es : List Expr} {rest : List Stmt} {pos p : Pos} {α β γ : Type} [Enc α] [Enc β] [Enc γ] {w w' : Bool} {τ : Type} {E : Eds τ}
def VIH (X : Cx) (Γ : List SL) (tg e : Expr) {α : Type} [Enc α] (m : M (List α)) : Prop :=
  ∀ (W : WX), L2N.Takes X W → ∀ σ I H T, Mw X.K X.mg Γ σ I H T → ∀ R : It → Hp → Prop,
    Out m (fun l => ∀ J I' H', Gr I H I' H' → Yl X.K X.mg J I' H' l → R J H') (XO X W σ I H) → iOfH X tg e σ H R
theorem VIH.ap {tg : Expr} {m : M (List α)} (h : VIH X Γ tg e m) {W : WX} (tk : L2N.Takes X W) {σ : L2.St} {I H : Hp} {T : List Addr} (mw : Mw X.K X.mg Γ σ I H T) {R : It → Hp → Prop} {P : List α → Prop} {E : Exn → Prop} (o : Out m P E)
    (hP : ∀ a, m = .ok a → P a → ∀ J I' H', Gr I H I' H' → Yl X.K X.mg J I' H' a → R J H') (hE : ∀ ex, E ex → XO X W σ I H ex) : iOfH X tg e σ H R := h W tk σ I H T mw R (o.mono hP fun ex _ k => hE ex k)
theorem VIH.congr {tg : Expr} {m m' : M (List α)} (h : VIH X Γ tg e m) (q : m = m') : VIH X Γ tg e m' := q ▸ h
theorem vih_range1 {tg : Expr} {m : M Int} (hm : X.mg "range" = none) (h : VX true X Γ a m) (hg : Gl X "range" := by rfl) (hs : starEach [a] X.env = [(false, eval a X.env)] := by rfl) : VIH X Γ tg (.Call (.Name "range" p) [a] [] pos) (m >>= fun n => chk (rOk n) >>= fun _ => M.ok (rng 0 n)) := fun W tk σ I H T mw R o => by
  refine to_iH (L2H.pi_range1H hg hm (pa_cons pe_of pa_nil hs) hs) (h.ap tk mw o.bind (fun n _ o1 v I1 H1 g1 r1 => ?_) fun _ z => z)
  cases r1
  obtain ⟨⟨h1, h2⟩, o2⟩ := o1.chk
  refine ⟨n, rfl, h1, h2, o2 _ I1 H1 g1 ?_⟩
  have := yl_rng (K := X.K) (mg := X.mg) (I := I1) (H := H1) (a := 0) (b := n)
  rw [Int.sub_zero] at this
  exact this
/-- the core of a for: a loop function whose turn is f, given by its unfolding -/
theorem for_coreH {S R : Type} {n : Nat} (F : S → List SL) (s0 : S) {tg : Expr} {vs : List Nat} {u : α → List SL → List SL} {m : M (List α)} {body : List Stmt} {EB : Eds R} {b : S → α → M R} {lp : List α → S → M τ} (hp : PassesOwn (model X.prog X.w) X.A X.env X.xe) (hc : L2H.HotC X) (hi : VIH X Γ tg e m) (hg : VG X n tg vs u)
    (hb : ∀ s a, VS X (u a (F s)) Γx body EB (b s a))
    (hk : ∀ s, VS X (F s) Γx rest E (lp [] s)) (fin : R → List α → M τ) (hlp : ∀ s a l, lp (a :: l) s = b s a >>= fun r => fin r l)
    (hnx : ∀ r l Γ', EB.nx Γ' r → ∃ s, Sub Γ' (F s) ∧ fin r l = lp l s) (hct : ∀ r l Γ', EB.ct Γ' r → ∃ s, Sub Γ' (F s) ∧ fin r l = lp l s)
    (hbk : ∀ r l Γ', EB.bk Γ' r → ∃ s, Sub Γ' (F s) ∧ fin r l = lp [] s) (hrt : ∀ r l Γ' o, EB.rt Γ' o r → ∃ t, fin r l = .ok t ∧ E.rt Γ' o t)
    (h0 : Sub Γ (F s0)) (hs : Sub Γ Γx) (hn : ∀ s, (F s).length = n) (hf : ∀ x, foldedSetIterable e X.env x = pure x) :
    VS X Γ Γx (.For tg e body [] pos :: rest) E (m >>= fun l => lp l s0) := fun W tk I0 H0 σ I H T mt D o => by
  refine seq_s (to_s1 (L2H.ps_forH hp hc pi_ofH pg_of pss_of hf) ?_)
  refine hi.ap tk mt.mw o.bind (fun l _ o1 J I1 H1 g1 yl => ?_) fun _ z => z.xo mt hs
  obtain ⟨T1, mt1⟩ := (mt.gr g1).sub h0
  refine ⟨fun i m σ' H' => m = l.length - i ∧ i ≤ l.length ∧ ∃ s I' T', Mt X.K X.mg I0 H0 (F s) σ' I' H' T' ∧ Same I1 I' ∧ Out (lp (l.drop i) s) (DO X I0 H0 E D) (XS X W I0 H0 Γx), ⟨l.length, rfl, Nat.zero_le _, s0, I1, T1, mt1, .refl _, o1⟩, ?_⟩
  rintro i _ σ' H' ⟨rfl, hi, s, I', T', mt', s1, o'⟩
  obtain ⟨go, stop⟩ := yl i I' H' s1 mt'.wd.ih
  by_cases hlt : i < l.length
  · obtain ⟨g2, y2⟩ := go l[i] (List.getElem?_eq_getElem hlt)
    rw [List.drop_eq_getElem_cons hlt, hlp] at o'
    refine .inr ⟨g2, fun σ2 H2 => ∃ s I' T', Mt X.K X.mg I0 H0 (F s) σ2 I' H2 T' ∧ Same I1 I' ∧ Out (lp (l.drop (i + 1)) s) (DO X I0 H0 E D) (XS X W I0 H0 Γx), fun σ2 H2 h => ⟨l.length - (i + 1), by omega, rfl, hlt, h⟩, fun x H2 y => ?_⟩
    obtain ⟨I2, g3, r3⟩ := y2 x H2 y
    have mt2 := mt'.gr g3
    refine hg (F s) (hn s) x l[i] σ' I2 H2 T' mt2.mw r3 _ fun σ3 T3 _ _ s3 c3 d3 => ?_
    have mt4 : Mt X.K X.mg I0 H0 (u l[i] (F s)) σ3 I2 H2 T3 := ⟨⟨mt2.wd.ih, mt2.wd.i0, mt2.wd.h0, fun p hp => mt2.wd.fr p (c3 p hp), d3, mt2.wd.sep⟩, s3⟩
    have w0 := mt4.wd
    refine hb s l[i] W tk I2 H0 σ3 I2 H2 T3 mt4.root _ (o'.bind.mono (fun r _ o2 => ?_) fun ex _ z => z.re w0)
    refine ⟨fun Γ' σ4 I4 H4 T4 z mt5 => ?_, fun Γ' σ4 I4 H4 T4 z mt5 => ?_, fun Γ' σ4 I4 H4 T4 z mt5 => ?_, fun Γ' σ4 ow v I4 H4 T4 T4' z wd5 sl5 q => ?_⟩
    · obtain ⟨s', hsub, e⟩ := hnx r (l.drop (i + 1)) Γ' z
      rw [e] at o2
      obtain ⟨T5, mt6⟩ := (Mt.re w0 mt5).sub hsub
      exact ⟨s', I4, T5, mt6, (s1.trans g3.i0).trans mt5.wd.i0, o2⟩
    · obtain ⟨s', hsub, e⟩ := hbk r (l.drop (i + 1)) Γ' z
      rw [e] at o2
      obtain ⟨T5, mt6⟩ := (Mt.re w0 mt5).sub hsub
      exact rest_s (hk s') tk mt6 o2
    · obtain ⟨s', hsub, e⟩ := hct r (l.drop (i + 1)) Γ' z
      rw [e] at o2
      obtain ⟨T5, mt6⟩ := (Mt.re w0 mt5).sub hsub
      exact ⟨s', I4, T5, mt6, (s1.trans g3.i0).trans mt5.wd.i0, o2⟩
    · obtain ⟨t, e, ht⟩ := hrt r (l.drop (i + 1)) Γ' ow z
      rw [e] at o2
      exact DO.rt (E := E) o2 Γ' σ4 ow v I4 H4 T4 T4' ht (w0.re wd5) sl5 q
  · have e : i = l.length := by omega
    subst e
    rw [List.drop_length] at o'
    exact .inl ⟨stop (Nat.le_refl _), rest_s (hk s) tk mt' o'⟩
/-- a for with break, return -/
theorem vs_forH {S : Type} {n : Nat} (F : S → List SL) (s0 : S) {tg : Expr} {vs : List Nat} {u : α → List SL → List SL} {m : M (List α)} {body : List Stmt} {b : S → α → M (Stp S τ)} {k : S → M τ} (hp : PassesOwn (model X.prog X.w) X.A X.env X.xe) (hc : L2H.HotC X) (hi : VIH X Γ tg e m) (hg : VG X n tg vs u)
    (hb : ∀ s a, VS X (u a (F s)) Γx body (eSt F E) (b s a)) (hk : ∀ s, VS X (F s) Γx rest E (k s)) (h0 : Sub Γ (F s0)) (hs : Sub Γ Γx) (hn : ∀ s, (F s).length = n := by exact fun _ => rfl) (hf : ∀ x, foldedSetIterable e X.env x = pure x := by intro _; rfl) :
    VS X Γ Γx (.For tg e body [] pos :: rest) E (m >>= fun l => loopM b l s0 >>= fun r => r.on k) :=
  for_coreH (lp := fun l s => loopM b l s >>= fun r => r.on k) F s0 hp hc hi hg hb hk (fun r l => match r with | .nx s => loopM b l s >>= fun r => r.on k | .bk s => k s | .rt t => .ok t)
    (fun s a l => by
      rw [loopM_cons, M.bind_assoc]
      congr 1
      funext r
      cases r <;> rfl)
    (fun r l Γ' ⟨s, e, h⟩ => ⟨s, h, by rw [e]⟩) (fun r l Γ' ⟨s, e, h⟩ => ⟨s, h, by rw [e]⟩) (fun r l Γ' ⟨s, e, h⟩ => ⟨s, h, by rw [e]; rfl⟩) (fun r l Γ' o ⟨t, e, h⟩ => ⟨t, by rw [e], h⟩) h0 hs hn hf
/-- a for that is never left -/
theorem vs_forSH {S : Type} {n : Nat} (F : S → List SL) (s0 : S) {tg : Expr} {vs : List Nat} {u : α → List SL → List SL} {m : M (List α)} {body : List Stmt} {b : S → α → M S} {k : S → M τ} (hp : PassesOwn (model X.prog X.w) X.A X.env X.xe) (hc : L2H.HotC X) (hi : VIH X Γ tg e m) (hg : VG X n tg vs u)
    (hb : ∀ s a, VS X (u a (F s)) Γx body (eLp F) (b s a)) (hk : ∀ s, VS X (F s) Γx rest E (k s)) (h0 : Sub Γ (F s0)) (hs : Sub Γ Γx) (hn : ∀ s, (F s).length = n := by exact fun _ => rfl) (hf : ∀ x, foldedSetIterable e X.env x = pure x := by intro _; rfl) :
    VS X Γ Γx (.For tg e body [] pos :: rest) E (m >>= fun l => loopS b l s0 >>= k) :=
  for_coreH (lp := fun l s => loopS b l s >>= k) F s0 hp hc hi hg hb hk (fun r l => loopS b l r >>= k)
    (fun s a l => by rw [loopS_cons, M.bind_assoc])
    (fun r l Γ' h => ⟨r, h, rfl⟩) (fun r l Γ' h => ⟨r, h, rfl⟩) (fun r l Γ' h => h.elim) (fun r l Γ' o h => h.elim) h0 hs hn hf

end

/-! ### a def called while an error is handled -/
section
variable {P : Program} {w : World} {K : PySem.W.Frag} {mg : Str → Option Value} {base : Heap}
theorem fn_okH {x qual : Str} {st : Stmt} {f : Addr} {fd : FuncData} {N ps : List Str} {k : Nat} {A ρ : Type} {ea : A → List D} {eo : ρ → O} {m : A → M ρ} (F : Fun K x qual st f fd) (S : FnScope N ps (defScope st)) (hl : ∀ a, (ea a).length = ps.length)
    (body : ∀ (cdv : Value) (Ar : Around) (outer : List Env) (s : Shared) (H : Hp) (E : XK) (p : Addr × Obj), L2H.RoomH k (Ar.deeper (envOfC qual (defScope st) s.heap.objs.size f cdv)) →
      ∀ X, X = L2H.cxH (L2N.CX P w) P w K mg base N qual (defScope st) f cdv Ar outer s H E p → L2H.HotC X → ∀ a, VS X (ent N (ea a)) (anys N.length) (defBody st) (eFn eo) (m a)) :
    L2H.FnH P w K mg base (L2N.CX P w) (k + 1) f fd ps (spF K mg ea eo m) := by
  obtain ⟨oc, od, kV, doc, pm, an, cdv, ct, osl, rfl, lk, hcd⟩ := F.ex
  refine L2H.fn_ofH lk hcd S (fun vs H Q E h => ?_) (fun Ar outer s H vs Q E p hp hr h => ?_)
  · obtain ⟨I, x, _, r, _⟩ := h
    rw [r.length, hl]
  · obtain ⟨I, x, hs, r, o⟩ := h
    refine ⟨_, pss_of, ?_⟩
    refine body cdv Ar outer s H E p hr _ rfl ⟨p, hp, List.mem_singleton.mpr rfl⟩ x (fun cls d _ H' => E cls d H') (L2N.takes_of rfl rfl rfl rfl) I H _ I H [] (Mt.start hs r) _ ?_
    refine o.mono (fun r _ k => ?_) fun ex _ k cl d σ' I' H' T' mt a => ?_
    · exact ⟨fun Γ' σ' I' H' T' z mt => k .non I' H' [] (mt.wd.subl (List.nil_sublist _)) (by rw [show eo r = .imm .non from z]; exact .imm .non), fun _ _ _ _ _ z => z.elim, fun _ _ _ _ _ z => z.elim, fun Γ' σ' o v I' H' T2 T' z wd sl q => k v I' H' T2 (wd.subl (List.sublist_append_left _ _)) (by rw [← show o = eo r from z]; exact q)⟩
    · exact k cl d I' H' (mt.wd.subl (List.nil_sublist _)) a
end
theorem hotc_suite {X : Cx} {a : Addr} {oe : Obj} {cls : Value} {d : Option Addr} {pn : List (Addr × Obj)} (hz : L2N.Zn cls d oe) (hf : ∃ vs, oe.data = .fields vs) : L2H.HotC (X.suite a ((a, oe) :: pn)) := by
  obtain ⟨vs, h⟩ := hf
  exact ⟨(a, oe), ⟨rfl, vs, h, hz.2.2 vs h⟩, List.mem_cons_self⟩
theorem roomh_suite {X : Cx} {k : Nat} {a : Addr} {pn : List (Addr × Obj)} (r : Room k X.A) : L2H.RoomH k (X.suite a pn).A := ⟨r.dp, r.un⟩
section
variable {X : Cx} {Γ Γx : List SL} {e a b c : Expr} {es : List Expr} {rest : List Stmt} {pos p : Pos} {α β γ : Type} [Enc α] [Enc β] [Enc γ] {w w' : Bool} {τ : Type} {E : Eds τ}
  {k : Nat} {f : Addr} {fd : FuncData} {ps : List Str} {x : Str} {A ρ : Type} {ea : A → List D} {m : A → M ρ} {ma : M A}
/-- f(e, ..): the result is new or plain -/
theorem vo_callH {eo : ρ → O} (F : L2H.FnH X.prog X.w X.K X.mg X.base (L2N.CX X.prog X.w) k f fd ps (spF X.K X.mg ea eo m)) (hr : L2H.RoomH k X.A) (hc : L2H.HotC X) (hm : X.mg x = some (.ref f)) (hk : PySem.W.keepIn X.K (.ref f) = true) (hb : Binds X.K fd ps []) (h : VA false X Γ (e :: es) ea ma) (hg : Gl X x := by rfl)
    (hdb : (x == ("__debug__" : Str)) = false := by decide) (he : starEach (e :: es) X.env = (false, eval e X.env) :: starEach es X.env := by rfl) (hpl : (backTo pos (starEach es X.env)).any (·.1) = false := by rfl) : VO X Γ (.Call (.Name x p) (e :: es) [] pos) eo (ma >>= m) := fun W tk σ I H T mw Q o => by
  refine to_t (L2H.pe_callH (E := WE W) F hr hc hg hm hk hb (fun σ => L2N.passAt tk σ) pa_of hdb he hpl) (h.ap tk mw o.bind (fun a _ o1 vs I1 H1 g1 r1 => ?_) fun _ z => z)
  refine ⟨I1, a, g1.ih, r1, o1.mono (fun r _ k v I' H' T' wd q => k v I' H' T' (by have := Wd.ow g1 (fun _ z => nomatch z) wd; simpa using this) q) fun ex _ k cl d I' H' g at' => k cl d I' H' (g1.trans g) at'⟩
theorem ve_callH [Enc ρ] (F : L2H.FnH X.prog X.w X.K X.mg X.base (L2N.CX X.prog X.w) k f fd ps (spF X.K X.mg ea (fun r : ρ => .imm (enc r)) m)) (hr : L2H.RoomH k X.A) (hc : L2H.HotC X) (hm : X.mg x = some (.ref f)) (hk : PySem.W.keepIn X.K (.ref f) = true) (hb : Binds X.K fd ps []) (h : VA false X Γ (e :: es) ea ma) (hg : Gl X x := by rfl)
    (hdb : (x == ("__debug__" : Str)) = false := by decide) (he : starEach (e :: es) X.env = (false, eval e X.env) :: starEach es X.env := by rfl) (hpl : (backTo pos (starEach es X.env)).any (·.1) = false := by rfl) : VX w X Γ (.Call (.Name x p) (e :: es) [] pos) (ma >>= m) := (vo_callH F hr hc hm hk hb h hg hdb he hpl).ve fun r => O.toD_imm _
end
end Vc
namespace Vc
open PySem PySem.Spec PyProof.Rows L2
open Enc (enc)
/-! ### what the top has written, read off -/
theorem def_mk {K : PySem.W.Frag} {h : Heap} {mg : Str → Option Value} {x : Str} {st : Stmt} {f : Addr} {oc : Value} {od an : Option Addr} {osl : Array (Option Value)} {kV doc pm cdv ct : Value} {ps : List Str} (X : K.In h) (G : h.Ns mainGlobals mg)
    (hb : ∀ (kV doc pm : Value) (an : Option Addr) (cdv ct : Value) (us : List Value), us.length = ps.length → bindArgs (PySem.W.fnOf x x (defArgs st) (defBody st) (defScope st) .none kV doc pm an cdv ct) ⟨us, []⟩ = pure (ps.zip us))
    (a : PySem.W.nsIn K mainGlobals x = some (some (.ref f))) (l : K.lookup f = some ⟨oc, od, .func (PySem.W.fnOf x x (defArgs st) (defBody st) (defScope st) .none kV doc pm an cdv ct), osl⟩) (c : PySem.W.codeIn K cdv x = true) (k : PySem.W.keepIn K (.ref f) = true) :
    DefAt K mg x st f (PySem.W.fnOf x x (defArgs st) (defBody st) (defScope st) .none kV doc pm an cdv ct) ps :=
  ⟨fun_mk l c k, PySem.W.mg_of X G a, (fun_mk l c k).binds hb⟩

theorem ExcCls.mk' {K : PySem.W.Frag} {h : Heap} {mg : Str → Option Value} {x : Str} {C : Addr} (X : K.In h) (G : h.Ns mainGlobals mg) (a : PySem.W.nsIn K mainGlobals x = some (some (.ref C)))
    (q : PySem.W.excIn K C [.type "ValueError", .type "Exception", .type "BaseException", .type "object"] "ValueError.__new__" = true) (k : PySem.W.keepIn K (.ref C) = true) (b : PySem.W.subIn K (.ref C) (.type "BaseException") = some true) (t : PySem.W.typeIn K (.ref C) = some (.type "type")) : ExcCls K mg x :=
  ⟨C, PySem.W.mg_of X G a, q, k, b, t⟩
/-- tables of what is caught -/
def excTab (K : PySem.W.Frag) (tb : ETab) (f : Value → Option Bool) (n : Str) : Bool := tb.all fun e => match PySem.W.nsIn K mainGlobals e.1 with
  | some (some cl) => f cl == some (e.2.contains n)
  | _ => false
theorem excTab_ok {K : PySem.W.Frag} {h : Heap} {mg : Str → Option Value} {tb : ETab} {f : Value → Option Bool} {n : Str} (X : K.In h) (G : h.Ns mainGlobals mg) (q : excTab K tb f n = true) {m : Str} {up : List Str} (hl : tb.lookup m = some up) :
    ∃ cl, PySem.W.nsIn K mainGlobals m = some (some cl) ∧ mg m = some cl ∧ f cl = some (up.contains n) := by
  have := List.all_eq_true.mp q _ (lookup_mem hl)
  dsimp only at this
  split at this
  · rename_i cl e
    exact ⟨cl, e, PySem.W.mg_of X G e, by simpa using this⟩
  · cases this
theorem eex_mk {K : PySem.W.Frag} {h : Heap} {mg : Str → Option Value} {tb : ETab} {n : Str} {C : Addr} (X : K.In h) (G : h.Ns mainGlobals mg) (a : PySem.W.nsIn K mainGlobals n = some (some (.ref C))) (q : excTab K tb (fun cl => PySem.W.exmOne K cl (.ref C)) n = true) : EEx K mg tb n :=
  ⟨C, PySem.W.mg_of X G a, ⟨fun m up hl cl hm => by
    obtain ⟨cl', _, e1, e2⟩ := excTab_ok X G q hl
    rw [hm] at e1
    cases e1
    exact e2⟩⟩
def excCB (K : PySem.W.Frag) (v : Value) : Bool := match v with
  | .ref D => PySem.W.findIn K (.ref D) "__getattribute__" == some (some (.builtin "BaseException.__getattribute__")) && PySem.W.findIn K (.ref D) "__getattr__" == some none && PySem.W.subIn K (.ref D) (.type "BaseException") == some true && PySem.W.hasDictIn K D && PySem.W.findIn K (.ref D) "__class__" == some (some (.builtin "object.__class__")) &&
      PySem.W.specialIn K (.builtin "object.__class__") "__get__" == some (some (.builtin "getset_descriptor.__get__")) && PySem.W.takesIn K (.builtin "object.__class__") == some true && PySem.W.mroIn K D (.type "object") == some true
  | _ => false
theorem excCB_ok {K : PySem.W.Frag} {v : Value} (h : excCB K v = true) : ∃ D, v = .ref D ∧ ExcC K D := by
  cases v with
  | ref D =>
    unfold excCB at h
    simp only [Bool.and_eq_true] at h
    obtain ⟨⟨⟨⟨⟨⟨⟨h1, h2⟩, h3⟩, h4⟩, h5⟩, h6⟩, h7⟩, h8⟩ := h
    exact ⟨D, rfl, ⟨by simpa using h1, by simpa using h2, by simpa using h3, h4, by simpa using h5, by simpa using h6, by simpa using h7, by simpa using h8⟩⟩
  | _ => cases h
def iTab (K : PySem.W.Frag) (tb : ETab) (cv : Value) (n : Str) : Bool := excTab K tb (fun cl => if excCB K cl then PySem.W.kitOne K cl cv else none) n
theorem iok_mk {K : PySem.W.Frag} {h : Heap} {mg : Str → Option Value} {tb : ETab} {n : Str} {cv : Value} (X : K.In h) (G : h.Ns mainGlobals mg) (q : iTab K tb cv n = true) : IOk K mg tb n cv := ⟨fun m up hl => by
    obtain ⟨cl, _, e1, e2⟩ := excTab_ok X G q hl
    split at e2
    · rename_i h2
      obtain ⟨D, rfl, h3⟩ := excCB_ok h2
      exact ⟨D, e1, h3, e2⟩
    · cases e2⟩
theorem iex_mk {K : PySem.W.Frag} {h : Heap} {mg : Str → Option Value} {tb : ETab} {n : Str} {C : Addr} (X : K.In h) (G : h.Ns mainGlobals mg) (a : PySem.W.nsIn K mainGlobals n = some (some (.ref C))) (q : iTab K tb (.ref C) n = true) : IEx K mg tb n := ⟨C, PySem.W.mg_of X G a, iok_mk X G q⟩
/-- a written value read off -/
def rdK (K : PySem.W.Frag) : Nat → Value → Option (V × D)
  | _, .none => some (.non, .non)
  | _, .bool b => some (.bl b, .bl b)
  | _, .int i _ => some (.int i, .int i)
  | _, .str x _ => some (.str x, .str x)
  | 0, _ => none
  | n + 1, .ref a => match K.lookup a with
    | some ⟨.type "tuple", _, .seq its _, _⟩ => if its.size ≤ sizeLine then match (its.toList.map (rdK K n)).foldr (fun x r => match x, r with | some (v, d), some (vs, ds) => some (v :: vs, d :: ds) | _, _ => none) (some ([], [])) with
        | some (_, ds) => some (.ref a, .tup ds)
        | none => none
      else none
    | some ⟨.type "list", none, .seq its _, _⟩ => if its.size ≤ sizeLine then match (its.toList.map (rdK K n)).foldr (fun x r => match x, r with | some (v, d), some (vs, ds) => some (v :: vs, d :: ds) | _, _ => none) (some ([], [])) with
        | some (_, ds) => some (.ref a, .lst ds)
        | none => none
      else none
    | _ => none
  | _, _ => none
theorem rdK_list {K : PySem.W.Frag} {mg : Str → Option Value} {f : Value → Option (V × D)} (hf : ∀ u v d, f u = some (v, d) → RelV v u ∧ ∀ H, R K mg H v d) : ∀ (us : List Value) (vs : List V) (ds : List D), (us.map f).foldr (fun x r => match x, r with | some (v, d), some (vs, ds) => some (v :: vs, d :: ds) | _, _ => none) (some ([], [])) = some (vs, ds) → Vals vs us ∧ ∀ H, Rs K mg H vs ds := by
  intro us
  induction us with
  | nil => intro vs ds h; cases h; exact ⟨.nil, fun _ => .nil⟩
  | cons u us ih =>
    intro vs ds h
    rw [List.map_cons, List.foldr_cons] at h
    split at h
    · rename_i v d vs' ds' e1 e2
      cases h
      obtain ⟨h1, h2⟩ := hf u v d e1
      obtain ⟨h3, h4⟩ := ih _ _ e2
      exact ⟨.cons h1 h3, fun H => .cons (h2 H) (h4 H)⟩
    · cases h
theorem rdK_ok {K : PySem.W.Frag} {mg : Str → Option Value} : ∀ (n : Nat) (u : Value) (v : V) (d : D), rdK K n u = some (v, d) → RelV v u ∧ ∀ H, R K mg H v d := by
  intro n
  induction n with
  | zero =>
    intro u v d h
    cases u <;> first | (cases h; done) | (cases h; exact ⟨by first | rfl | exact ⟨_, rfl⟩, fun H => by constructor⟩)
  | succ n ih =>
    intro u v d h
    cases u with
    | ref a =>
      unfold rdK at h
      split at h
      · rename_i dd its k sl e
        split at h
        · rename_i hz
          split at h
          · rename_i vs ds e2
            cases h
            obtain ⟨h1, h2⟩ := rdK_list ih _ _ _ e2
            exact ⟨rfl, fun H => .tup (.inr ⟨_, its, k, e, rfl, rfl, hz, h1⟩) (h2 H)⟩
          · cases h
        · cases h
      · rename_i its k sl e
        split at h
        · rename_i hz
          split at h
          · rename_i vs ds e2
            cases h
            obtain ⟨h1, h2⟩ := rdK_list ih _ _ _ e2
            exact ⟨rfl, fun H => .lst (.inr ⟨_, its, k, e, rfl, rfl, rfl, hz, h1⟩) (h2 H)⟩
          · cases h
        · cases h
      · cases h
    | _ => first | (cases h; done) | (cases h; exact ⟨by first | rfl | exact ⟨_, rfl⟩, fun H => by constructor⟩)
theorem const_mk {K : PySem.W.Frag} {h : Heap} {mg : Str → Option Value} {x : Str} {q : Addr} {d : D} (X : K.In h) (G : h.Ns mainGlobals mg) (a : PySem.W.nsIn K mainGlobals x = some (some (.ref q))) (r : rdK K 8 (.ref q) = some (.ref q, d)) : ∃ q, mg x = some (.ref q) ∧ ∀ H, R K mg H (.ref q) d :=
  ⟨q, PySem.W.mg_of X G a, (rdK_ok 8 _ _ _ r).2⟩
theorem int_mk {K : PySem.W.Frag} {h : Heap} {mg : Str → Option Value} {x : Str} {i : Int} {t : Tok} (X : K.In h) (G : h.Ns mainGlobals mg) (a : PySem.W.nsIn K mainGlobals x = some (some (.int i t))) : ∃ t, mg x = some (.int i t) := ⟨t, PySem.W.mg_of X G a⟩

/-! ### the law's head -/
def spLaw (K : PySem.W.Frag) : Sp := fun vs H Q E => ∃ (a : Addr) (ns : List Int), vs = [.ref a] ∧ ns.length ≤ 63 ∧ SqL K H a (ns.map V.int) ∧ (Q = fun v _ => v = .bl true) ∧ E = fun _ _ _ => False
theorem law_walk {l : PySem.W.OpenLaw} {q : Program} {loose : List Str} {XP : (Str → Option Value) → Heap → Prop} {YP : World → Heap → Prop} {d : DefRec} {K : Params → PySem.W.Frag} {k : Nat} {m : List Int × Unit → M Bool} (hn : l.most = some 63) (hdf : d.params.defaults = []) (hdn : d.name = "law") (hr : Room k callerA)
    (hY : ∀ (w : World) (h : Heap), YP w h → (K w.params).In h) (hm : ∀ ns : List Int, ns.length ≤ 63 → m (ns, ()) = .ok true)
    (F : ∀ (w : World) (mg : Str → Option Value) (h : Heap), (K w.params).In h → h.Ns mainGlobals mg →
      ∃ (f : Addr) (fd : FuncData), mg "law" = some (.ref f) ∧ (∀ (s : Shared) (u : Value), BindsTo s fd ⟨[u], []⟩ [("script", u)]) ∧ ∀ base : Heap, FnOk l.prog w (K w.params) mg base (L2N.CX l.prog w) k f fd ["script"] (spF (K w.params) mg (eCons eNil) (fun r : Bool => O.imm (enc r)) m)) :
    PySem.W.WalkO q loose XP YP l.row.toRowW d [] (fun f vs => PySem.call f vs) :=
  L2.walk_of (n := 63) (k := k) (x := "script") (CX := fun w => L2N.CX l.prog w) (sp := fun w => spLaw (K w.params)) hn (by decide) hdf hr hY (fun w mg fa h KX G hmg => by
    obtain ⟨f, fd, h1, h2, h3⟩ := F w mg h KX G
    rw [hdn, h1] at hmg
    cases hmg
    refine ⟨fd, h2, fun base _ _ => ⟨fun vs H Q E ⟨a, ns, e, _⟩ => by rw [e]; rfl, fun A outer s H args us vs Q E hr e0 hb hv hs => ?_⟩⟩
    obtain ⟨a, ns, rfl, hl, hS, rfl, rfl⟩ := hs
    exact (h3 base).run A outer s H args us _ _ _ hr e0 hb hv (law_sp hm hl hS)) (fun w H a ns hl _ hS => ⟨a, ns, rfl, hl, hS, rfl, rfl⟩) fun w H s e s' z => cx_no z
end Vc

set_option Elab.async false
set_option linter.all false
set_option maxRecDepth 100000
namespace Vc
open PySem PySem.Spec PyProof.Rows L2
open Enc (enc)
/-! ### the same data at another type -/
def unO {α : Type} : Option α → M α
  | some a => .ok a
  | none => .stuck
@[simp] theorem unO_some {α : Type} (a : α) : unO (some a) = .ok a := rfl
def unL {α β : Type} : α ⊕ β → M α
  | .inl a => .ok a
  | .inr _ => .stuck
def unR {α β : Type} : α ⊕ β → M β
  | .inl _ => .stuck
  | .inr a => .ok a
@[simp] theorem unL_inl {α β : Type} (a : α) : unL (.inl a : α ⊕ β) = .ok a := rfl
@[simp] theorem unR_inr {α β : Type} (a : β) : unR (.inr a : α ⊕ β) = .ok a := rfl
section
variable {X : Cx} {Γ Γx : List SL} {e a b c : Expr} {es : List Expr} {rest : List Stmt} {pos p : Pos} {α β γ : Type} [Enc α] [Enc β] [Enc γ] {w w' : Bool} {τ : Type} {E : Eds τ}
theorem VX.to {m : M α} {f : α → M β} (h : VX w X Γ e m) (hf : ∀ a b, f a = .ok b → enc b = enc a) (hx : ∀ a e, f a ≠ .exc e) : VX w X Γ e (m >>= f) := fun W tk σ I H T mw Q o => by
  refine h W tk σ I H T mw Q (o.bind.mono (fun a _ o1 v I' H' g r => ?_) fun _ _ z => z)
  cases q : f a with
  | ok b =>
    rw [q] at o1
    exact o1 v I' H' g (by rw [hf a b q]; exact r)
  | stuck => rw [q] at o1; exact o1.elim
  | exc ex => exact absurd q (hx a ex)
theorem VX.unO {m : M (Option α)} (h : VX w X Γ e m) : VX w X Γ e (m >>= Vc.unO) := h.to (fun a b q => by cases a <;> cases q; rfl) fun a e q => by cases a <;> cases q
theorem VX.unL {m : M (α ⊕ β)} (h : VX w X Γ e m) : VX w X Γ e (m >>= Vc.unL) := h.to (fun a b q => by cases a <;> cases q; rfl) fun a e q => by cases a <;> cases q
theorem VX.unR {m : M (α ⊕ β)} (h : VX w X Γ e m) : VX w X Γ e (m >>= Vc.unR) := h.to (fun a b q => by cases a <;> cases q; rfl) fun a e q => by cases a <;> cases q
theorem VX.co {m : M α} (f : α → β) (h : VX w X Γ e m) (hf : ∀ a, enc (f a) = enc a := by intro _; rfl) : VX w X Γ e (m >>= fun a => M.ok (f a)) := h.to (fun a b q => by cases q; exact hf a) fun a e q => by cases q
theorem enc_map {f : α → β} (hf : ∀ a, enc (f a) = enc a) (l : List α) : enc (l.map f) = enc l := by
  show D.lst _ = D.lst _
  rw [List.map_map]
  congr 1
  exact List.map_congr_left fun a _ => hf a
theorem ow1_map {f : α → β} (hf : ∀ a, enc (f a) = enc a) (l : List α) : ow1 (l.map f) = ow1 l := by
  unfold ow1
  rw [List.map_map]
  congr 1
  exact List.map_congr_left fun a _ => congrArg O.imm (hf a)
theorem VO.to {o1 : α → O} {o2 : β → O} {m : M α} {f : α → M β} (h : VO X Γ e o1 m) (hf : ∀ a b, f a = .ok b → o2 b = o1 a) (hx : ∀ a e, f a ≠ .exc e) : VO X Γ e o2 (m >>= f) := fun W tk σ I H T mw Q o => by
  refine h W tk σ I H T mw Q (o.bind.mono (fun a _ o3 v I' H' T' wd r => ?_) fun _ _ z => z)
  cases q : f a with
  | ok b =>
    rw [q] at o3
    exact o3 v I' H' T' wd (by rw [hf a b q]; exact r)
  | stuck => rw [q] at o3; exact o3.elim
  | exc ex => exact absurd q (hx a ex)
/-- a new list of other items -/
theorem VO.coL {m : M (List α)} (f : α → β) (h : VO X Γ e ow1 m) (hf : ∀ a, enc (f a) = enc a := by intro _; rfl) : VO X Γ e ow1 (m >>= fun l => M.ok (l.map f)) := h.to (fun a b q => by cases q; exact ow1_map hf a) fun a e q => by cases q
theorem VX.coL {m : M (List α)} (f : α → β) (h : VX w X Γ e m) (hf : ∀ a, enc (f a) = enc a := by intro _; rfl) : VX w X Γ e (m >>= fun l => M.ok (l.map f)) := h.co (fun l => l.map f) fun l => enc_map hf l

/-! ### x in l -/
class Fla (α : Type) [Enc α] [DecidableEq α] : Prop where
  flat : ∀ (K : PySem.W.Frag) (mg : Str → Option Value) (H : Hp) (x : α) (v : V), R K mg H v (enc x) → flatV v = true
  eq : ∀ (K : PySem.W.Frag) (mg : Str → Option Value) (H : Hp) (x y : α) (v u : V), R K mg H v (enc x) → R K mg H u (enc y) → eqV v u = decide (x = y)
instance : Fla Int := ⟨fun _ _ _ _ _ a => by cases a; rfl, fun K mg H x y v u a b => by cases a; cases b; show (x == y) = _; by_cases h : x = y <;> simp [h]⟩
instance : Fla Bool := ⟨fun _ _ _ _ _ a => by cases a; rfl, fun K mg H x y v u a b => by cases a; cases b; cases x <;> cases y <;> rfl⟩
instance : Fla Str := ⟨fun _ _ _ _ _ a => by cases a; rfl, fun K mg H x y v u a b => by cases a; cases b; show (x == y) = _; by_cases h : x = y <;> simp [h]⟩
instance : Fla (Option Int) := ⟨fun _ _ _ x _ a => by cases x <;> cases a <;> rfl, fun K mg H x y v u a b => by
  cases x <;> cases y <;> cases a <;> cases b
  · rfl
  · rfl
  · rfl
  · rename_i x y
    show (x == y) = _
    by_cases h : x = y <;> simp [h]⟩
theorem inV_read [DecidableEq α] [Fla α] {K : PySem.W.Frag} {mg : Str → Option Value} {H : Hp} {x : α} {v : V} (r : R K mg H v (enc x)) : ∀ {l : List α} {xs : List V}, Rs K mg H xs (l.map enc) → xs.all flatV = true ∧ inV v xs = decide (x ∈ l)
  | [], _, .nil => ⟨rfl, rfl⟩
  | y :: l, _, .cons (v := u) (vs := us) a b => by
    obtain ⟨h1, h2⟩ := inV_read r b
    refine ⟨by rw [List.all_cons, Fla.flat K mg H y u a, h1]; rfl, ?_⟩
    unfold inV at h2 ⊢
    rw [List.any_cons, h2, Fla.eq K mg H y x u v a r]
    by_cases h : x = y
    · subst h; simp
    · have h' : ¬ y = x := fun z => h z.symm
      simp [h, h']
section
variable [DecidableEq α] [Fla α]
theorem ve_inL {m1 : M α} {m2 : M (List α)} (ha : VX true X Γ a m1) (hb : VX true X Γ b m2) (hm : behindInMarks .In b = false := by rfl) : VX w X Γ (.Compare a [.In] [b] pos) (m1 >>= fun x => m2 >>= fun l => M.ok (decide (x ∈ l))) := ve_cmp op_in_seq ha hb hm (fun x l H v u r1 r2 Q o => by
  obtain ⟨p, xs, rfl, hq, rs⟩ := r2.lst_inv
  obtain ⟨h1, h2⟩ := inV_read r1 rs
  exact ⟨p, xs, rfl, .inl hq, Fla.flat _ _ _ x v r1, h1, by rw [if_neg Bool.false_ne_true, h2]; exact o⟩) fun _ _ _ z => nomatch z
theorem ve_inNL {m1 : M α} {m2 : M (List α)} (ha : VX true X Γ a m1) (hb : VX true X Γ b m2) (hm : behindInMarks .NotIn b = false := by rfl) : VX w X Γ (.Compare a [.NotIn] [b] pos) (m1 >>= fun x => m2 >>= fun l => M.ok (!decide (x ∈ l))) := ve_cmp op_notIn_seq ha hb hm (fun x l H v u r1 r2 Q o => by
  obtain ⟨p, xs, rfl, hq, rs⟩ := r2.lst_inv
  obtain ⟨h1, h2⟩ := inV_read r1 rs
  exact ⟨p, xs, rfl, .inl hq, Fla.flat _ _ _ x v r1, h1, by rw [if_pos rfl, h2]; exact o⟩) fun _ _ _ z => nomatch z
theorem ve_inT {m1 : M α} {m2 : M (Tup α)} (ha : VX true X Γ a m1) (hb : VX true X Γ b m2) (hm : behindInMarks .In b = false := by rfl) : VX w X Γ (.Compare a [.In] [b] pos) (m1 >>= fun x => m2 >>= fun l => M.ok (decide (x ∈ l.l))) := ve_cmp op_in_seq ha hb hm (fun x l H v u r1 r2 Q o => by
  obtain ⟨p, xs, rfl, hq, rs⟩ := r2.tup_inv
  obtain ⟨h1, h2⟩ := inV_read r1 rs
  exact ⟨p, xs, rfl, .inr hq, Fla.flat _ _ _ x v r1, h1, by rw [if_neg Bool.false_ne_true, h2]; exact o⟩) fun _ _ _ z => nomatch z
theorem ve_inNT {m1 : M α} {m2 : M (Tup α)} (ha : VX true X Γ a m1) (hb : VX true X Γ b m2) (hm : behindInMarks .NotIn b = false := by rfl) : VX w X Γ (.Compare a [.NotIn] [b] pos) (m1 >>= fun x => m2 >>= fun l => M.ok (!decide (x ∈ l.l))) := ve_cmp op_notIn_seq ha hb hm (fun x l H v u r1 r2 Q o => by
  obtain ⟨p, xs, rfl, hq, rs⟩ := r2.tup_inv
  obtain ⟨h1, h2⟩ := inV_read r1 rs
  exact ⟨p, xs, rfl, .inr hq, Fla.flat _ _ _ x v r1, h1, by rw [if_pos rfl, h2]; exact o⟩) fun _ _ _ z => nomatch z
theorem vt_inL {m1 : M α} {m2 : M (List α)} (ha : VX true X Γ a m1) (hb : VX true X Γ b m2) (hm : behindInMarks .In b = false := by rfl) : VT X Γ (.Compare a [.In] [b] pos) (m1 >>= fun x => m2 >>= fun l => M.ok (decide (x ∈ l))) := vt_cmp op_in_seq ha hb hm (fun x l H v u r1 r2 Q o => by
  obtain ⟨p, xs, rfl, hq, rs⟩ := r2.lst_inv
  obtain ⟨h1, h2⟩ := inV_read r1 rs
  exact ⟨p, xs, rfl, .inl hq, Fla.flat _ _ _ x v r1, h1, by rw [if_neg Bool.false_ne_true, h2]; exact o⟩) fun _ _ _ z => nomatch z
theorem vt_inNL {m1 : M α} {m2 : M (List α)} (ha : VX true X Γ a m1) (hb : VX true X Γ b m2) (hm : behindInMarks .NotIn b = false := by rfl) : VT X Γ (.Compare a [.NotIn] [b] pos) (m1 >>= fun x => m2 >>= fun l => M.ok (!decide (x ∈ l))) := vt_cmp op_notIn_seq ha hb hm (fun x l H v u r1 r2 Q o => by
  obtain ⟨p, xs, rfl, hq, rs⟩ := r2.lst_inv
  obtain ⟨h1, h2⟩ := inV_read r1 rs
  exact ⟨p, xs, rfl, .inl hq, Fla.flat _ _ _ x v r1, h1, by rw [if_pos rfl, h2]; exact o⟩) fun _ _ _ z => nomatch z
theorem vt_inT {m1 : M α} {m2 : M (Tup α)} (ha : VX true X Γ a m1) (hb : VX true X Γ b m2) (hm : behindInMarks .In b = false := by rfl) : VT X Γ (.Compare a [.In] [b] pos) (m1 >>= fun x => m2 >>= fun l => M.ok (decide (x ∈ l.l))) := vt_cmp op_in_seq ha hb hm (fun x l H v u r1 r2 Q o => by
  obtain ⟨p, xs, rfl, hq, rs⟩ := r2.tup_inv
  obtain ⟨h1, h2⟩ := inV_read r1 rs
  exact ⟨p, xs, rfl, .inr hq, Fla.flat _ _ _ x v r1, h1, by rw [if_neg Bool.false_ne_true, h2]; exact o⟩) fun _ _ _ z => nomatch z
theorem vt_inNT {m1 : M α} {m2 : M (Tup α)} (ha : VX true X Γ a m1) (hb : VX true X Γ b m2) (hm : behindInMarks .NotIn b = false := by rfl) : VT X Γ (.Compare a [.NotIn] [b] pos) (m1 >>= fun x => m2 >>= fun l => M.ok (!decide (x ∈ l.l))) := vt_cmp op_notIn_seq ha hb hm (fun x l H v u r1 r2 Q o => by
  obtain ⟨p, xs, rfl, hq, rs⟩ := r2.tup_inv
  obtain ⟨h1, h2⟩ := inV_read r1 rs
  exact ⟨p, xs, rfl, .inr hq, Fla.flat _ _ _ x v r1, h1, by rw [if_pos rfl, h2]; exact o⟩) fun _ _ _ z => nomatch z
end
end
end Vc

set_option Elab.async false
set_option linter.all false
set_option maxRecDepth 100000
set_option maxHeartbeats 1000000
/-! ### list(..) over a source of new pairs -/
namespace PySem
namespace TS
open PySem
structure TSrc (prog : Program) (w : World) (A : Around) (I S : Addr) (wr : List Addr) (n : Nat) (Rel : Nat → Value → Value → Prop) (St : Nat → Heap → Prop) : Prop where
  off : S ∉ wr
  frame : ∀ i h h', St i h → (∀ b o, b ≠ S → h.get? b = some o → h'.get? b = some o) → St i h'
  item : ∀ i (s : Shared) (Q : Option Value → Shared → Prop) (E : Value → Shared → Prop), i < n → St i s.heap → S < s.heap.objs.size →
    (∀ k v h' tk, Rel i k v → h'.get? s.heap.objs.size = some { cls := .type "tuple", data := .seq #[k, v] } → St (i + 1) h' → (∀ b o, b ∉ wr → s.heap.get? b = some o → h'.get? b = some o) → Q (some (.ref s.heap.objs.size)) { s with heap := h', toks := tk }) → wpAny (model prog w) A (pyNext (.ref I)) Q E s
  done : ∀ (s : Shared) (Q : Option Value → Shared → Prop) (E : Value → Shared → Prop), St n s.heap →
    (∀ h' tk, (∀ b o, b ∉ wr → s.heap.get? b = some o → h'.get? b = some o) → Q none { s with heap := h', toks := tk }) → wpAny (model prog w) A (pyNext (.ref I)) Q E s
structure TG (Rel : Nat → Value → Value → Prop) (lo : Nat) (h : Heap) (as : List Addr) : Prop where
  rise : as.Pairwise (· < ·)
  above : ∀ a ∈ as, lo ≤ a
  pairs : ∀ (j : Nat) (a : Addr), as[j]? = some a → ∃ k v, Rel j k v ∧ h.get? a = some { cls := .type "tuple", data := .seq #[k, v] }
theorem TG.there {Rel : Nat → Value → Value → Prop} {lo : Nat} {h : Heap} {as : List Addr} (g : TG Rel lo h as) {a : Addr} (ha : a ∈ as) : a < h.objs.size := by
  obtain ⟨j, hj⟩ := List.mem_iff_getElem?.mp ha
  obtain ⟨_, _, _, e⟩ := g.pairs j a hj
  exact Heap.lt_size e
section
variable {prog : Program} {w : World} {A : Around} {s : Shared} {R : Result → Shared → Prop} {I S : Addr} {wr : List Addr} {n : Nat} {Rel : Nat → Value → Value → Prop} {St : Nat → Heap → Prop}
theorem t_loop (W : TSrc prog w A.in1 I S wr n Rel St) {lo : Nat} (hSl : S < lo) (hwl : ∀ b ∈ wr, b < lo) (hn : n ≤ sizeLine) (res : Value) {h₁ : Heap}
    (hR : ∀ h' tk acc c as, (∀ b o, b ≠ S → b ∉ wr → h₁.get? b = some o → h'.get? b = some o) → h'.get? S = some { cls := .type "list", dict := none, data := .seq acc c, slots := #[] } → as.length = n → TG Rel lo h' as →
      acc.toList = as.map Value.ref → R (.ok (.ret res)) { s with heap := h', toks := tk }) :
    ∀ (k i : Nat) (h : Heap) (tk c : Nat) (acc : Array Value) (as : List Addr), n - i = k → i ≤ n → St i h → (∀ b o, b ≠ S → b ∉ wr → h₁.get? b = some o → h.get? b = some o) →
      h.get? S = some { cls := .type "list", dict := none, data := .seq acc c, slots := #[] } → acc.toList = as.map Value.ref → as.length = i → TG Rel lo h as → lo ≤ h.objs.size →
      codeAny (model prog w) A (.builtin "list.extend.loop" ⟨[.ref S, .ref I, res], []⟩) R { s with heap := h, toks := tk } := by
  have nw : ∀ {a : Addr}, lo ≤ a → a ∉ wr := fun {a} h z => absurd (hwl a z) (Nat.not_lt.mpr h)
  intro k
  induction k with
  | zero =>
    intro i h tk c acc as hk hi hst hkeep hS hacc hal hG hIs
    have hin : i = n := by omega
    subst hin
    refine codeAny_builtin PySem.F.entry_extend_loop ?_
    rw [Around.under_plainId PySem.F.plain_extend_loop _]
    show wpAny _ A.in1 (pyNext (.ref I) >>= _) _ _ _
    refine wpAny_bind (W.done { s with heap := h, toks := tk } _ _ hst fun h' tk' he => ?_)
    refine wpAny_pure (hR h' tk' acc c as (fun b o h1 h2 e => he b o h2 (hkeep b o h1 h2 e)) (he S _ W.off hS) (by omega) ⟨hG.rise, hG.above, fun j a hj => ?_⟩ hacc)
    obtain ⟨key, x, e2, e3⟩ := hG.pairs j a hj
    exact ⟨key, x, e2, he a _ (nw (hG.above a (List.mem_of_getElem? hj))) e3⟩
  | succ k ih =>
    intro i h tk c acc as hk hi hst hkeep hS hacc hal hG hIs
    have hlt : i < n := by omega
    have hsz : acc.size = i := by rw [← Array.length_toList, hacc, List.length_map, hal]
    refine codeAny_builtin PySem.F.entry_extend_loop ?_
    rw [Around.under_plainId PySem.F.plain_extend_loop _]
    show wpAny _ A.in1 (pyNext (.ref I) >>= _) _ _ _
    refine wpAny_bind (W.item i { s with heap := h, toks := tk } _ _ hlt hst (Heap.lt_size hS) fun key x h' tk' hkey ht hst' hkp => ?_)
    dsimp only at ht hkp ⊢
    have hS' := hkp S _ W.off hS
    have up : ∀ b o, b ≠ S → h'.get? b = some o → (h'.update S (Obj.mapSeq (·.push (Value.ref h.objs.size)))).get? b = some o := fun b o hb e => (Heap.get?_update_other _ _ (Ne.symm hb)).trans e
    have hSl' : S < h.objs.size := Heap.lt_size hS
    show wpAny _ A.in1 (updateSeq S (·.push (Value.ref h.objs.size)) >>= _) _ _ _
    refine wpAny_bind ?_
    refine wpAny_updateSeq hS' rfl (wpAny_pure ⟨plainId_quiet PySem.F.plain_extend_loop _, ih (i + 1) _ tk' _ (acc.push (Value.ref h.objs.size)) (as ++ [h.objs.size]) (by omega) hlt (W.frame _ _ _ hst' up)
      (fun b o h1 h2 e => up b o h1 (hkp b o h2 (hkeep b o h1 h2 e))) (Heap.get?_update_self _ hS' rfl) (by rw [Array.toList_push, hacc, List.map_append]; rfl) (by rw [List.length_append, hal]; rfl) ⟨?_, ?_, ?_⟩ ?_⟩) (by rw [hsz]; omega) (by show (acc.push (Value.ref h.objs.size)).size ≤ sizeLine + 1; rw [Array.size_push, hsz]; omega)
    · refine List.pairwise_append.mpr ⟨hG.rise, List.pairwise_singleton _ _, fun a ha b hb => ?_⟩
      rw [List.mem_singleton.mp hb]
      exact hG.there ha
    · intro a ha
      rcases List.mem_append.mp ha with ha | ha
      · exact hG.above a ha
      · rw [List.mem_singleton.mp ha]; exact hIs
    · intro j b hj
      rcases Nat.lt_trichotomy j as.length with h1 | h1 | h1
      · rw [List.getElem?_append_left h1] at hj
        obtain ⟨key', x', e2, e3⟩ := hG.pairs j b hj
        have hb := hG.above b (List.mem_of_getElem? hj)
        exact ⟨key', x', e2, up b _ (Nat.ne_of_gt (Nat.lt_of_lt_of_le hSl hb)) (hkp b _ (nw hb) e3)⟩
      · subst h1
        have hb : h.objs.size = b := by simpa using hj
        subst hb
        exact ⟨key, x, by rw [hal]; exact hkey, up _ _ (Nat.ne_of_gt hSl') ht⟩
      · have hnone : (as ++ [h.objs.size])[j]? = none := List.getElem?_eq_none (by rw [List.length_append, List.length_singleton]; omega)
        rw [hnone] at hj; cases hj
    · have e : (h'.update S (Obj.mapSeq (·.push (Value.ref h.objs.size)))).get? h.objs.size = _ := up _ _ (Nat.ne_of_gt hSl') ht
      exact Nat.le_of_lt (Nat.lt_of_le_of_lt hIs (Heap.lt_size e))
end
section
variable {prog : Program} {w : World} {A : Around} {E : Value → Shared → Prop} {s : Shared} {I : Addr} {n : Nat} {Rel : Nat → Value → Value → Prop} {T : String}
theorem t_call {wr : List Addr} {St : Nat → Heap → Prop} {Q : Value → Shared → Prop} (hT : ∀ s' : Shared, (∀ b o, b ≠ s.heap.objs.size → s.heap.get? b = some o → s'.heap.get? b = some o) → s'.TypeIs (.ref I) T) (hIl : I < s.heap.objs.size)
    (hit : ∀ (A : Around) (s' : Shared) (Q : Value → Shared → Prop) (E : Value → Shared → Prop), (∀ b o, b ≠ s.heap.objs.size → s.heap.get? b = some o → s'.heap.get? b = some o) → Q (.ref I) s' → wpAny (model prog w) A (pyIter (.ref I)) Q E s')
    (h2 : (Value.type T == Value.type "list") = false) (h3 : (Value.type T == Value.type "tuple") = false) (hl : typeLookup (.type T) "__len__" = pure none) (hh : typeLookup (.type T) "__length_hint__" = pure none)
    (W : TSrc prog w A.in1.in1 I s.heap.objs.size wr n Rel St) (hwl : ∀ b ∈ wr, b < s.heap.objs.size) (hst : ∀ h', (∀ b o, b ≠ s.heap.objs.size → s.heap.get? b = some o → h'.get? b = some o) → St 0 h') (hn : n ≤ sizeLine)
    (hQ : ∀ h' tk acc c as, (∀ b o, b ∉ wr → s.heap.get? b = some o → h'.get? b = some o) → h'.get? s.heap.objs.size = some { cls := .type "list", dict := none, data := .seq acc c, slots := #[] } → as.length = n → TG Rel (s.heap.objs.size + 1) h' as →
      acc.toList = as.map Value.ref → Q (.ref s.heap.objs.size) { s with heap := h', toks := tk }) :
    wpAny (model prog w) A (call (.type "list") [.ref I]) Q E s := by
  refine callType_codes (Q₁ := fun obj s₁ => obj = .ref s.heap.objs.size ∧ s₁ = { s with heap := s.heap.push { cls := .type "list", data := .seq #[] } }) PySem.F.called_list (PySem.F.typeCall_list_1 _) PySem.F.entry_list_init
    (code_list_new _ ⟨rfl, rfl⟩) fun obj s₁ h₁ => ?_
  obtain ⟨rfl, rfl⟩ := h₁
  have hS : (s.heap.push { cls := .type "list", data := .seq #[] }).get? s.heap.objs.size = some { cls := .type "list", data := .seq #[] } := Heap.get?_push_size _ rfl
  have hSI : s.heap.objs.size ≠ I := Nat.ne_of_gt hIl
  refine ⟨⟨_, hS, rfl⟩, PySem.F.args_list_init_2 _ _, ?_⟩
  show wpAny _ A.in1.in1 (do let old ← Builtin.List.listItems (.ref s.heap.objs.size); Builtin.List.listUpdate (.ref s.heap.objs.size) (fun _ => #[]); letGo old.toList.reverse; Builtin.List.listExtendWith (.ref s.heap.objs.size) (.ref I) .none) _ _ _
  refine wpAny_bind ?_
  unfold Builtin.List.listItems
  refine wpAny_bind (wpAny_seqItems hS rfl (wpAny_pure ?_))
  show wpAny _ A.in1.in1 (updateSeq s.heap.objs.size (fun _ => #[]) >>= fun _ => letGo (#[] : Array Value).toList.reverse >>= fun _ => Builtin.List.listExtendWith (.ref s.heap.objs.size) (.ref I) .none) _ _ _
  refine wpAny_bind (wpAny_updateSeq hS rfl ?_)
  have hS2 := Heap.get?_update_self (Obj.mapSeq (fun _ => (#[] : Array Value))) hS rfl
  refine wpAny_bind (wpAny_letGo ?_)
  unfold Builtin.List.listExtendWith
  have up : ∀ (h : Heap) (f : Obj → Obj), (∀ b o, b ≠ s.heap.objs.size → s.heap.get? b = some o → h.get? b = some o) → ∀ b o, b ≠ s.heap.objs.size → s.heap.get? b = some o → (h.update s.heap.objs.size f).get? b = some o := fun h f q b o hb e =>
    (Heap.get?_update_other _ _ (Ne.symm hb)).trans (q b o hb e)
  have k1 : ∀ b o, b ≠ s.heap.objs.size → s.heap.get? b = some o → (s.heap.push { cls := .type "list", data := .seq #[] }).get? b = some o := fun b o _ e => Heap.get?_push_of_some _ e
  have k2 := up _ (Obj.mapSeq (fun _ => (#[] : Array Value))) k1
  refine wpAny_bind (wpAny_typeOf (hT _ k2) ?_)
  have h1 : Builtin.List.listSameRef (.ref s.heap.objs.size) (.ref I) = false := by simp [Builtin.List.listSameRef, hSI]
  simp only [h1, h2, h3, Bool.or_false, Bool.false_eq_true, if_false]
  refine wpAny_bind (hit _ _ _ _ k2 ?_)
  refine wpAny_bind (wpAny_holding ?_)
  unfold Builtin.List.listLengthHint
  refine wpAny_bind (wpAny_specialOf (hT _ k2) hl ?_)
  show wpAny _ A.in1.in1 (specialOf (Value.ref I) (Str.ofString "__length_hint__") >>= _) _ _ _
  refine wpAny_bind (wpAny_specialOf (hT _ k2) hh ?_)
  refine wpAny_pure ?_
  show wpAny _ A.in1.in1 (rule "list.extend.makes-room" >>= fun _ => Builtin.List.listTouch (.ref s.heap.objs.size) >>= fun _ =>
    again (.builtin "list.extend.loop" ⟨[.ref s.heap.objs.size, .ref I, .none], []⟩)) _ _ _
  refine wpAny_bind (wpAny_rule ?_)
  refine wpAny_bind ?_
  show wpAny _ A.in1.in1 (updateSeq s.heap.objs.size (·.push .none) >>= fun _ => updateSeq s.heap.objs.size (·.pop)) _ _ _
  refine wpAny_bind (wpAny_updateSeq hS2 rfl ?_)
  have hS3 := Heap.get?_update_self (Obj.mapSeq (·.push Value.none)) hS2 rfl
  refine wpAny_updateSeq (hz := by seq_fits) hS3 rfl ?_
  have hS4 := Heap.get?_update_self (Obj.mapSeq (·.pop)) hS3 rfl
  have k4 := up _ (Obj.mapSeq (·.pop)) (up _ (Obj.mapSeq (·.push Value.none)) k2)
  refine wpAny_pure ⟨plainId_quiet PySem.F.plain_extend_loop _, ?_⟩
  exact t_loop (A := A.in1) (h₁ := s.heap) (s := s) (lo := s.heap.objs.size + 1) (W) (Nat.lt_succ_self _) (fun b hb => Nat.lt_succ_of_lt (hwl b hb)) hn .none
    (fun h' tk acc c as hk hS' hl' hG hacc => ⟨rfl, hQ h' tk acc c as (fun b o hb e => hk b o (Nat.ne_of_lt (Heap.lt_size e)) hb e) hS' hl' hG hacc⟩)
    n 0 _ s.toks _ #[] [] (Nat.sub_zero _) (Nat.zero_le _) (hst _ k4) (fun b o hb _ e => k4 b o hb e) hS4 rfl rfl ⟨List.Pairwise.nil, (fun _ ha => nomatch ha), (fun j a hj => by simp at hj)⟩ (Heap.lt_size hS4)
end
theorem enum_len0 : typeLookup (.type "enumerate") "__len__" = pure none := by rw [typeLookup_type, builtinLookup_eq_fast]; kernel_rfl
theorem enum_hint0 : typeLookup (.type "enumerate") "__length_hint__" = pure none := by rw [typeLookup_type, builtinLookup_eq_fast]; kernel_rfl
theorem zip_len0 : typeLookup (.type "zip") "__len__" = pure none := by rw [typeLookup_type, builtinLookup_eq_fast]; kernel_rfl
theorem zip_hint0 : typeLookup (.type "zip") "__length_hint__" = pure none := by rw [typeLookup_type, builtinLookup_eq_fast]; kernel_rfl
section
open PySem.W
variable {prog : Program} {w : World} {A : Around}
def StE (e it l S : Addr) (items : Array Value) (i : Nat) (h : Heap) : Prop :=
  h.IsListIter it l i ∧ h.IsList l items ∧ ((∃ old, IsEnum h e it i old) ∨ ∃ old T f oT, IsEnumHeld h e it i old T f ∧ h.get? T = some oT ∧ T ≠ e ∧ T ≠ it ∧ T ≠ S)
theorem src_enum {e it l S : Addr} (hA : A.handled = none) (hei : e ≠ it) (hle : l ≠ e) (hli : l ≠ it) (hSe : S ≠ e) (hSi : S ≠ it) (hSl : S ≠ l) (items : Array Value) :
    TSrc prog w A e S [e, it] items.size (fun i k v => (∃ t, k = .int i t) ∧ items[i]? = some v) (StE e it l S items) where
  off := by simp [hSe, hSi]
  frame := fun i g1 g2 ⟨st1, st2, st3⟩ kp => ⟨st1.at fun o y => kp _ o (Ne.symm hSi) y, st2.at fun o y => kp _ o (Ne.symm hSl) y, st3.elim (fun ⟨old, y⟩ => .inl ⟨old, kp _ _ (Ne.symm hSe) y⟩)
    fun ⟨old, T, f, oT, y, hT, q1, q2, q3⟩ => .inr ⟨old, T, f, oT, kp _ _ (Ne.symm hSe) y, kp _ _ q3 hT, q1, q2, q3⟩⟩
  item := fun i sa Qa Ea hi ⟨st1, st2, st3⟩ hds hQ => by
    have eg := Array.getElem?_eq_getElem hi
    have ei : ((i + 1 : Nat) : Int) = (i : Int) + 1 := by omega
    have nn : sa.heap.objs.size ≠ it := let ⟨_, y, _⟩ := st1; Nat.ne_of_gt (Heap.lt_size y)
    rcases st3 with ⟨old, he⟩ | ⟨old, T, f, oT, he, hT, q1, q2, q3⟩
    · refine wpAny_pyNext_enum_item he st1 st2 eg hei fun g1 y1 y2 y3 y4 y5 => ?_
      exact hQ _ _ g1 (sa.toks + 1) ⟨⟨_, rfl⟩, eg⟩ y3 ⟨y2, st2.at fun o y => y5 l o hle hli y, .inr ⟨_, sa.heap.objs.size, false, _, (by rw [ei]; exact y1), y3, Nat.ne_of_gt (Heap.lt_size he), nn, Nat.ne_of_gt hds⟩⟩
        fun b o hb y => y5 b o (fun z => hb (by simp [z])) (fun z => hb (by simp [z])) y
    · refine wpAny_pyNext_enum_item_held he hT q1 q2 st1 st2 eg hei fun g1 y1 y2 y3 y4 y5 => ?_
      exact hQ _ _ g1 (sa.toks + 1) ⟨⟨_, rfl⟩, eg⟩ y3 ⟨y2, st2.at fun o y => y5 l o hle hli y, .inr ⟨old, T, true, oT, (by rw [ei]; exact y1), y5 _ _ q1 q2 hT, q1, q2, q3⟩⟩
        fun b o hb y => y5 b o (fun z => hb (by simp [z])) (fun z => hb (by simp [z])) y
  done := fun sa Qa Ea ⟨st1, st2, st3⟩ hQ => by
    have eg : items[items.size]? = none := Array.getElem?_eq_none (Nat.le_refl _)
    rcases st3 with ⟨old, he⟩ | ⟨old, T, f, oT, he, hT, q1, q2, q3⟩
    · exact wpAny_pyNext_enum_end hA he st1 st2 eg fun g1 y5 => hQ g1 sa.toks fun b o hb y => y5 b o (fun z => hb (by simp [z])) y
    · exact wpAny_pyNext_enum_end_held hA he st1 st2 eg fun g1 y5 => hQ g1 sa.toks fun b o hb y => y5 b o (fun z => hb (by simp [z])) y
def StZ (z TI TO i1 i2 l1 l2 S : Addr) (xs ys : Array Value) (i : Nat) (h : Heap) : Prop :=
  IsPair h TI (.ref i1) (.ref i2) ∧ h.IsListIter i1 l1 i ∧ h.IsListIter i2 l2 i ∧ h.IsList l1 xs ∧ h.IsList l2 ys ∧
      ((IsZip h z TI TO .none ∧ ∃ a b, IsPair h TO a b) ∨ ∃ T f oT, IsZipHeld h z TI TO T f ∧ h.get? T = some oT ∧ T ≠ z ∧ T ≠ i1 ∧ T ≠ i2 ∧ T ≠ S)
theorem src_zip {z TI TO i1 i2 l1 l2 S : Addr} (hA : A.handled = none) (D : ZipApart z TI TO i1 i2 l1 l2) (hS : ∀ b ∈ [z, TI, TO, i1, i2, l1, l2], S ≠ b) (xs ys : Array Value) :
    TSrc prog w A z S [z, TO, i1, i2] (min xs.size ys.size) (fun i k v => xs[i]? = some k ∧ ys[i]? = some v) (StZ z TI TO i1 i2 l1 l2 S xs ys) where
  off := fun hm => hS S (by simp only [List.mem_cons, List.not_mem_nil, or_false] at hm ⊢; rcases hm with e | e | e | e <;> simp [e]) rfl
  frame := fun i g1 g2 ⟨st1, st2, st3, st4, st5, st6⟩ kp => by
    have ne : ∀ b ∈ [z, TI, TO, i1, i2, l1, l2], b ≠ S := fun b hb => (hS b hb).symm
    refine ⟨kp _ _ (ne _ (by simp)) st1, st2.at fun o y => kp _ o (ne _ (by simp)) y, st3.at fun o y => kp _ o (ne _ (by simp)) y, st4.at fun o y => kp _ o (ne _ (by simp)) y, st5.at fun o y => kp _ o (ne _ (by simp)) y, ?_⟩
    rcases st6 with ⟨hz, a, b, hTO⟩ | ⟨T, f, oT, hz, hT, q1, q2, q3, q4⟩
    · exact .inl ⟨kp _ _ (ne _ (by simp)) hz, a, b, kp _ _ (ne _ (by simp)) hTO⟩
    · exact .inr ⟨T, f, oT, kp _ _ (ne _ (by simp)) hz, kp _ _ q4 hT, q1, q2, q3, q4⟩
  item := fun i sa Qa Ea hi ⟨st1, st2, st3, st4, st5, st6⟩ hds hQ => by
    have ga := Array.getElem?_eq_getElem (Nat.lt_of_lt_of_le hi (Nat.min_le_left ..))
    have gb := Array.getElem?_eq_getElem (Nat.lt_of_lt_of_le hi (Nat.min_le_right ..))
    have lt : ∀ {c o}, sa.heap.get? c = some o → sa.heap.objs.size ≠ c := fun e => Nat.ne_of_gt (Heap.lt_size e)
    have n1 : sa.heap.objs.size ≠ i1 := let ⟨_, e, _⟩ := st2; lt e
    have n2 : sa.heap.objs.size ≠ i2 := let ⟨_, e, _⟩ := st3; lt e
    rcases st6 with ⟨hz, a, b, hTO⟩ | ⟨T, f, oT, hz, hT, q1, q2, q3, q4⟩
    · refine wpAny_pyNext_zip_item D hz st1 hTO st2 st3 st4 st5 ga gb fun g1 a1 a2 a3 a4 a5 a6 kp => ?_
      exact hQ _ _ g1 sa.toks ⟨ga, gb⟩ a5
        ⟨kp _ _ D.TIz D.TITO D.TIi1 D.TIi2 st1, a3, a4, st4.at fun o e => kp _ o D.l1z D.l1TO D.l1i1 D.l1i2 e, st5.at fun o e => kp _ o D.l2z D.l2TO D.l2i1 D.l2i2 e, .inr ⟨sa.heap.objs.size, false, _, a1, a5, lt hz, n1, n2, Nat.ne_of_gt hds⟩⟩
        fun c o hc e => kp c o (fun x => hc (by simp [x])) (fun x => hc (by simp [x])) (fun x => hc (by simp [x])) (fun x => hc (by simp [x])) e
    · refine wpAny_pyNext_zip_item_held D hz hT st1 st2 st3 st4 st5 ga gb fun g1 a1 a3 a4 a5 a6 kp => ?_
      exact hQ _ _ g1 sa.toks ⟨ga, gb⟩ a5
        ⟨kp _ _ D.TIz D.TIi1 D.TIi2 st1, a3, a4, st4.at fun o e => kp _ o D.l1z D.l1i1 D.l1i2 e, st5.at fun o e => kp _ o D.l2z D.l2i1 D.l2i2 e, .inr ⟨T, true, oT, a1, kp _ _ q1 q2 q3 hT, q1, q2, q3, q4⟩⟩
        fun c o hc e => kp c o (fun x => hc (by simp [x])) (fun x => hc (by simp [x])) (fun x => hc (by simp [x])) e
  done := fun sa Qa Ea ⟨st1, st2, st3, st4, st5, st6⟩ hQ => by
    have hend : xs[min xs.size ys.size]? = none ∨ ys[min xs.size ys.size]? = none := (Nat.le_total xs.size ys.size).elim (fun h => .inl (Array.getElem?_eq_none (by rw [Nat.min_eq_left h]; exact Nat.le_refl _))) fun h => .inr (Array.getElem?_eq_none (by rw [Nat.min_eq_right h]; exact Nat.le_refl _))
    rcases st6 with ⟨hz, a, b, hTO⟩ | ⟨T, f, oT, hz, hT, q1, q2, q3, q4⟩
    · exact wpAny_pyNext_zip_end hA D hz st1 hTO st2 st3 st4 st5 hend fun g1 kp => hQ g1 sa.toks fun c o hc e => kp c o (fun x => hc (by simp [x])) (fun x => hc (by simp [x])) (fun x => hc (by simp [x])) (fun x => hc (by simp [x])) e
    · exact wpAny_pyNext_zip_end_held hA D hz hT st1 st2 st3 st4 st5 hend fun g1 kp => hQ g1 sa.toks fun c o hc e => kp c o (fun x => hc (by simp [x])) (fun x => hc (by simp [x])) (fun x => hc (by simp [x])) e
end
end TS
end PySem

namespace Vc
open PySem PySem.Spec PyProof.Rows L2
open Enc (enc)
/-- new pairs at their addresses -/
def layP : Hp → List Addr → List (V × V) → Hp
  | H, a :: as, p :: ps => layP (upd H a (.tup [p.1, p.2])) as ps
  | H, _, _ => H
theorem layP_off {b : Addr} : ∀ (as : List Addr) (ps : List (V × V)) (H : Hp), b ∉ as → layP H as ps b = H b
  | [], _, _, _ => rfl
  | _ :: _, [], _, _ => rfl
  | a :: as, p :: ps, H, h => by
    show layP (upd H a (.tup [p.1, p.2])) as ps b = H b
    rw [layP_off as ps _ fun z => h (List.mem_cons_of_mem _ z), upd_ne fun z => h (by rw [z]; exact List.mem_cons_self)]
theorem layP_at : ∀ (as : List Addr) (ps : List (V × V)) (H : Hp), as.Nodup → ∀ (j : Nat) (a : Addr) (p : V × V), as[j]? = some a → ps[j]? = some p → layP H as ps a = some (.tup [p.1, p.2]) := by
  intro as
  induction as with
  | nil => intro ps H _ j a p h _; simp at h
  | cons b as ih =>
    intro ps H hn j a p h1 h2
    cases ps with
    | nil => simp at h2
    | cons q ps =>
      show layP (upd H b (.tup [q.1, q.2])) as ps a = _
      cases j with
      | zero =>
        cases h1; cases h2
        rw [layP_off as ps _ (List.nodup_cons.mp hn).1, upd_same]
      | succ j => exact ih ps _ (List.nodup_cons.mp hn).2 j a p (by simpa using h1) (by simpa using h2)
theorem vals_ref : ∀ as : List Addr, Vals (as.map V.ref) (as.map Value.ref)
  | [] => .nil
  | _ :: as => .cons rfl (vals_ref as)
theorem laid {X : Cx} {pins : List (Addr × Obj)} {σ : L2.St} {H : Hp} {s : Shared} {h' : Heap} {tk : Nat} {Rel : Nat → Value → Value → Prop} {ps : List (V × V)} {acc : Array Value} {c : Nat} {as : List Addr} {n : Nat} (I : Inv X pins σ H s) (hz : ps.length ≤ sizeLine)
    (hk : ∀ b o, s.heap.get? b = some o → h'.get? b = some o) (hS : h'.get? n = some { cls := .type "list", dict := none, data := .seq acc c, slots := #[] }) (hn : s.heap.objs.size ≤ n) (hl : as.length = ps.length) (hG : TS.TG Rel (n + 1) h' as) (hacc : acc.toList = as.map Value.ref)
    (hR : ∀ (j : Nat) (k v : Value) (p : V × V), Rel j k v → ps[j]? = some p → RelV p.1 k ∧ RelV p.2 v) :
    H n = none ∧ (∀ t ∈ as, H t = none) ∧ n ∉ as ∧ as.Nodup ∧ Inv X pins σ (layP (upd H n (.lst (as.map V.ref))) as ps) { s with heap := h', toks := tk } := by
  have hSn : n ∉ as := fun z => by
    have h1 : n + 1 ≤ n := hG.above _ z
    omega
  have nd : as.Nodup := List.Pairwise.imp (fun {a b} (h : a < b) => Nat.ne_of_lt h) hG.rise
  have ab : ∀ t ∈ as, s.heap.objs.size ≤ t := fun t ht => Nat.le_trans hn (Nat.le_of_succ_le (hG.above t ht))
  have new : ∀ t ∈ as, H t = none := fun t ht => I.hok.fresh (ab t ht)
  have newS : H n = none := I.hok.fresh hn
  have off : ∀ b, b ∉ as → b ≠ n → layP (upd H n (.lst (as.map V.ref))) as ps b = H b := fun b h1 h2 => by rw [layP_off as ps _ h1, upd_ne h2]
  have low : ∀ b o, s.heap.get? b = some o → b ∉ as ∧ b ≠ n := fun b o e => by
    have := Heap.lt_size e
    exact ⟨fun z => absurd (ab b z) (Nat.not_le.mpr this), Nat.ne_of_lt (Nat.lt_of_lt_of_le this hn)⟩
  have kp : ∀ b u, H b = some u → (layP (upd H n (.lst (as.map V.ref))) as ps) b = some u := fun b u e => by
    rw [off b (fun z => by rw [new b z] at e; cases e) (fun z => by rw [z, newS] at e; cases e)]
    exact e
  have eS : layP (upd H n (.lst (as.map V.ref))) as ps n = some (.lst (as.map V.ref)) := by rw [layP_off as ps _ hSn, upd_same]
  refine ⟨newS, new, hSn, nd, ?_⟩
  refine I.call' (ch := []) rfl ⟨fun b o q _ _ _ => hk b o q, fun b o q _ _ _ => ⟨o.slots, hk b o q⟩, fun b o q m _ => ?_, fun b o q _ => ⟨o, hk b o q⟩, fun b xs q => kp b _ q, fun b o u q => kp b _ q, fun b qs q => ⟨#[], by rw [kp b _ q]; simp⟩⟩ (fun b u q => ?_) I.bare fun b z => by simp at z
  · obtain ⟨z1, z2⟩ := low b o q
    rw [off b z1 z2]
    exact m
  · by_cases hb : b ∈ as
    · obtain ⟨j, e1⟩ := List.mem_iff_getElem?.mp hb
      have hj : j < ps.length := by rw [← hl]; exact (List.getElem?_eq_some_iff.mp e1).1
      obtain ⟨k, v, f2, f3⟩ := hG.pairs j b e1
      have e2 := List.getElem?_eq_getElem hj
      rw [layP_at as ps _ nd j b _ e1 e2] at q
      cases q
      obtain ⟨g1, g2⟩ := hR j k v _ f2 e2
      exact ⟨by show 2 ≤ sizeLine; decide, [k, v], .cons g1 (.cons g2 .nil), ⟨_, f3, rfl, _, rfl⟩⟩
    · by_cases hb2 : b = n
      · rw [hb2] at q ⊢
        rw [eS] at q
        cases q
        refine ⟨by rw [List.length_map, hl]; exact hz, acc.toList, c, by rw [hacc]; exact vals_ref as, ?_⟩
        rw [Array.toArray_toList]
        exact hS
      · rw [off b hb hb2] at q
        exact (I.hok b u q).stay (fun d v _ y => hk d v y) (fun d y => kp d _ y) fun d xs y => kp d _ y
/-- what list() of new pairs leaves -/
def LaidQ (H : Hp) (ps : List (V × V)) (Q : L2.VK) : Prop := ∀ (n : Addr) (as : List Addr), H n = none → (∀ t ∈ as, H t = none) → n ∉ as → as.Nodup → as.length = ps.length → Q (.ref n) (layP (upd H n (.lst (as.map V.ref))) as ps)
def enumV (xs : List V) : List (V × V) := xs.zipIdx.map fun p => (.int (p.2 : Nat), p.1)
theorem enumV_get {xs : List V} {j : Nat} {p : V × V} (h : (enumV xs)[j]? = some p) : p.1 = .int (j : Nat) ∧ xs[j]? = some p.2 := by
  unfold enumV at h
  rw [List.getElem?_map, List.getElem?_zipIdx] at h
  cases e : xs[j]? with
  | none => rw [e] at h; cases h
  | some x =>
    rw [e] at h
    cases h
    exact ⟨by simp, rfl⟩
theorem enumV_len (xs : List V) : (enumV xs).length = xs.length := by unfold enumV; simp
def tListEnum (K : PySem.W.Frag) (te : TE) : TE := fun σ H Q => te σ H fun x H1 => ∃ a xs, x = .ref a ∧ SqL K H1 a xs ∧ LaidQ H1 (enumV xs) Q
def tListZip (K : PySem.W.Frag) (ta : TA) : TE := fun σ H Q => ta σ H fun vs H1 => ∃ a b xs ys, vs = [.ref a, .ref b] ∧ SqL K H1 a xs ∧ SqL K H1 b ys ∧ LaidQ H1 (xs.zip ys) Q
section
variable {X : Cx} {e e2 : Expr} {te : TE} {ta : TA} {p pos q pos2 : Pos}
theorem pe_listEnum (hc : X.calm = true) (hg : Gl X "list") (hm : X.mg "list" = none) (hg2 : Gl X "enumerate") (hm2 : X.mg "enumerate" = none) (he : PE X e te)
    (na : starEach [e] X.env = (false, eval e X.env) :: starEach [] X.env) (nb : starEach [.Call (.Name "enumerate" q) [e] [] pos2] X.env = (false, eval (.Call (.Name "enumerate" q) [e] [] pos2) X.env) :: starEach [] X.env) :
    PE X (.Call (.Name "list" p) [.Call (.Name "enumerate" q) [e] [] pos2] [] pos) (tListEnum X.K te) := by
  refine ⟨fun pins s σ H Q I h => ?_⟩
  refine Call_ (ld_blt I hg hm boot_list (PyProof.Rows.callWith_type1 (args_cons ?_ nb) nb))
  refine Call_ (ld_blt I hg2 hm2 boot_enumerate (PyProof.Rows.callWith_type1 (args_cons (thn (he.run pins s σ H _ I h) fun u s1 ⟨x, H1, I1, rx, a, xs, ex, hq, k⟩ => args_nil ?_) na) na))
  subst ex
  cases rx
  obtain ⟨its, rv, pl, hz⟩ := I1.list hq
  have la : a < s1.heap.objs.size := pl.lt
  have hlen := rv.length
  refine call_enumerate_list pl.isList fun h2 y1 y2 y3 y4 => args_nil ?_
  have li : h2.objs.size ≠ a := by rw [y3]; exact Nat.ne_of_gt (Nat.lt_of_lt_of_le la (Nat.le_add_right _ _))
  refine TS.t_call (s := { s1 with heap := h2 }) (T := "enumerate") (n := its.length) (wr := [s1.heap.objs.size + 1, s1.heap.objs.size]) (Rel := fun i k v => (∃ t, k = .int i t) ∧ its.toArray[i]? = some v) (St := TS.StE (s1.heap.objs.size + 1) s1.heap.objs.size a h2.objs.size its.toArray)
    (fun s' k => ⟨_, k _ _ (by show s1.heap.objs.size + 1 ≠ h2.objs.size; rw [y3]; exact Nat.ne_of_lt (Nat.lt_succ_self _)) y1, rfl⟩) (by show _ < h2.objs.size; rw [y3]; exact Nat.lt_succ_self _)
    (fun A' s' Q' E' k hQ => wpAny_pyIter_enum (k _ _ (by show s1.heap.objs.size + 1 ≠ h2.objs.size; rw [y3]; exact Nat.ne_of_lt (Nat.lt_succ_self _)) y1) hQ) (by decide) (by decide) TS.enum_len0 TS.enum_hint0 ?_ ?_ ?_ (by rw [← hlen]; exact hz) ?_
  · have := TS.src_enum (prog := X.prog) (w := X.w) (A := X.A.in1.in1) (e := s1.heap.objs.size + 1) (it := s1.heap.objs.size) (l := a) (S := h2.objs.size) (I1.ok.hd hc) (Nat.succ_ne_self _) (Nat.ne_of_lt (Nat.lt_succ_of_lt la)) (Nat.ne_of_lt la) (by rw [y3]; exact Nat.ne_of_gt (Nat.lt_succ_self _)) (by rw [y3]; exact Nat.ne_of_gt (Nat.lt_add_of_pos_right (by decide))) li its.toArray
    rw [List.size_toArray] at this
    exact this
  · intro b hb
    show b < h2.objs.size
    rw [y3]
    simp only [List.mem_cons, List.not_mem_nil, or_false] at hb
    rcases hb with z | z <;> rw [z]
    · exact Nat.lt_succ_self _
    · exact Nat.lt_add_of_pos_right (by decide)
  · intro h3 k
    have k' : ∀ b o, b < h2.objs.size → h2.get? b = some o → h3.get? b = some o := fun b o hb e => k b o (Nat.ne_of_lt hb) e
    have lt2 : ∀ b, b < s1.heap.objs.size + 2 → b < h2.objs.size := fun b hb => by rw [y3]; exact hb
    exact ⟨y2.at fun o y => k' _ o (lt2 _ (Nat.lt_add_of_pos_right (by decide))) y, pl.isList.at fun o y => k' _ o (lt2 _ (Nat.lt_of_lt_of_le la (Nat.le_add_right _ _))) (y4 _ o y), .inl ⟨.none, k' _ _ (lt2 _ (Nat.lt_succ_self _)) y1⟩⟩
  · intro h3 tk acc c as k5 hS hl hG hacc
    have hz' : (enumV xs).length ≤ sizeLine := by rw [enumV_len]; exact hz
    obtain ⟨q1, q2, q3, q4, q5⟩ := laid (ps := enumV xs) (n := h2.objs.size) (tk := tk) (h' := h3) I1 hz' (fun b o ob => k5 b o (fun z => by
      have := Heap.lt_size ob
      simp only [List.mem_cons, List.not_mem_nil, or_false] at z
      rcases z with z | z <;> rw [z] at this
      · exact absurd this (Nat.not_lt.mpr (Nat.le_succ _))
      · exact absurd this (Nat.lt_irrefl _)) (y4 b o ob)) hS (by rw [y3]; exact Nat.le_add_right _ _) (by rw [hl, enumV_len, hlen]) hG hacc (fun j k v p hr hp => by
      obtain ⟨⟨t, rfl⟩, r2⟩ := hr
      obtain ⟨f1, f2⟩ := enumV_get hp
      rw [f1]
      refine ⟨⟨t, rfl⟩, ?_⟩
      obtain ⟨u, g1, g2⟩ := rv.get f2
      rw [show its.toArray[j]? = its[j]? by simp, g1] at r2
      cases r2
      exact g2)
    exact ⟨.ref h2.objs.size, _, q5, rfl, k _ as q1 q2 q3 q4 (by rw [hl, enumV_len, hlen])⟩
theorem zip_getP {xs ys : List V} {j : Nat} {p : V × V} (h : (xs.zip ys)[j]? = some p) : xs[j]? = some p.1 ∧ ys[j]? = some p.2 := by
  rw [List.getElem?_zip_eq_some] at h
  exact h
theorem pe_listZip (hc : X.calm = true) (hg : Gl X "list") (hm : X.mg "list" = none) (hg2 : Gl X "zip") (hm2 : X.mg "zip" = none) (ha : PA X [e, e2] ta)
    (na : starEach [e, e2] X.env = (false, eval e X.env) :: starEach [e2] X.env) (hpl : (backTo pos2 (starEach [e2] X.env)).any (·.1) = false) (nb : starEach [.Call (.Name "zip" q) [e, e2] [] pos2] X.env = (false, eval (.Call (.Name "zip" q) [e, e2] [] pos2) X.env) :: starEach [] X.env) :
    PE X (.Call (.Name "list" p) [.Call (.Name "zip" q) [e, e2] [] pos2] [] pos) (tListZip X.K ta) := by
  refine ⟨fun pins s σ H Q I h => ?_⟩
  refine Call_ (ld_blt I hg hm boot_list (PyProof.Rows.callWith_type1 (args_cons ?_ nb) nb))
  refine Call_ (ld_blt I hg2 hm2 PyProof.Rows.boot_zip (PyProof.Rows.callWith_type1 (thn (ha.run pos2 pins s σ H _ I h) fun us s1 ⟨vs, H1, I1, r1, a, b, xs, ys, ex, hqx, hqy, k⟩ => ?_) na hpl))
  subst ex
  cases r1 with
  | cons r rr =>
  cases rr with
  | cons r' rr =>
  cases rr
  cases r
  cases r'
  obtain ⟨its, rv, p1, hz⟩ := I1.list hqx
  obtain ⟨its2, rv2, p2, hz2⟩ := I1.list hqy
  have la : a < s1.heap.objs.size := p1.lt
  have lb : b < s1.heap.objs.size := p2.lt
  have hlen := rv.length
  have hlen2 := rv2.length
  refine call_zip_2 p1.isList p2.isList fun h2 y1 yI yO y21 y22 y3 y4 => args_nil ?_
  generalize hB : s1.heap.objs.size = B at la lb y1 yI yO y21 y22 y3
  have D := PySem.W.ktu_apart B a b la lb
  have hne : ∀ c, c < B + 5 → h2.objs.size ≠ c := fun c hc => by rw [y3]; exact Nat.ne_of_gt hc
  have all5 : ∀ c ∈ [B + 4, B + 2, B + 3, B, B + 1, a, b], c < B + 5 := by
    intro c hc
    simp only [List.mem_cons, List.not_mem_nil, or_false] at hc
    rcases hc with z | z | z | z | z | z | z <;> rw [z] <;> first | (exact Nat.add_lt_add_left (by decide) _) | exact Nat.lt_add_of_pos_right (by decide) | exact Nat.lt_of_lt_of_le la (Nat.le_add_right _ _) | exact Nat.lt_of_lt_of_le lb (Nat.le_add_right _ _)
  have z4 : B + 4 ≠ h2.objs.size := (hne _ (all5 _ (by simp))).symm
  refine TS.t_call (s := { s1 with heap := h2 }) (T := "zip") (n := min its.length its2.length) (wr := [B + 4, B + 3, B, B + 1]) (Rel := fun i k v => its.toArray[i]? = some k ∧ its2.toArray[i]? = some v) (St := TS.StZ (B + 4) (B + 2) (B + 3) B (B + 1) a b h2.objs.size its.toArray its2.toArray)
    (fun s' k => ⟨_, k _ _ z4 y1, rfl⟩) (by show _ < h2.objs.size; rw [y3]; exact Nat.lt_succ_self _)
    (fun A' s' Q' E' k hQ => wpAny_pyIter_zip (k _ _ z4 y1) hQ) (by decide) (by decide) TS.zip_len0 TS.zip_hint0 ?_ ?_ ?_ (Nat.le_trans (Nat.min_le_left ..) (by rw [← hlen]; exact hz)) ?_
  · have := TS.src_zip (prog := X.prog) (w := X.w) (A := X.A.in1.in1) (S := h2.objs.size) (I1.ok.hd hc) D (fun c hc => hne c (all5 c hc)) its.toArray its2.toArray
    rw [List.size_toArray, List.size_toArray] at this
    exact this
  · intro c hc
    show c < h2.objs.size
    rw [y3]
    exact all5 c (by simp only [List.mem_cons, List.not_mem_nil, or_false] at hc ⊢; rcases hc with z | z | z | z <;> simp [z])
  · intro h3 k
    have k' : ∀ c o, c < B + 5 → h2.get? c = some o → h3.get? c = some o := fun c o hc e => k c o (hne c hc).symm e
    exact ⟨k' _ _ (all5 _ (by simp)) yI, y21.at fun o y => k' _ o (all5 _ (by simp)) y, y22.at fun o y => k' _ o (all5 _ (by simp)) y, p1.isList.at fun o y => k' _ o (all5 _ (by simp)) (y4 _ o y), p2.isList.at fun o y => k' _ o (all5 _ (by simp)) (y4 _ o y), .inl ⟨k' _ _ (all5 _ (by simp)) y1, .none, .none, k' _ _ (all5 _ (by simp)) yO⟩⟩
  · intro h3 tk acc c as k5 hS hl hG hacc
    have hz' : (xs.zip ys).length ≤ sizeLine := by rw [List.length_zip]; exact Nat.le_trans (Nat.min_le_left ..) hz
    have hla : as.length = (xs.zip ys).length := by rw [hl, List.length_zip, hlen, hlen2]
    obtain ⟨q1, q2, q3, q4, q5⟩ := laid (ps := xs.zip ys) (n := h2.objs.size) (tk := tk) (h' := h3) I1 hz' (fun c o ob => k5 c o (fun z => by
      have lt := Heap.lt_size ob
      rw [hB] at lt
      simp only [List.mem_cons, List.not_mem_nil, or_false] at z
      rcases z with z | z | z | z <;> rw [z] at lt
      · exact absurd lt (Nat.not_lt.mpr (Nat.le_add_right _ _))
      · exact absurd lt (Nat.not_lt.mpr (Nat.le_add_right _ _))
      · exact absurd lt (Nat.lt_irrefl _)
      · exact absurd lt (Nat.not_lt.mpr (Nat.le_add_right _ _))) (y4 c o ob)) hS (by rw [y3, hB]; exact Nat.le_add_right _ _) hla hG hacc (fun j k v p hr hp => by
      obtain ⟨f1, f2⟩ := zip_getP hp
      obtain ⟨u, g1, g2⟩ := rv.get f1
      obtain ⟨u2, g3, g4⟩ := rv2.get f2
      obtain ⟨r1, r2⟩ := hr
      rw [show its.toArray[j]? = its[j]? by simp, g1] at r1
      rw [show its2.toArray[j]? = its2[j]? by simp, g3] at r2
      cases r1; cases r2
      exact ⟨g2, g4⟩)
    exact ⟨.ref h2.objs.size, _, q5, rfl, k _ as q1 q2 q3 q4 hla⟩
end

/-! ### values -/
theorem laid_ow {K : PySem.W.Frag} {mg : Str → Option Value} {I H : Hp} {n : Addr} {as : List Addr} {ps : List (V × V)} {β : Type} [Enc β] {l : List β} (hs : Same I H) (hn : H n = none) (ha : ∀ t ∈ as, H t = none) (hna : n ∉ as) (nd : as.Nodup) (hl : as.length = ps.length) (hll : ps.length = l.length)
    (hr : ∀ (j : Nat) (p : V × V) (b : β), ps[j]? = some p → l[j]? = some b → ∃ d1 d2, enc b = .tup [d1, d2] ∧ R K mg I p.1 d1 ∧ R K mg I p.2 d2) :
    ∃ I' : Hp, Wd I H I' (layP (upd H n (.lst (as.map V.ref))) as ps) [n] ∧ Ow K mg I' (layP (upd H n (.lst (as.map V.ref))) as ps) (.ref n) (ow1 l) [n] := by
  let H' := layP (upd H n (.lst (as.map V.ref))) as ps
  have off : ∀ b, b ∉ as → b ≠ n → H' b = H b := fun b h1 h2 => by show layP _ _ _ b = _; rw [layP_off as ps _ h1, upd_ne h2]
  have eS : H' n = some (.lst (as.map V.ref)) := by show layP _ _ _ n = _; rw [layP_off as ps _ hna, upd_same]
  have i0 : Same I (fun b => if b ∈ as then H' b else I b) := fun b u e => by
    have : b ∉ as := fun z => by have h1 := hs b u e; rw [ha b z] at h1; cases h1
    show (if b ∈ as then H' b else I b) = _
    rw [if_neg this]
    exact e
  refine ⟨fun b => if b ∈ as then H' b else I b, ⟨fun b u e => ?_, i0, fun b u e => ?_, fun b hb => ?_, by simp, fun b h1 h2 => ?_⟩, ?_⟩
  · have e' : (if b ∈ as then H' b else I b) = some u := e
    by_cases h : b ∈ as
    · rw [if_pos h] at e'; exact e'
    · rw [if_neg h] at e'
      have h1 := hs b u e'
      exact (off b h fun z => by rw [z, hn] at h1; cases h1).trans h1
  · exact (off b (fun z => by rw [ha b z] at e; cases e) fun z => by rw [z, hn] at e; cases e).trans e
  · have z : b = n := by simpa using hb
    subst z
    exact ⟨by show (if b ∈ as then H' b else I b) = none; rw [if_neg hna]; exact hs.free hn, hn⟩
  · show (if b ∈ as then H' b else I b) = none
    rw [if_neg fun z => h1 (ha b z)]
    exact h2
  · refine .lst (T := []) eS ?_
    rw [show l.map (fun a => O.imm (enc a)) = (l.map enc).map O.imm by rw [List.map_map]; rfl]
    refine Ows.of_imm ?_
    have key : ∀ (as' : List Addr) (l' : List β) (k : Nat), as'.length = l'.length → (∀ j, as'[j]? = as[j + k]?) → (∀ j, l'[j]? = l[j + k]?) → Rs K mg (fun b => if b ∈ as then H' b else I b) (as'.map V.ref) (l'.map enc) := by
      intro as'
      induction as' with
      | nil => intro l' k h _ _; cases l' with
        | nil => exact .nil
        | cons _ _ => cases h
      | cons a as' ih =>
        intro l' k h h1 h2
        cases l' with
        | nil => cases h
        | cons b l' =>
          refine .cons ?_ (ih l' (k + 1) (by simpa using h) (fun j => by have := h1 (j + 1); rw [List.getElem?_cons_succ] at this; rw [this]; congr 1; omega) (fun j => by have := h2 (j + 1); rw [List.getElem?_cons_succ] at this; rw [this]; congr 1; omega))
          have ea : as[k]? = some a := by have := h1 0; rw [Nat.zero_add] at this; rw [← this]; rfl
          have eb : l[k]? = some b := by have := h2 0; rw [Nat.zero_add] at this; rw [← this]; rfl
          have hk : k < ps.length := by rw [← hl]; exact (List.getElem?_eq_some_iff.mp ea).1
          have ep := List.getElem?_eq_getElem hk
          obtain ⟨d1, d2, e1, r1, r2⟩ := hr k _ b ep eb
          rw [e1]
          refine .tup (.of ?_) (.cons (r1.mono i0) (.cons (r2.mono i0) .nil))
          show (if a ∈ as then H' a else I a) = _
          rw [if_pos (List.mem_of_getElem? ea)]
          exact layP_at as ps _ nd k a _ ea ep
    exact key as l 0 (by rw [hl, hll]) (fun _ => rfl) fun _ => rfl
theorem Rs.len2 {K : PySem.W.Frag} {mg : Str → Option Value} {H : Hp} {xs : List V} {α : Type} [Enc α] {l : List α} (r : Rs K mg H xs (l.map enc)) : xs.length = l.length := by rw [r.length, List.length_map]
theorem Rs.at2 {K : PySem.W.Frag} {mg : Str → Option Value} {H : Hp} {α : Type} [Enc α] : ∀ {xs : List V} {l : List α}, Rs K mg H xs (l.map enc) → ∀ {j : Nat} {x : V} {a : α}, xs[j]? = some x → l[j]? = some a → R K mg H x (enc a)
  | _ :: _, _ :: _, .cons h _, 0, _, _, e1, e2 => by cases e1; cases e2; exact h
  | _ :: _, _ :: _, .cons _ t, j + 1, _, _, e1, e2 => Rs.at2 t (by simpa using e1) (by simpa using e2)
  | [], [], .nil, j, _, _, e1, _ => by simp at e1
section
variable {X : Cx} {Γ : List SL} {e a b : Expr} {pos p q pos2 : Pos} {α β : Type} [Enc α] [Enc β]
theorem vo_listEnum {m : M (List α)} (hc : X.calm = true) (hm : X.mg "list" = none) (hm2 : X.mg "enumerate" = none) (h : VX false X Γ e m) (hg : Gl X "list" := by rfl) (hg2 : Gl X "enumerate" := by rfl)
    (na : starEach [e] X.env = (false, eval e X.env) :: starEach [] X.env := by rfl) (nb : starEach [.Call (.Name "enumerate" q) [e] [] pos2] X.env = (false, eval (.Call (.Name "enumerate" q) [e] [] pos2) X.env) :: starEach [] X.env := by rfl) :
    VO X Γ (.Call (.Name "list" p) [.Call (.Name "enumerate" q) [e] [] pos2] [] pos) ow1 (m >>= fun l => M.ok (enumL l)) := fun W tk σ I H T mw Q o => by
  refine to_t (pe_listEnum hc hg hm hg2 hm2 pe_of na nb) (h.ap tk mw o.bind (fun l _ o1 v I1 H1 g1 r1 => ?_) fun _ z => z)
  obtain ⟨a, xs, rfl, hq, rs⟩ := R.lst_inv r1
  refine ⟨a, xs, rfl, (g1.ih).seq hq, fun n as q1 q2 q3 q4 q5 => ?_⟩
  obtain ⟨I', wd, ow⟩ := laid_ow (K := X.K) (mg := X.mg) (l := enumL l) g1.ih q1 q2 q3 q4 q5 (by rw [enumV_len, rs.len2]; unfold enumL; simp) (fun j p b e1 e2 => by
    obtain ⟨f1, f2⟩ := enumV_get e1
    obtain ⟨f3, f4⟩ := enumL_get e2
    refine ⟨.int b.1, enc b.2, rfl, ?_, rs.at2 f2 f3⟩
    rw [f1, f4]
    exact .int _)
  exact o1 _ I' _ [n] (by have := Wd.ow g1 (fun _ z => nomatch z) wd; simpa using this) ow
theorem vo_listZip {m1 : M (List α)} {m2 : M (List β)} (hc : X.calm = true) (hm : X.mg "list" = none) (hm2 : X.mg "zip" = none) (h1 : VX false X Γ a m1) (h2 : VX false X Γ b m2) (hg : Gl X "list" := by rfl) (hg2 : Gl X "zip" := by rfl)
    (na : starEach [a, b] X.env = (false, eval a X.env) :: starEach [b] X.env := by rfl) (na2 : starEach [b] X.env = (false, eval b X.env) :: starEach [] X.env := by rfl) (hpl : (backTo pos2 (starEach [b] X.env)).any (·.1) = false := by rfl) (nb : starEach [.Call (.Name "zip" q) [a, b] [] pos2] X.env = (false, eval (.Call (.Name "zip" q) [a, b] [] pos2) X.env) :: starEach [] X.env := by rfl) :
    VO X Γ (.Call (.Name "list" p) [.Call (.Name "zip" q) [a, b] [] pos2] [] pos) ow1 (m1 >>= fun x => m2 >>= fun y => M.ok (x.zip y)) := fun W tk σ I H T mw Q o => by
  refine to_t (pe_listZip hc hg hm hg2 hm2 (pa_cons pe_of (pa_cons pe_of pa_nil na2) na) na hpl nb) (h1.ap tk mw o.bind (fun l _ o1 v I1 H1 g1 r1 => ?_) fun _ z => z)
  refine h2.ap tk (mw.gr g1) o1.bind (fun l2 _ o2 u I2 H2 g2 r2 => ?_) fun _ z => z.gr g1
  obtain ⟨a, xs, rfl, hq, rs⟩ := R.lst_inv r1
  obtain ⟨b, ys, rfl, hq2, rs2⟩ := R.lst_inv r2
  have rs' := rs.mono g2.i0
  refine ⟨a, b, xs, ys, rfl, g2.ih.seq (g2.i0.seq hq), g2.ih.seq hq2, fun n as q1 q2 q3 q4 q5 => ?_⟩
  obtain ⟨I', wd, ow⟩ := laid_ow (K := X.K) (mg := X.mg) (l := l.zip l2) g2.ih q1 q2 q3 q4 q5 (by rw [List.length_zip, List.length_zip, rs.len2, rs2.len2]) (fun j p b e1 e2 => by
    obtain ⟨f1, f2⟩ := zip_getP e1
    obtain ⟨f3, f4⟩ := List.getElem?_zip_eq_some.mp e2
    exact ⟨enc b.1, enc b.2, rfl, rs'.at2 f1 f3, rs2.at2 f2 f4⟩)
  exact o2 _ I' _ [n] (by have := Wd.ow (g1.trans g2) (fun _ z => nomatch z) wd; simpa using this) ow
end
end Vc

set_option Elab.async false
set_option linter.all false
set_option maxRecDepth 100000
namespace Vc
open PySem PySem.Spec PyProof.Rows L2
open Enc (enc)
section
variable {X : Cx} {Γ Γx : List SL} {e a b c d : Expr} {es : List Expr} {rest : List Stmt} {pos p : Pos} {α β γ : Type} [Enc α] [Enc β] [Enc γ] {w w' : Bool} {τ : Type} {E : Eds τ} {ta tb tc td : TE}
theorem vt_isN [NN α] {j : Nat} {pc : Pos} {m : M (Option α)} (ha : VX true X Γ a m) : VT X Γ (.Compare a [.Is] [.Constant .none j pc] pos) (m >>= fun o => M.ok o.isNone) :=
  (vt_cmp (β := Unit) (f := fun (o : Option α) (_ : Unit) => M.ok o.isNone) op_isN ha ve_non (nomark _) (fun x y H v u r1 r2 Q o => by
    cases r2
    exact ⟨rfl, by rw [opt_non r1]; exact o⟩) fun _ _ _ z => nomatch z).congr (by cases m <;> rfl)
theorem vt_isNN [NN α] {j : Nat} {pc : Pos} {m : M (Option α)} (ha : VX true X Γ a m) : VT X Γ (.Compare a [.IsNot] [.Constant .none j pc] pos) (m >>= fun o => M.ok o.isSome) :=
  (vt_cmp (β := Unit) (f := fun (o : Option α) (_ : Unit) => M.ok o.isSome) op_notN ha ve_non (nomark _) (fun x y H v u r1 r2 Q o => by
    cases r2
    refine ⟨rfl, ?_⟩
    rw [opt_non r1]
    cases x
    · exact o
    · exact o) fun _ _ _ z => nomatch z).congr (by cases m <;> rfl)
def tChain3 (r r' r2 : R2) (ta tb tc td : TE) : TE := fun σ H Q => ta σ H fun x H1 => tb σ H1 fun y H2 => r x y H2 fun z H3 => ∃ k, z = .bl k ∧
  (if k = true then tc σ H3 fun w' H4 => r' y w' H4 fun z2 H5 => ∃ k2, z2 = .bl k2 ∧ (if k2 = true then td σ H5 fun w2 H6 => r2 w' w2 H6 Q else Q (.bl false) H5) else Q (.bl false) H3)
theorem pe_chain3 {op op' op2 : CmpOp} {r r' r2 : R2} (ho : OpR X (compareOp op) r) (ho' : OpR X (compareOp op') r') (ho2 : OpR X (compareOp op2) r2) (ha : PE X a ta) (hb : PE X b tb) (hc : PE X c tc) (hd : PE X d td)
    (hm : lastMarks [op, op', op2] [b, c, d] = false) : PE X (.Compare a [op, op', op2] [b, c, d] pos) (tChain3 r r' r2 ta tb tc td) := by
  refine ⟨fun pins s σ H Q I h => ?_⟩
  refine Compare_chain (thn (ha.run pins s σ H _ I h) fun v s1 ⟨x, H1, I1, r1, q1⟩ => chain_link (thn (hb.run pins s1 σ H1 _ I1 q1) fun u s2 ⟨y, H2, I2, r2, q2⟩ =>
    thn (ho pins s2 σ H2 x y v u _ I2 r1 r2 q2) fun dv s3 ⟨z, H3, I3, r3, k, e, q3⟩ => ?_)) hm
  subst e
  cases r3
  refine wpAny_truthy_bool ?_
  cases k with
  | false => exact ite_ff ⟨.bl false, H3, I3, rfl, q3⟩
  | true =>
    refine ite_tt (chain_link (thn (hc.run pins s3 σ H3 _ I3 q3) fun w' s4 ⟨z', H4, I4, r4, q4⟩ => thn (ho' pins s4 σ H4 y z' u w' _ I4 r2 r4 q4) fun dv2 s5 ⟨z5, H5, I5, r5, k2, e2, q5⟩ => ?_))
    subst e2
    cases r5
    refine wpAny_truthy_bool ?_
    cases k2 with
    | false => exact ite_ff ⟨.bl false, H5, I5, rfl, q5⟩
    | true => exact ite_tt (chain_last (thn (hd.run pins s5 σ H5 _ I5 q5) fun w2 s6 ⟨z6, H6, I6, r6, q6⟩ => ho2 pins s6 σ H6 z' z6 w' w2 Q I6 r4 r6 q6))
theorem ve_chain3 {op op' op2 : CmpOp} {p1 p2 p3 : Int → Int → Bool} {m1 m2 m3 m4 : M Int} (ho : OpR X (compareOp op) (rI0 fun i j => .bl (p1 i j))) (ho' : OpR X (compareOp op') (rI0 fun i j => .bl (p2 i j))) (ho2 : OpR X (compareOp op2) (rI0 fun i j => .bl (p3 i j))) (ha : VX true X Γ a m1) (hb : VX true X Γ b m2) (hc : VX true X Γ c m3) (hd : VX true X Γ d m4)
    (h1 : lastMarks [op, op', op2] [b, c, d] = false) : VX w X Γ (.Compare a [op, op', op2] [b, c, d] pos) (m1 >>= fun x => m2 >>= fun y => bAnd (M.ok (p1 x y)) (m3 >>= fun z => bAnd (M.ok (p2 y z)) (m4 >>= fun t => M.ok (p3 z t)))) := fun W tk σ I H T mw Q o => by
  refine to_t (pe_chain3 ho ho' ho2 pe_of pe_of pe_of pe_of h1) ?_
  refine ha.ap tk mw o.bind (fun x _ o1 v I1 H1 g1 r1 => ?_) fun _ z => z
  refine hb.ap tk (mw.gr g1) o1.bind (fun y _ o2 u I2 H2 g2 r2 => ?_) fun _ z => z.gr g1
  cases r1; cases r2
  refine ⟨x, y, rfl, rfl, p1 x y, rfl, ?_⟩
  cases q : p1 x y with
  | false =>
    rw [q] at o2
    exact iteF (o2 _ I2 H2 (g1.trans g2) (.bl false))
  | true =>
    rw [q] at o2
    refine iteT ?_
    refine hc.ap tk ((mw.gr g1).gr g2) (show Out (m3 >>= fun z => bAnd (M.ok (p2 y z)) (m4 >>= fun t => M.ok (p3 z t))) _ _ from o2).bind (fun z _ o3 t I3 H3 g3 r3 => ?_) fun _ z => (z.gr g1).gr g2
    cases r3
    refine ⟨y, z, rfl, rfl, p2 y z, rfl, ?_⟩
    cases q2 : p2 y z with
    | false =>
      rw [q2] at o3
      exact iteF (o3 _ I3 H3 ((g1.trans g2).trans g3) (.bl false))
    | true =>
      rw [q2] at o3
      refine iteT ?_
      refine hd.ap tk (((mw.gr g1).gr g2).gr g3) (show Out (m4 >>= fun t => M.ok (p3 z t)) _ _ from o3).bind (fun t2 _ o4 t3 I4 H4 g4 r4 => ?_) fun _ z => ((z.gr g1).gr g2).gr g3
      cases r4
      exact ⟨z, t2, rfl, rfl, o4 _ I4 H4 (((g1.trans g2).trans g3).trans g4) (.bl _)⟩
theorem vt_chainp {op op' : CmpOp} {p1 p2 : Int → Int → Bool} {x y z : Int} (ho : OpR X (compareOp op) (rI0 fun i j => .bl (p1 i j))) (ho' : OpR X (compareOp op') (rI0 fun i j => .bl (p2 i j))) (ha : VX true X Γ a (M.ok x)) (hb : VX true X Γ b (M.ok y)) (hc : VX true X Γ c (M.ok z))
    (h1 : lastMarks [op, op'] [b, c] = false := by with_unfolding_all rfl) : VT X Γ (.Compare a [op, op'] [b, c] pos) (M.ok (p1 x y && p2 y z)) := fun W tk σ I H T mw Q o => by
  refine to_k (pt_chain ho ho' pe_of pe_of pe_of h1) ?_
  refine ha.ap tk mw (P := fun _ => True) (E := fun _ => False) trivial (fun x' q1 _ v I1 H1 g1 r1 => ?_) fun _ z => z.elim
  cases q1
  refine hb.ap tk (mw.gr g1) (P := fun _ => True) (E := fun _ => False) trivial (fun y' q2 _ u I2 H2 g2 r2 => ?_) fun _ z => z.elim
  cases q2; cases r1; cases r2
  refine ⟨x, y, rfl, rfl, p1 x y, rfl, ?_⟩
  cases q : p1 x y with
  | false =>
    have o : Q (p1 x y && p2 y z) H2 := o I2 H2 (g1.trans g2)
    rw [q] at o
    exact iteF ⟨false, rfl, o⟩
  | true =>
    refine iteT ?_
    refine hc.ap tk ((mw.gr g1).gr g2) (P := fun _ => True) (E := fun _ => False) trivial (fun z' q3 _ t I3 H3 g3 r3 => ?_) fun _ z => z.elim
    cases q3; cases r3
    have o : Q (p1 x y && p2 y z) H3 := o I3 H3 ((g1.trans g2).trans g3)
    rw [q] at o
    exact ⟨y, z, rfl, rfl, p2 y z, rfl, o⟩
theorem ve_chain3p {op op' op2 : CmpOp} {p1 p2 p3 : Int → Int → Bool} {x y z t : Int} (ho : OpR X (compareOp op) (rI0 fun i j => .bl (p1 i j))) (ho' : OpR X (compareOp op') (rI0 fun i j => .bl (p2 i j))) (ho2 : OpR X (compareOp op2) (rI0 fun i j => .bl (p3 i j))) (ha : VX true X Γ a (M.ok x)) (hb : VX true X Γ b (M.ok y)) (hc : VX true X Γ c (M.ok z)) (hd : VX true X Γ d (M.ok t))
    (h1 : lastMarks [op, op', op2] [b, c, d] = false := by with_unfolding_all rfl) : VX w X Γ (.Compare a [op, op', op2] [b, c, d] pos) (M.ok (p1 x y && (p2 y z && p3 z t))) :=
  (ve_chain3 ho ho' ho2 ha hb hc hd h1).congr (by
    rw [M.ok_bind, M.ok_bind, M.ok_bind, M.ok_bind]
    cases p1 x y <;> cases p2 y z <;> rfl)
end
end Vc

set_option Elab.async false
set_option linter.all false
set_option maxRecDepth 100000
namespace Vc
open PySem PySem.Spec PyProof.Rows L2
open Enc (enc)
/-! ### places within what is owned -/
inductive Pt where
  | fld (f : Str) (k : Nat) | idx (j : Nat) | pin
/-- the place of a name among names -/
def ixN' (f : Str) : List Str → Nat → Option Nat
  | [], _ => none
  | g :: r, i => if g == f then some i else ixN' f r (i + 1)
def ixN (f : Str) (l : List Str) : Option Nat := ixN' f l 0
theorem ixN'_some {f : Str} : ∀ {l : List Str} {i k : Nat}, ixN' f l i = some k → i ≤ k ∧ ∀ {β : Type} (vs : List (Str × β)), vs.map Prod.fst = l → ∃ u, vs[k - i]? = some (f, u) ∧ vs.lookup f = some u
  | [], _, _, h => by cases h
  | g :: l, i, k, h => by
    unfold ixN' at h
    split at h
    · rename_i e
      cases h
      refine ⟨Nat.le_refl _, fun {β} vs hv => ?_⟩
      cases vs with
      | nil => cases hv
      | cons a vs =>
        obtain ⟨n, u⟩ := a
        simp only [List.map_cons, List.cons.injEq] at hv
        obtain rfl : n = f := hv.1.trans (eq_of_beq e)
        refine ⟨u, by simp, ?_⟩
        rw [List.lookup_cons]; simp
    · rename_i e
      obtain ⟨h1, h2⟩ := ixN'_some h
      refine ⟨by omega, fun {β} vs hv => ?_⟩
      cases vs with
      | nil => cases hv
      | cons a vs =>
        obtain ⟨n, u⟩ := a
        simp only [List.map_cons, List.cons.injEq] at hv
        obtain ⟨u', h3, h4⟩ := h2 vs hv.2
        refine ⟨u', ?_, ?_⟩
        · rw [show k - i = (k - (i + 1)) + 1 by omega]; simpa using h3
        · rw [List.lookup_cons]
          have : (f == n) = false := by
            rw [hv.1]
            cases q : f == g with
            | false => rfl
            | true => exact absurd (by rw [eq_of_beq q]; exact beq_self_eq_true g) e
          rw [this]; exact h4
theorem ixN_some {f : Str} {l : List Str} {k : Nat} (h : ixN f l = some k) {β : Type} (vs : List (Str × β)) (hv : vs.map Prod.fst = l) : ∃ u, vs[k]? = some (f, u) ∧ vs.lookup f = some u := (ixN'_some h).2 vs hv
theorem ixN'_none {f : Str} : ∀ {l : List Str} {i : Nat}, ixN' f l i = none → ∀ {β : Type} (vs : List (Str × β)), vs.map Prod.fst = l → vs.lookup f = none
  | [], _, _, β, vs, hv => by
    cases vs with
    | nil => rfl
    | cons a vs => cases hv
  | g :: l, i, h, β, vs, hv => by
    unfold ixN' at h
    split at h
    · cases h
    · rename_i e
      cases vs with
      | nil => cases hv
      | cons a vs =>
        obtain ⟨n, u⟩ := a
        simp only [List.map_cons, List.cons.injEq] at hv
        rw [List.lookup_cons]
        have : (f == n) = false := by
          rw [hv.1]
          cases q : f == g with
          | false => rfl
          | true => exact absurd (by rw [eq_of_beq q]; exact beq_self_eq_true g) e
        rw [this]; exact ixN'_none h vs hv.2
/-- what stands at a place -/
def subV (H : Hp) : List Pt → V → V → Prop
  | [], v, w => w = v
  | .pin :: π, v, w => subV H π v w
  | .fld f _ :: π, v, w => ∃ p C dx vs u, v = .ref p ∧ H p = some (.ins C dx vs) ∧ vs.lookup f = some u ∧ subV H π u w
  | .idx j :: π, v, w => ∃ p xs u, v = .ref p ∧ H p = some (.lst xs) ∧ xs[j]? = some u ∧ subV H π u w
theorem subV_fun {H : Hp} : ∀ {π : List Pt} {v w w' : V}, subV H π v w → subV H π v w' → w = w'
  | [], _, _, _, h, h' => by rw [show _ = _ from h, show _ = _ from h']
  | .pin :: π, _, _, _, h, h' => subV_fun (π := π) h h'
  | .fld f _ :: π, _, _, _, ⟨p, C, dx, vs, u, e, h1, h2, h3⟩, ⟨p', C', dx', vs', u', e', h1', h2', h3'⟩ => by
    subst e; cases e'
    rw [h1] at h1'; cases h1'
    rw [h2] at h2'; cases h2'
    exact subV_fun h3 h3'
  | .idx j :: π, _, _, _, ⟨p, xs, u, e, h1, h2, h3⟩, ⟨p', xs', u', e', h1', h2', h3'⟩ => by
    subst e; cases e'
    rw [h1] at h1'; cases h1'
    rw [h2] at h2'; cases h2'
    exact subV_fun h3 h3'
theorem subV_app {H : Hp} {ρ : List Pt} : ∀ {π : List Pt} {v u w : V}, subV H π v u → subV H ρ u w → subV H (π ++ ρ) v w
  | [], v, u, w, h, h' => by rw [show u = v from h] at h'; exact h'
  | .pin :: π, v, u, w, h, h' => subV_app (π := π) h h'
  | .fld f _ :: π, _, _, _, ⟨p, C, dx, vs, u, e, h1, h2, h3⟩, h' => ⟨p, C, dx, vs, u, e, h1, h2, subV_app h3 h'⟩
  | .idx j :: π, _, _, _, ⟨p, xs, u, e, h1, h2, h3⟩, h' => ⟨p, xs, u, e, h1, h2, subV_app h3 h'⟩
def getO : List Pt → O → Option O
  | [], o => some o
  | .pin :: π, .pin _ o => getO π o
  | .fld f k :: π, .ins n fs => if ixN f (fs.map Prod.fst) = some k then (fs[k]?).bind fun p => getO π p.2 else none
  | .idx j :: π, .lst os => (os[j]?).bind fun o => getO π o
  | _ :: _, _ => none
def putO : List Pt → O → O → O
  | [], _, x => x
  | .pin :: π, .pin v o, x => .pin v (putO π o x)
  | .fld f k :: π, .ins n fs, x => .ins n (match fs[k]? with | some p => fs.set k (p.1, putO π p.2 x) | none => fs)
  | .idx j :: π, .lst os, x => .lst (match os[j]? with | some o => os.set j (putO π o x) | none => os)
  | _ :: _, o, _ => o
section
variable {K : PySem.W.Frag} {mg : Str → Option Value} {I H : Hp}
theorem OwF.names : ∀ {vs : List (Str × V)} {fs : List (Str × O)} {T : List Addr}, OwF K mg I H vs fs T → vs.map Prod.fst = fs.map Prod.fst
  | _, _, _, .nil => rfl
  | _, _, _, .cons h r => by simp only [List.map_cons, OwF.names r]
/-- one of the fields, and another one in its stead -/
theorem OwF.at : ∀ {vs : List (Str × V)} {fs : List (Str × O)} {T : List Addr} {k : Nat} {f : Str} {o : O}, OwF K mg I H vs fs T → fs[k]? = some (f, o) → ∃ u A T1 B, vs[k]? = some (f, u) ∧ T = A ++ (T1 ++ B) ∧ Ow K mg I H u o T1 ∧
    ∀ I' H' u' o' T1', Same I I' → (∀ p ∈ A, H' p = H p) → (∀ p ∈ B, H' p = H p) → Ow K mg I' H' u' o' T1' → OwF K mg I' H' (vs.set k (f, u')) (fs.set k (f, o')) (A ++ (T1' ++ B))
  | _, _, _, _, _, _, .nil, h => by simp at h
  | _, _, _, 0, f, o, .cons (T := T) (T' := T') q r, h => by
    simp at h
    obtain ⟨rfl, rfl⟩ := h
    refine ⟨_, [], T, T', by simp, rfl, q, fun I' H' u' o' T1' e _ hB q' => ?_⟩
    rw [List.set_cons_zero, List.set_cons_zero, List.nil_append]
    exact .cons q' (r.mono e hB)
  | _, _, _, k + 1, f, o, .cons (T := T) (T' := T') q r, h => by
    obtain ⟨u, A, T1, B, h1, h2, h3, h4⟩ := OwF.at (k := k) r (by simpa using h)
    refine ⟨u, T ++ A, T1, B, by simpa using h1, by rw [h2, List.append_assoc], h3, fun I' H' u' o' T1' e hA hB q' => ?_⟩
    rw [List.set_cons_succ, List.set_cons_succ, List.append_assoc]
    exact .cons (q.mono e fun p hp => hA p (List.mem_append_left _ hp)) (h4 I' H' u' o' T1' e (fun p hp => hA p (List.mem_append_right _ hp)) hB q')
theorem Ows.at : ∀ {vs : List V} {os : List O} {T : List Addr} {k : Nat} {o : O}, Ows K mg I H vs os T → os[k]? = some o → ∃ u A T1 B, vs[k]? = some u ∧ T = A ++ (T1 ++ B) ∧ Ow K mg I H u o T1 ∧
    ∀ I' H' u' o' T1', Same I I' → (∀ p ∈ A, H' p = H p) → (∀ p ∈ B, H' p = H p) → Ow K mg I' H' u' o' T1' → Ows K mg I' H' (vs.set k u') (os.set k o') (A ++ (T1' ++ B))
  | _, _, _, _, _, .nil, h => by simp at h
  | _, _, _, 0, o, .cons (T := T) (T' := T') q r, h => by
    simp at h
    subst h
    refine ⟨_, [], T, T', by simp, rfl, q, fun I' H' u' o' T1' e _ hB q' => ?_⟩
    rw [List.set_cons_zero, List.set_cons_zero, List.nil_append]
    exact .cons q' (r.mono e hB)
  | _, _, _, k + 1, o, .cons (T := T) (T' := T') q r, h => by
    obtain ⟨u, A, T1, B, h1, h2, h3, h4⟩ := Ows.at (k := k) r (by simpa using h)
    refine ⟨u, T ++ A, T1, B, by simpa using h1, by rw [h2, List.append_assoc], h3, fun I' H' u' o' T1' e hA hB q' => ?_⟩
    rw [List.set_cons_succ, List.set_cons_succ, List.append_assoc]
    exact .cons (q.mono e fun p hp => hA p (List.mem_append_left _ hp)) (h4 I' H' u' o' T1' e (fun p hp => hA p (List.mem_append_right _ hp)) hB q')
theorem set_self {α : Type} {l : List α} {k : Nat} {a : α} (h : l[k]? = some a) : l.set k a = l := by
  apply List.ext_getElem?
  intro i
  rw [List.getElem?_set]
  split
  · rename_i e; subst e; split
    · exact h.symm
    · rename_i q; rw [List.getElem?_eq_none (by omega)]
  · rfl
/-- the part at a place, and another one in its stead (at the same address) -/
theorem Ow.at : ∀ {π : List Pt} {v : V} {o o1 : O} {T : List Addr}, Ow K mg I H v o T → getO π o = some o1 → ∃ u A T1 B, subV H π v u ∧ T = A ++ (T1 ++ B) ∧ Ow K mg I H u o1 T1 ∧
    ∀ I' H' o' T1', Same I I' → (∀ p ∈ A, H' p = H p) → (∀ p ∈ B, H' p = H p) → Ow K mg I' H' u o' T1' → Ow K mg I' H' v (putO π o o') (A ++ (T1' ++ B)) ∧ subV H' π v u
  | [], v, o, o1, T, q, h => by
    cases h
    exact ⟨v, [], T, [], rfl, by simp, q, fun I' H' o' T1' _ _ _ q' => ⟨by simpa [putO] using q', rfl⟩⟩
  | .pin :: π, _, .pin v o, o1, _, .pin q, h => by
    obtain ⟨u, A, T1, B, h1, h2, h3, h4⟩ := Ow.at (π := π) q h
    exact ⟨u, A, T1, B, h1, h2, h3, fun I' H' o' T1' e hA hB q' => ⟨.pin (h4 I' H' o' T1' e hA hB q').1, (h4 I' H' o' T1' e hA hB q').2⟩⟩
  | .fld f k :: π, _, .ins n fs, o1, _, .ins (p := p) (C := C) (dx := dx) (vs := vs) (T := T) e1 e2 r, h => by
    unfold getO at h
    split at h
    · rename_i hx
      obtain ⟨o2, hk, hl⟩ := ixN_some hx fs rfl
      rw [hk] at h
      obtain ⟨u, A, T1, B, h1, h2, h3, h4⟩ := r.at hk
      obtain ⟨w, A2, T2, B2, g1, g2, g3, g4⟩ := Ow.at h3 h
      obtain ⟨u0, hk', hl'⟩ := ixN_some hx vs r.names
      rw [h1] at hk'; cases hk'
      refine ⟨w, p :: (A ++ A2), T2, B2 ++ B, ⟨p, C, dx, vs, u, rfl, e2, hl', g1⟩, by rw [h2, g2]; simp, g3, fun I' H' o' T1' e hA hB q' => ?_⟩
      obtain ⟨k1, k2⟩ := g4 I' H' o' T1' e (fun p hp => hA p (List.mem_cons_of_mem _ (List.mem_append_right _ hp))) (fun p hp => hB p (List.mem_append_left _ hp)) q'
      have k3 := h4 I' H' u (putO π o2 o') _ e (fun p hp => hA p (List.mem_cons_of_mem _ (List.mem_append_left _ hp))) (fun p hp => hB p (List.mem_append_right _ hp)) k1
      rw [set_self h1] at k3
      have e2' : H' p = some (.ins C dx vs) := by rw [hA p List.mem_cons_self]; exact e2
      refine ⟨?_, p, C, dx, vs, u, rfl, e2', hl', k2⟩
      have := Ow.ins (K := K) (I := I') e1 e2' k3
      unfold putO
      rw [hk]
      simpa [List.append_assoc] using this
    · cases h
  | .idx j :: π, _, .lst os, o1, _, .lst (p := p) (xs := xs) (T := T) e2 r, h => by
    unfold getO at h
    cases hk : os[j]? with
    | none => rw [hk] at h; cases h
    | some o2 =>
      rw [hk] at h
      obtain ⟨u, A, T1, B, h1, h2, h3, h4⟩ := r.at hk
      obtain ⟨w, A2, T2, B2, g1, g2, g3, g4⟩ := Ow.at h3 h
      refine ⟨w, p :: (A ++ A2), T2, B2 ++ B, ⟨p, xs, u, rfl, e2, h1, g1⟩, by rw [h2, g2]; simp, g3, fun I' H' o' T1' e hA hB q' => ?_⟩
      obtain ⟨k1, k2⟩ := g4 I' H' o' T1' e (fun p hp => hA p (List.mem_cons_of_mem _ (List.mem_append_right _ hp))) (fun p hp => hB p (List.mem_append_left _ hp)) q'
      have k3 := h4 I' H' u (putO π o2 o') _ e (fun p hp => hA p (List.mem_cons_of_mem _ (List.mem_append_left _ hp))) (fun p hp => hB p (List.mem_append_right _ hp)) k1
      rw [set_self h1] at k3
      have e2' : H' p = some (.lst xs) := by rw [hA p List.mem_cons_self]; exact e2
      refine ⟨?_, p, xs, u, rfl, e2', h1, k2⟩
      have := Ow.lst (K := K) (mg := mg) (I := I') e2' k3
      unfold putO
      rw [hk]
      simpa [List.append_assoc] using this
/-- the part of a slot -/
theorem Sls.at : ∀ {σ : L2.St} {Γ : List SL} {T : List Addr} {i : Nat} {o : O}, Sls K mg I H σ Γ T → Γ[i]? = some (.val o) → ∃ v A T1 B, σ[i]? = some (some v) ∧ T = A ++ (T1 ++ B) ∧ Ow K mg I H v o T1 ∧
    (∀ I' H' v' o' T1', Same I I' → (∀ p ∈ A, H' p = H p) → (∀ p ∈ B, H' p = H p) → Ow K mg I' H' v' o' T1' → Sls K mg I' H' (σ.set i (some v')) (Γ.set i (.val o')) (A ++ (T1' ++ B))) ∧
    (∀ I' H', Same I I' → (∀ p ∈ A, H' p = H p) → (∀ p ∈ B, H' p = H p) → Sls K mg I' H' σ (Γ.set i .any) (A ++ B))
  | _, _, _, _, _, .nil, h => by simp at h
  | _, _, _, 0, _, .any r, h => by simp at h
  | _, _, _, 0, o, .val (T := T) (T' := T') q r, h => by
    simp at h
    subst h
    exact ⟨_, [], T, T', by simp, rfl, q, fun I' H' v' o' T1' e _ hB q' => by rw [List.nil_append]; exact .val q' (r.mono e hB), fun I' H' e _ hB => by rw [List.nil_append]; exact .any (r.mono e hB)⟩
  | _, _, _, i + 1, o, .any r, h => by
    obtain ⟨v, A, T1, B, h1, h2, h3, h4, h5⟩ := Sls.at (i := i) r (by simpa using h)
    exact ⟨v, A, T1, B, by simpa using h1, h2, h3, fun I' H' v' o' T1' e hA hB q' => .any (h4 I' H' v' o' T1' e hA hB q'), fun I' H' e hA hB => .any (h5 I' H' e hA hB)⟩
  | _, _, _, i + 1, o, .val (T := T) (T' := T') q r, h => by
    obtain ⟨v, A, T1, B, h1, h2, h3, h4, h5⟩ := Sls.at (i := i) r (by simpa using h)
    refine ⟨v, T ++ A, T1, B, by simpa using h1, by rw [h2, List.append_assoc], h3, fun I' H' v' o' T1' e hA hB q' => ?_, fun I' H' e hA hB => ?_⟩
    · have := h4 I' H' v' o' T1' e (fun p hp => hA p (List.mem_append_right _ hp)) hB q'
      have := Sls.val (q.mono e fun p hp => hA p (List.mem_append_left _ hp)) this
      rw [List.append_assoc]; exact this
    · have := h5 I' H' e (fun p hp => hA p (List.mem_append_right _ hp)) hB
      have := Sls.val (q.mono e fun p hp => hA p (List.mem_append_left _ hp)) this
      rw [List.append_assoc]; exact this
theorem Sls.setSelf {σ : L2.St} {Γ : List SL} {T : List Addr} {i : Nat} {v : V} (h : σ[i]? = some (some v)) : σ.set i (some v) = σ := set_self h
end
end Vc

set_option Elab.async false
set_option linter.all false
set_option maxRecDepth 100000
namespace Vc
open PySem PySem.Spec PyProof.Rows L2
open Enc (enc)
/-! ### own classes -/
/-- the class n: its plain attributes -/
structure ClsT (K : PySem.W.Frag) (mg : Str → Option Value) (n : Str) (fs : List Str) : Prop where
  ex : ∃ C, mg n = some (.ref C) ∧ Cls K C ∧ ∀ f ∈ fs, NoAttr K C f
theorem R.ins_inv {K : PySem.W.Frag} {mg : Str → Option Value} {H : Hp} {v : V} {n : Str} {fs : List (Str × D)} (h : R K mg H v (.ins n fs)) : ∃ a C dx vs, v = .ref a ∧ mg n = some (.ref C) ∧ H a = some (.ins C dx vs) ∧ RF K mg H vs fs := by
  cases h with
  | ins q e r => exact ⟨_, _, _, _, rfl, q, e, r⟩
theorem Ow.ins_inv {K : PySem.W.Frag} {mg : Str → Option Value} {I H : Hp} {v : V} {n : Str} {fs : List (Str × O)} {T : List Addr} (h : Ow K mg I H v (.ins n fs) T) : ∃ p C dx vs T', v = .ref p ∧ T = p :: T' ∧ mg n = some (.ref C) ∧ H p = some (.ins C dx vs) ∧ OwF K mg I H vs fs T' := by
  cases h with
  | ins q e r => exact ⟨_, _, _, _, _, rfl, rfl, q, e, r⟩
section
variable {X : Cx} {Γ Γx : List SL} {e o : Expr} {es : List Expr} {rest : List Stmt} {pos p apos tpos : Pos} {α β γ : Type} [Enc α] [Enc β] [Enc γ] {w : Bool} {τ : Type} {E : Eds τ} {n f x : Str} {names : List Str}
/-- e.f of an immutable instance -/
theorem ve_fld {m : M α} (fs : α → List (Str × D)) (g : α → β) (T : ClsT X.K X.mg n names) (hf : f ∈ names) (h : VX w X Γ e m) (he : ∀ a : α, enc a = .ins n (fs a)) (hl : ∀ a, (fs a).lookup f = some (enc (g a)))
    (hb : attributeBase e f X.env (eval e X.env) = eval e X.env := by rfl) : VX w X Γ (.Attribute e f pos) (m >>= fun a => M.ok (g a)) := fun W tk σ I H T' mw Q o => by
  refine to_t (pe_fld pe_of hb) (h.ap tk mw o.bind (fun a _ o1 v I1 H1 g1 r1 => ?_) fun _ z => z)
  rw [he a] at r1
  obtain ⟨q, C, dx, vs, rfl, hC, hH, rf⟩ := r1.ins_inv
  obtain ⟨C', hC', c, na⟩ := T.ex
  rw [hC] at hC'; cases hC'
  obtain ⟨y, hy, ry⟩ := rf.lookup (hl a)
  exact ⟨q, C, dx, vs, y, rfl, wsel_le g1.ih _ _ hH, c, na f hf, hy, o1 y I1 H1 g1 ry⟩
/-! ### places -/
/-- e is the way to the place π of the slot i -/
def VQ (X : Cx) (Γ : List SL) (i : Nat) (π : List Pt) (e : Expr) : Prop :=
  ∀ σ I H T, Mw X.K X.mg Γ σ I H T → ∀ v u, σ[i]? = some (some v) → subV H π v u → ∀ Q : L2.VK, Q u H → tOf X e σ H Q
theorem vq_name (i : Nat) (hN : X.N[i]? = some x := by rfl) (hv : Vis X.env.scope x := by first | exact Or.inl rfl | exact Or.inr (Or.inl rfl) | exact Or.inr (Or.inr rfl)) (hd : (x == ("__debug__" : Str)) = false := by decide) (hcd : (x == ("__classdict__" : Str)) = false := by decide) :
    VQ X Γ i [] (.Name x p) := fun σ I H T mw v u hv' hs Q q => by
  obtain rfl : u = v := hs
  exact to_t (pe_var hN hv hd hcd) ⟨u, hv', q⟩
theorem vq_pin {i : Nat} {π : List Pt} (h : VQ X Γ i π e) : VQ X Γ i (.pin :: π) e := fun σ I H T mw v u hv' hs Q q => h σ I H T mw v u hv' hs Q q
theorem subV_split {H : Hp} {ρ : List Pt} : ∀ {π : List Pt} {v w : V}, subV H (π ++ ρ) v w → ∃ u, subV H π v u ∧ subV H ρ u w
  | [], v, w, h => ⟨v, rfl, h⟩
  | .pin :: π, v, w, h => subV_split (π := π) h
  | .fld f _ :: π, _, _, ⟨p, C, dx, vs, u, e, h1, h2, h3⟩ => by
    obtain ⟨u', a, b⟩ := subV_split h3
    exact ⟨u', ⟨p, C, dx, vs, u, e, h1, h2, a⟩, b⟩
  | .idx j :: π, _, _, ⟨p, xs, u, e, h1, h2, h3⟩ => by
    obtain ⟨u', a, b⟩ := subV_split h3
    exact ⟨u', ⟨p, xs, u, e, h1, h2, a⟩, b⟩
theorem mw_at {σ : L2.St} {I H : Hp} {T : List Addr} {i : Nat} {π : List Pt} {oo o1 : O} (mw : Mw X.K X.mg Γ σ I H T) (hΓ : Γ[i]? = some (.val oo)) (hg : getO π oo = some o1) : ∃ v u T1, σ[i]? = some (some v) ∧ subV H π v u ∧ Ow X.K X.mg I H u o1 T1 := by
  obtain ⟨v, A, T1, B, h1, h2, h3, h4, _⟩ := mw.sl.at hΓ
  obtain ⟨u, A2, T2, B2, g1, g2, g3, g4⟩ := h3.at hg
  exact ⟨v, u, T2, h1, g1, g3⟩
/-- e.f: a place within -/
theorem vq_fld {i k : Nat} {π : List Pt} {oo : O} {fs : List (Str × O)} (T : ClsT X.K X.mg n names) (hf : f ∈ names) (h : VQ X Γ i π e) (hΓ : Γ[i]? = some (.val oo)) (hg : getO π oo = some (.ins n fs)) (hb : attributeBase e f X.env (eval e X.env) = eval e X.env := by rfl) : VQ X Γ i (π ++ [.fld f k]) (.Attribute e f pos) := fun σ I H T' mw v u hv hs Q q => by
  obtain ⟨u', s1, s2⟩ := subV_split hs
  obtain ⟨v2, u2, T1, hv2, s2', ow⟩ := mw_at mw hΓ hg
  rw [hv] at hv2; cases hv2
  obtain rfl := subV_fun s1 s2'
  obtain ⟨p', C, dx, vs, T2, rfl, _, hC, hH, _⟩ := ow.ins_inv
  obtain ⟨p2, C2, dx2, vs2, y, e1, e2, e3, e4⟩ := s2
  cases e1
  rw [hH] at e2; cases e2
  obtain rfl : u = y := e4
  obtain ⟨C', hC', c, na⟩ := T.ex
  rw [hC] at hC'; cases hC'
  refine to_t (pe_fld pe_of hb) ?_
  exact h σ I H T' mw v _ hv s1 _ ⟨p', C, dx, vs, u, rfl, hH, c, na f hf, e3, q⟩
/-- the value at a place: plain -/
theorem ve_at {i : Nat} {π : List Pt} {oo : O} {a : α} (h : VQ X Γ i π e) (hΓ : Γ[i]? = some (.val oo)) (hg : getO π oo = some (.imm (enc a))) : VX w X Γ e (M.ok a) := VX.le fun W tk σ I H T mw Q o => by
  obtain ⟨v, u, T1, hv, s, ow⟩ := mw_at mw hΓ hg
  cases ow with
  | imm r => exact h σ I H T mw v u hv s Q (o u I H (.refl mw.ih) r)
/-- .. borrowed -/
theorem vb_at {i : Nat} {π : List Pt} {oo o1 : O} {a : α} (h : VQ X Γ i π e) (hΓ : Γ[i]? = some (.val oo)) (hg : getO π oo = some o1) (hD : o1.toD = enc a) : VX true X Γ e (M.ok a) := fun W tk σ I H T mw Q o => by
  obtain ⟨v, u, T1, hv, s, ow⟩ := mw_at mw hΓ hg
  refine h σ I H T mw v u hv s Q (o u I H (.refl mw.ih) ?_)
  rw [← hD]
  exact ow.toR mw.ih fun _ _ => rfl
end
/-! ### changes at a place -/
theorem nodup_swap {A X Y B : List Addr} (h : (A ++ (X ++ B)).Nodup) (hy : Y.Nodup) (hd : ∀ y ∈ Y, y ∈ X ∨ y ∉ A ++ (X ++ B)) : (A ++ (Y ++ B)).Nodup := by
  obtain ⟨hA, hXB, h1⟩ := List.nodup_append.mp h
  obtain ⟨hX, hB, h2⟩ := List.nodup_append.mp hXB
  have yA : ∀ y ∈ Y, y ∉ A := fun y hy' z => by
    rcases hd y hy' with q | q
    · exact h1 y z y (List.mem_append_left _ q) rfl
    · exact q (List.mem_append_left _ z)
  have yB : ∀ y ∈ Y, y ∉ B := fun y hy' z => by
    rcases hd y hy' with q | q
    · exact h2 y q y z rfl
    · exact q (List.mem_append_right _ (List.mem_append_right _ z))
  refine List.nodup_append.mpr ⟨hA, List.nodup_append.mpr ⟨hy, hB, fun a ha b hb e => yB a ha (e ▸ hb)⟩, fun a ha b hb e => ?_⟩
  subst e
  rcases List.mem_append.mp hb with q | q
  · exact yA a q ha
  · exact h1 a ha a (List.mem_append_right _ q) rfl
section
variable {K : PySem.W.Frag} {mg : Str → Option Value} {I0 H0 : Hp} {Γ : List SL} {σ : L2.St} {I H : Hp} {T : List Addr}
/-- the object at a place may be changed -/
theorem mt_put {i : Nat} {π : List Pt} {oo o1 : O} (mt : Mt K mg I0 H0 Γ σ I H T) (hΓ : Γ[i]? = some (.val oo)) (hg : getO π oo = some o1) : ∃ v u T1, σ[i]? = some (some v) ∧ subV H π v u ∧ Ow K mg I H u o1 T1 ∧ (∀ p ∈ T1, p ∈ T) ∧ T1.Nodup ∧
    ∀ I' H' T2, Wd I H I' H' T2 → subV H' π v u ∧ Ow K mg I' H' u o1 T1 ∧ ∀ H'' o' T1', (∀ p, p ∉ T1 → H'' p = H' p) → Ow K mg I' H'' u o' T1' → (∀ p ∈ T1', p ∈ T1 ∨ p ∈ T2) → T1'.Nodup → ∃ T', Mt K mg I0 H0 (Γ.set i (.val (putO π oo o'))) σ I' H'' T' := by
  obtain ⟨v, A, T1, B, h1, h2, h3, h4, _⟩ := mt.sl.at hΓ
  obtain ⟨u, A2, T2, B2, g1, g2, g3, g4⟩ := h3.at hg
  have hT : T = (A ++ A2) ++ (T2 ++ (B2 ++ B)) := by rw [h2, g2]; simp
  have nd := mt.wd.nd
  rw [hT] at nd
  have there : ∀ p ∈ T, ∃ x, H p = some x := fun p hp => mt.sl.there p hp
  have inT : ∀ p ∈ T2, p ∈ T := fun p hp => by rw [hT]; simp [hp]
  have keepH : ∀ {I' H' Tn}, Wd I H I' H' Tn → ∀ p ∈ T, H' p = H p := fun w p hp => by
    obtain ⟨x, e⟩ := there p hp
    rw [e]; exact w.h0 p _ e
  have nT2 : T2.Nodup := (List.nodup_append.mp (List.nodup_append.mp nd).2.1).1
  refine ⟨v, u, T2, h1, g1, g3, inT, nT2, fun I' H' Tn w => ?_⟩
  have mA : ∀ p ∈ A, p ∈ T := fun p hp => by rw [hT]; simp [hp]
  have mA2 : ∀ p ∈ A2, p ∈ T := fun p hp => by rw [hT]; simp [hp]
  have mB : ∀ p ∈ B, p ∈ T := fun p hp => by rw [hT]; simp [hp]
  have mB2 : ∀ p ∈ B2, p ∈ T := fun p hp => by rw [hT]; simp [hp]
  refine ⟨(g4 I' H' o1 T2 w.i0 (fun p hp => keepH w p (mA2 p hp)) (fun p hp => keepH w p (mB2 p hp)) (g3.mono w.i0 fun p hp => keepH w p (inT p hp))).2, g3.mono w.i0 fun p hp => keepH w p (inT p hp), fun H'' o' T1' hk q hsub hnd => ?_⟩
  have out : ∀ p, p ∈ A ∨ p ∈ A2 ∨ p ∈ B2 ∨ p ∈ B → p ∉ T2 := fun p hp z => by
    obtain ⟨_, n2, n3⟩ := List.nodup_append.mp nd
    obtain ⟨_, _, n5⟩ := List.nodup_append.mp n2
    rcases hp with hp | hp | hp | hp
    · exact n3 p (List.mem_append_left _ hp) p (List.mem_append_left _ z) rfl
    · exact n3 p (List.mem_append_right _ hp) p (List.mem_append_left _ z) rfl
    · exact n5 p z p (List.mem_append_left _ hp) rfl
    · exact n5 p z p (List.mem_append_right _ hp) rfl
  have kA : ∀ p ∈ A, H'' p = H p := fun p hp => (hk p (out p (.inl hp))).trans (keepH w p (mA p hp))
  have kA2 : ∀ p ∈ A2, H'' p = H p := fun p hp => (hk p (out p (.inr (.inl hp)))).trans (keepH w p (mA2 p hp))
  have kB2 : ∀ p ∈ B2, H'' p = H p := fun p hp => (hk p (out p (.inr (.inr (.inl hp))))).trans (keepH w p (mB2 p hp))
  have kB : ∀ p ∈ B, H'' p = H p := fun p hp => (hk p (out p (.inr (.inr (.inr hp))))).trans (keepH w p (mB p hp))
  have q1 := (g4 I' H'' o' T1' w.i0 kA2 kB2 q).1
  have q2 := h4 I' H'' v (putO π oo o') _ w.i0 kA kB q1
  rw [set_self h1] at q2
  have e' : A ++ (A2 ++ (T1' ++ B2) ++ B) = (A ++ A2) ++ (T1' ++ (B2 ++ B)) := by simp
  rw [e'] at q2
  have fresh : ∀ p ∈ Tn, p ∉ T := fun p hp z => by
    obtain ⟨x, e⟩ := there p z
    have := (w.fr p hp).2
    rw [e] at this; cases this
  refine ⟨_, ⟨fun p ob e => ?_, mt.wd.i0.trans w.i0, fun p ob e => ?_, fun p hp => ?_, ?_, fun p hp hi => ?_⟩, q2⟩
  · by_cases hp : p ∈ T2
    · have h0 := w.sep p (by obtain ⟨x, e⟩ := there p (inT p hp); rw [e]; simp) (mt.wd.fr p (inT p hp)).1
      rw [h0] at e; cases e
    · rw [hk p hp]; exact w.ih p ob e
  · have hp : p ∉ T2 := fun z => by
      have := (mt.wd.fr p (inT p z)).2
      rw [this] at e; cases e
    rw [hk p hp]; exact w.h0 p ob (mt.wd.h0 p ob e)
  · have : p ∈ T ∨ p ∈ Tn := by
      simp only [List.mem_append] at hp
      rcases hp with (hp | hp) | hp | hp | hp
      · exact .inl (mA p hp)
      · exact .inl (mA2 p hp)
      · exact (hsub p hp).imp (inT p) id
      · exact .inl (mB2 p hp)
      · exact .inl (mB p hp)
    rcases this with z | z
    · exact ⟨w.sep p (by obtain ⟨x, e⟩ := there p z; rw [e]; simp) (mt.wd.fr p z).1, (mt.wd.fr p z).2⟩
    · refine ⟨(w.fr p z).1, ?_⟩
      cases q : H0 p with
      | none => rfl
      | some ob => have := mt.wd.h0 p ob q; rw [(w.fr p z).2] at this; cases this
  · refine nodup_swap nd hnd fun y hy => ?_
    rcases hsub y hy with z | z
    · exact .inl z
    · exact .inr fun q => fresh y z (by rw [hT]; exact q)
  · have h1 := mt.wd.sep p hp hi
    refine w.sep p ?_ h1
    cases q : H0 p with
    | none => exact absurd q hp
    | some ob => rw [mt.wd.h0 p ob q]; simp
end
end Vc

set_option Elab.async false
set_option linter.all false
set_option maxRecDepth 100000
namespace Vc
open PySem PySem.Spec PyProof.Rows L2
open Enc (enc)
theorem putF_set' {f : Str} {y : V} : ∀ {l : List Str} {i k : Nat} {vs : List (Str × V)}, ixN' f l i = some k → vs.map Prod.fst = l → putF f y vs = vs.set (k - i) (f, y)
  | [], _, _, _, h, _ => by cases h
  | g :: l, i, k, [], _, hv => by cases hv
  | g :: l, i, k, (n, u) :: vs, h, hv => by
    simp only [List.map_cons, List.cons.injEq] at hv
    unfold ixN' at h
    show (if n = f then (n, y) :: vs else (n, u) :: putF f y vs) = _
    split at h
    · rename_i e
      cases h
      rw [if_pos (hv.1.trans (eq_of_beq e)), hv.1, eq_of_beq e, Nat.sub_self, List.set_cons_zero]
    · rename_i e
      have h1 := (ixN'_some h).1
      rw [if_neg (fun z => e (by rw [← hv.1, z]; exact beq_self_eq_true f)), putF_set' h hv.2, show k - i = (k - (i + 1)) + 1 by omega, List.set_cons_succ]
theorem putF_set {f : Str} {y : V} {l : List Str} {k : Nat} {vs : List (Str × V)} (h : ixN f l = some k) (hv : vs.map Prod.fst = l) : putF f y vs = vs.set k (f, y) := putF_set' (i := 0) h hv
theorem putF_new' {f : Str} {y : V} : ∀ {l : List Str} {i : Nat} {vs : List (Str × V)}, ixN' f l i = none → vs.map Prod.fst = l → putF f y vs = vs ++ [(f, y)]
  | [], _, [], _, _ => rfl
  | [], _, _ :: _, _, hv => by cases hv
  | g :: l, i, [], _, hv => by cases hv
  | g :: l, i, (n, u) :: vs, h, hv => by
    simp only [List.map_cons, List.cons.injEq] at hv
    unfold ixN' at h
    show (if n = f then (n, y) :: vs else (n, u) :: putF f y vs) = _
    split at h
    · cases h
    · rename_i e
      rw [if_neg (fun z => e (by rw [← hv.1, z]; exact beq_self_eq_true f)), putF_new' h hv.2]; rfl
theorem putF_new {f : Str} {y : V} {l : List Str} {vs : List (Str × V)} (h : ixN f l = none) (hv : vs.map Prod.fst = l) : putF f y vs = vs ++ [(f, y)] := putF_new' h hv
theorem OwF.length {K : PySem.W.Frag} {mg : Str → Option Value} {I H : Hp} : ∀ {vs : List (Str × V)} {fs : List (Str × O)} {T : List Addr}, OwF K mg I H vs fs T → vs.length = fs.length
  | _, _, _, .nil => rfl
  | _, _, _, .cons _ r => congrArg (· + 1) (OwF.length r)
theorem OwF.snoc {K : PySem.W.Frag} {mg : Str → Option Value} {I H : Hp} {f : Str} {y : V} {o : O} {T2 : List Addr} (q : Ow K mg I H y o T2) : ∀ {vs : List (Str × V)} {fs : List (Str × O)} {T : List Addr}, OwF K mg I H vs fs T → OwF K mg I H (vs ++ [(f, y)]) (fs ++ [(f, o)]) (T ++ T2)
  | _, _, _, .nil => by have := OwF.cons (n := f) q .nil; simpa using this
  | _, _, _, .cons h r => by rw [List.append_assoc]; exact .cons h (OwF.snoc q r)
/-- the slot's new object -/
def setF (k : Nat) (f : Str) (o : O) (fs : List (Str × O)) : List (Str × O) := fs.set k (f, o)
section
variable {X : Cx} {Γ Γx : List SL} {e ob : Expr} {rest : List Stmt} {pos p apos tpos : Pos} {α β γ : Type} [Enc α] [Enc β] [Enc γ] {w : Bool} {τ : Type} {E : Eds τ} {n f x : Str} {names : List Str}
/-- e.f = v: the field was there (k its place) -/
theorem vs_fldSO {i k : Nat} {π : List Pt} {oo : O} {fs : List (Str × O)} {ow : α → O} {m : M α} {kk : α → M τ} (T : ClsT X.K X.mg n names) (hf : f ∈ names) (h : VQ X Γ i π ob) (hΓ : Γ[i]? = some (.val oo)) (hg : getO π oo = some (.ins n fs)) (hx : ixN f (fs.map Prod.fst) = some k) (hl : fs.length < 1000)
    (he : VO X Γ e ow m) (hk : ∀ a, VS X (Γ.set i (.val (putO π oo (.ins n (setF k f (ow a) fs))))) Γx rest E (kk a)) (hs : Sub Γ Γx) (hsw : swapsWith e (some (.Attribute ob f apos)) pos.line X.env = pure false := by rfl) :
    VS X Γ Γx (.Assign [.Attribute ob f apos] e pos :: rest) E (m >>= kk) := fun W tk I0 H0 σ I H T' mt D o => by
  obtain ⟨v, u, T1, hv, s, ow1, inT, nd1, up⟩ := mt_put mt hΓ hg
  refine seq_s (to_s1 (ps_fld pe_of pe_of hsw) ?_)
  show tOf X e σ H _
  refine he.ap tk mt.mw o.bind (fun a _ o1 y I1 H1 T2 w1 r1 => ?_) fun _ z => z.xo mt hs
  obtain ⟨s1, ow2, up2⟩ := up I1 H1 T2 w1
  obtain ⟨q, C, dx, vs, Tf, rfl, eT, hC, hH, rf⟩ := ow2.ins_inv
  obtain ⟨C', hC', c, na⟩ := T.ex
  rw [hC] at hC'; cases hC'
  have there : ∀ p ∈ T', H p ≠ none := fun p hp => by obtain ⟨xs, e⟩ := mt.sl.there p hp; rw [e]; simp
  have mw1 : Mw X.K X.mg Γ σ I1 H1 T' := ⟨w1.ih, fun p hp => w1.sep p (there p hp) (mt.wd.fr p hp).1, mt.wd.nd, mt.sl.mono w1.i0 fun p hp => by
    obtain ⟨xs, e⟩ := mt.sl.there p hp
    rw [e]; exact w1.h0 p _ e⟩
  refine h σ I1 H1 T' mw1 v _ hv s1 _ ⟨q, C, dx, vs, rfl, hH, c, na f hf, by rw [rf.length]; exact hl, ?_⟩
  subst eT
  obtain ⟨nq, ndf⟩ := List.nodup_cons.mp nd1
  have nT2 : ∀ p ∈ T2, p ∉ q :: Tf := fun p hp z => there p (inT p z) (w1.fr p hp).2
  have hvs : vs.map Prod.fst = fs.map Prod.fst := rf.names
  obtain ⟨ov, hko, _⟩ := ixN_some hx fs rfl
  obtain ⟨uo, A, T1o, B, a1, a2, a3, a4⟩ := rf.at hko
  subst a2
  have hA : ∀ p ∈ A, p ≠ q := fun p hp z => nq (by rw [← z]; simp [hp])
  have hB : ∀ p ∈ B, p ≠ q := fun p hp z => nq (by rw [← z]; simp [hp])
  have h2 : ∀ p ∈ T2, p ≠ q := fun p hp z => nT2 p hp (by rw [z]; exact List.mem_cons_self)
  have new := a4 I1 (upd H1 q (.ins C dx (putF f y vs))) y (ow a) T2 (.refl _) (fun p hp => upd_ne (hA p hp)) (fun p hp => upd_ne (hB p hp)) (r1.mono (.refl _) fun p hp => upd_ne (h2 p hp))
  rw [← putF_set (y := y) hx hvs] at new
  obtain ⟨T3, mt3⟩ := up2 (upd H1 q (.ins C dx (putF f y vs))) (.ins n (setF k f (ow a) fs)) (q :: (A ++ (T2 ++ B))) (fun p hp => upd_ne fun z => hp (by rw [z]; exact List.mem_cons_self)) (.ins hC upd_same new) (fun p hp => by
    simp only [List.mem_cons, List.mem_append] at hp ⊢
    rcases hp with hp | hp | hp | hp
    · exact .inl (.inl hp)
    · exact .inl (.inr (.inl hp))
    · exact .inr hp
    · exact .inl (.inr (.inr (.inr hp)))) (List.nodup_cons.mpr ⟨fun z => by
      simp only [List.mem_append] at z
      rcases z with z | z | z
      · exact hA q z rfl
      · exact h2 q z rfl
      · exact hB q z rfl, nodup_swap ndf w1.nd fun p hp => .inr fun z => nT2 p hp (List.mem_cons_of_mem _ z)⟩)
  exact rest_s (hk a) tk mt3 o1
/-- .. plain -/
theorem VX.vo {m : M α} (h : VX false X Γ e m) : VO X Γ e (fun a : α => O.imm (enc a)) m := fun W tk σ I H T mw Q o => h W tk σ I H T mw Q (o.mono (fun a _ k v I' H' g r => k v I' H' [] g (.imm r)) fun _ _ z => z)
/-- e.f = v: a new field -/
theorem vs_fldNO {i : Nat} {π : List Pt} {oo : O} {fs : List (Str × O)} {ow : α → O} {m : M α} {kk : α → M τ} (T : ClsT X.K X.mg n names) (hf : f ∈ names) (h : VQ X Γ i π ob) (hΓ : Γ[i]? = some (.val oo)) (hg : getO π oo = some (.ins n fs)) (hx : ixN f (fs.map Prod.fst) = none) (hl : fs.length < 1000)
    (he : VO X Γ e ow m) (hk : ∀ a, VS X (Γ.set i (.val (putO π oo (.ins n (fs ++ [(f, ow a)]))))) Γx rest E (kk a)) (hs : Sub Γ Γx) (hsw : swapsWith e (some (.Attribute ob f apos)) pos.line X.env = pure false := by rfl) :
    VS X Γ Γx (.Assign [.Attribute ob f apos] e pos :: rest) E (m >>= kk) := fun W tk I0 H0 σ I H T' mt D o => by
  obtain ⟨v, u, T1, hv, s, ow1, inT, nd1, up⟩ := mt_put mt hΓ hg
  refine seq_s (to_s1 (ps_fld pe_of pe_of hsw) ?_)
  show tOf X e σ H _
  refine he.ap tk mt.mw o.bind (fun a _ o1 y I1 H1 T2 w1 r1 => ?_) fun _ z => z.xo mt hs
  obtain ⟨s1, ow2, up2⟩ := up I1 H1 T2 w1
  obtain ⟨q, C, dx, vs, Tf, rfl, eT, hC, hH, rf⟩ := ow2.ins_inv
  obtain ⟨C', hC', c, na⟩ := T.ex
  rw [hC] at hC'; cases hC'
  have there : ∀ p ∈ T', H p ≠ none := fun p hp => by obtain ⟨xs, e⟩ := mt.sl.there p hp; rw [e]; simp
  have mw1 : Mw X.K X.mg Γ σ I1 H1 T' := ⟨w1.ih, fun p hp => w1.sep p (there p hp) (mt.wd.fr p hp).1, mt.wd.nd, mt.sl.mono w1.i0 fun p hp => by
    obtain ⟨xs, e⟩ := mt.sl.there p hp
    rw [e]; exact w1.h0 p _ e⟩
  refine h σ I1 H1 T' mw1 v _ hv s1 _ ⟨q, C, dx, vs, rfl, hH, c, na f hf, by rw [rf.length]; exact hl, ?_⟩
  subst eT
  obtain ⟨nq, ndf⟩ := List.nodup_cons.mp nd1
  have nT2 : ∀ p ∈ T2, p ∉ q :: Tf := fun p hp z => there p (inT p z) (w1.fr p hp).2
  have hvs : vs.map Prod.fst = fs.map Prod.fst := rf.names
  have hA : ∀ p ∈ Tf, p ≠ q := fun p hp z => nq (by rw [← z]; exact hp)
  have h2 : ∀ p ∈ T2, p ≠ q := fun p hp z => nT2 p hp (by rw [z]; exact List.mem_cons_self)
  have new := OwF.snoc (f := f) (r1.mono (.refl _) fun p hp => upd_ne (h2 p hp)) (rf.mono (H' := upd H1 q (.ins C dx (putF f y vs))) (.refl _) fun p hp => upd_ne (hA p hp))
  rw [← putF_new (y := y) hx hvs] at new
  obtain ⟨T3, mt3⟩ := up2 (upd H1 q (.ins C dx (putF f y vs))) (.ins n (fs ++ [(f, ow a)])) (q :: (Tf ++ T2)) (fun p hp => upd_ne fun z => hp (by rw [z]; exact List.mem_cons_self)) (.ins hC upd_same new) (fun p hp => by
    simp only [List.mem_cons, List.mem_append] at hp ⊢
    rcases hp with hp | hp | hp
    · exact .inl (.inl hp)
    · exact .inl (.inr hp)
    · exact .inr hp) (List.nodup_cons.mpr ⟨fun z => by
      rcases List.mem_append.mp z with z | z
      · exact hA q z rfl
      · exact h2 q z rfl, List.nodup_append.mpr ⟨ndf, w1.nd, fun a ha b hb e => nT2 b hb (by rw [← e]; exact List.mem_cons_of_mem _ ha)⟩⟩)
  exact rest_s (hk a) tk mt3 o1
end
end Vc

set_option Elab.async false
set_option linter.all false
set_option maxRecDepth 100000
namespace Vc
open PySem PySem.Spec PyProof.Rows L2
open Enc (enc)
section
variable {X : Cx} {Γ Γx : List SL} {e ob : Expr} {rest : List Stmt} {pos p apos tpos : Pos} {α β γ : Type} [Enc α] [Enc β] [Enc γ] {w : Bool} {τ : Type} {E : Eds τ} {n f x : Str} {names : List Str}
/-- an owned list at a place -/
theorem own_pl {I0 H0 : Hp} {σ : L2.St} {I H : Hp} {T : List Addr} {i : Nat} {π : List Pt} {oo : O} {l : List α} (mt : Mt X.K X.mg I0 H0 Γ σ I H T) (hΓ : Γ[i]? = some (.val oo)) (hg : getO π oo = some (ow1 l)) : ∃ v q xs, σ[i]? = some (some v) ∧ subV H π v (.ref q) ∧ H q = some (.lst xs) ∧ Rs X.K X.mg I xs (l.map enc) ∧
    ∀ I' H', Gr I H I' H' → subV H' π v (.ref q) ∧ H' q = some (.lst xs) ∧ ∀ xs' (l' : List α), Rs X.K X.mg I' xs' (l'.map enc) → ∃ T', Mt X.K X.mg I0 H0 (Γ.set i (.val (putO π oo (ow1 l')))) σ I' (upd H' q (.lst xs')) T' := by
  obtain ⟨v, u, T1, hv, s, ow, inT, nd1, up⟩ := mt_put mt hΓ hg
  rw [ow1_inv] at ow
  cases ow with
  | lst h3 rr =>
    rename_i q xs T2
    obtain ⟨rfl, rs⟩ := rr.imm
    refine ⟨v, q, xs, hv, s, h3, rs, fun I' H' g => ?_⟩
    obtain ⟨s1, ow2, up2⟩ := up I' H' [] g
    refine ⟨s1, g.h0 _ _ h3, fun xs' l' r' => ?_⟩
    refine up2 (upd H' q (.lst xs')) (ow1 l') [q] (fun p hp => upd_ne fun z => hp (by rw [z]; exact List.mem_cons_self)) ?_ (fun p hp => .inl hp) (List.nodup_cons.mpr ⟨fun z => (nomatch z), List.nodup_nil⟩)
    rw [ow1_inv]
    exact .lst upd_same (Ows.of_imm r')
/-- ob.append(e), ob a place -/
theorem vs_appP {i : Nat} {π : List Pt} {oo : O} {l : List α} {m : M α} {k : List α → M τ} (h : VQ X Γ i π ob) (hΓ : Γ[i]? = some (.val oo)) (hg : getO π oo = some (ow1 l)) (he : VE X Γ e m) (hk : ∀ l', VS X (Γ.set i (.val (putO π oo (ow1 l')))) Γx rest E (k l')) (hs : Sub Γ Γx)
    (hbase : attributeBase ob "append" X.env (eval ob X.env) = eval ob X.env := by rfl)
    (hfew : ((backTo p (starEach [e] X.env)).all (fun x => !x.1) && (backToKw p (keywordEach [] X.env)).all (fun x => x.1.isSome) && decide (([e] : List Expr).length + ([] : List Keyword).length + (if ([] : List Keyword).isEmpty then 0 else 1) < 30)) = true := by rfl)
    (hline : (apos.endLine == p.line) = true := by rfl) (hst : starEach [e] X.env = (false, eval e X.env) :: starEach [] X.env := by rfl) (hpl : (backTo p (starEach [] X.env)).any (·.1) = false := by rfl)
    (hsw : swapsWith (.Call (.Attribute ob "append" apos) [e] [] p) none pos.line X.env = pure false := by rfl) :
    VS X Γ Γx (.Expr (.Call (.Attribute ob "append" apos) [e] [] p) pos :: rest) E (m >>= fun a => chk (l.length < sizeLine) >>= fun _ => k (l ++ [a])) := fun W tk I0 H0 σ I H T mt D o => by
  obtain ⟨v, q, xs, hv, s, h3, rs, up⟩ := own_pl mt hΓ hg
  refine seq_s (to_s1 (ps_expr (pe_bm PySem.F.plainAttrs_list PySem.F.slot_list_append PySem.F.type_list_append mt_append pe_of (pa_cons pe_of pa_nil hst) hbase hfew hline hst hpl) hsw) (h σ I H T mt.mw v _ hv s _ ⟨.inl ⟨rfl, xs, .of h3⟩, ?_⟩))
  refine he.ap tk mt.mw o.bind (fun a _ o1 y I1 H1 g1 r1 => ?_) fun _ z => z.xo mt hs
  obtain ⟨hz, o2⟩ := o1.chk
  obtain ⟨_, h3', up'⟩ := up I1 H1 g1
  refine ⟨q, xs, y, rfl, rfl, h3', by rw [rs.length, List.length_map]; exact hz, ?_⟩
  obtain ⟨T2, mt2⟩ := up' (xs ++ [y]) (l ++ [a]) (by rw [List.map_append]; exact Rs.append (rs.mono g1.i0) (.cons r1 .nil))
  exact rest_s (hk _) tk mt2 o2
theorem inop {op : Operator} {r : R2} (ho : OpR X (inplaceOp op) r) : InOp X op r := fun pins s σ H x y u v Q I rx ry h => ho pins s σ H x y u v Q I rx ry h
/-- ob.f op= e, a plain operator on ints -/
theorem vs_fldAug {i k : Nat} {π : List Pt} {oo : O} {fs : List (Str × O)} {op : Operator} {g : Int → Int → Int} {a : Int} {m : M Int} {kk : Int → M τ} (T : ClsT X.K X.mg n names) (hf : f ∈ names) (h : VQ X Γ i π ob) (hΓ : Γ[i]? = some (.val oo)) (hg : getO π oo = some (.ins n fs)) (hx : ixN f (fs.map Prod.fst) = some k)
    (hk0 : fs[k]? = some (f, .imm (enc a))) (hl : fs.length < 1000) (ho : OpR X (inplaceOp op) (rI0 fun i j => .int (g i j))) (he : VX true X Γ e m) (hk : ∀ z : Int, VS X (Γ.set i (.val (putO π oo (.ins n (setF k f (.imm (enc z)) fs))))) Γx rest E (kk z)) (hs : Sub Γ Γx) :
    VS X Γ Γx (.AugAssign (.Attribute ob f tpos) op e pos :: rest) E (m >>= fun b => kk (g a b)) := fun W tk I0 H0 σ I H T' mt D o => by
  obtain ⟨v, u, T1, hv, s, ow1, inT, nd1, up⟩ := mt_put mt hΓ hg
  refine seq_s (to_s1 (ps_fldaug pe_of pe_of (inop ho)) (h σ I H T' mt.mw v u hv s _ ?_))
  obtain ⟨q, C, dx, vs, Tf, rfl, eT, hC, hH, rf⟩ := ow1.ins_inv
  obtain ⟨C', hC', c, na⟩ := T.ex
  rw [hC] at hC'; cases hC'
  obtain ⟨uo, A, T1o, B, a1, a2, a3, a4⟩ := rf.at hk0
  obtain ⟨u0, hk0', hl0⟩ := ixN_some hx vs rf.names
  rw [a1] at hk0'; cases hk0'
  cases a3 with
  | imm r0 =>
    have r0 : R X.K X.mg I uo (.int a) := r0
    cases r0
    refine ⟨q, C, dx, vs, _, rfl, hH, c, na f hf, hl0, ?_⟩
    refine he.ap tk mt.mw o.bind (fun b _ o1 y I1 H1 g1 r1 => ?_) fun _ z => z.xo mt hs
    obtain ⟨s1, ow2, up2⟩ := up I1 H1 [] g1
    have r1 : R X.K X.mg H1 y (.int b) := r1
    cases r1
    refine ⟨_, _, rfl, rfl, dx, vs, g1.h0 _ _ hH, by rw [rf.length]; exact hl, ?_⟩
    obtain ⟨q', C', dx', vs', Tf', e1, e2, hC', hH', rf'⟩ := ow2.ins_inv
    cases e1
    rw [g1.h0 _ _ hH] at hH'; cases hH'
    rw [eT] at e2; cases e2
    obtain ⟨uo', A', T1o', B', b1, b2, b3, b4⟩ := rf'.at hk0
    subst eT
    subst b2
    obtain ⟨nq, ndf⟩ := List.nodup_cons.mp nd1
    cases b3
    have hA : ∀ p ∈ A', p ≠ q := fun p hp z => nq (by rw [← z]; simp [hp])
    have hB : ∀ p ∈ B', p ≠ q := fun p hp z => nq (by rw [← z]; simp [hp])
    have new := b4 I1 (upd H1 q (.ins C dx (putF f (.int (g a b)) vs))) (.int (g a b)) (.imm (enc (g a b))) [] (.refl _) (fun p hp => upd_ne (hA p hp)) (fun p hp => upd_ne (hB p hp)) (.imm (.int _))
    rw [← putF_set (y := V.int (g a b)) hx rf'.names] at new
    obtain ⟨T3, mt3⟩ := up2 (upd H1 q (.ins C dx (putF f (.int (g a b)) vs))) (.ins n (setF k f (.imm (enc (g a b))) fs)) (q :: (A' ++ ([] ++ B'))) (fun p hp => upd_ne fun z => hp (by rw [z]; exact List.mem_cons_self)) (.ins hC upd_same new) (fun p hp => .inl hp) nd1
    exact rest_s (hk _) tk mt3 o1
end
end Vc

set_option Elab.async false
set_option linter.all false
set_option maxRecDepth 100000
namespace Vc
open PySem PySem.Spec PyProof.Rows L2
open Enc (enc)
/-! ### defs that change their first argument -/
/-- a heap but for some addresses -/
def cutH (H : Hp) (T : List Addr) : Hp := fun p => if p ∈ T then none else H p
theorem cutH_in {H : Hp} {T : List Addr} {p : Addr} (h : p ∈ T) : cutH H T p = none := if_pos h
theorem cutH_out {H : Hp} {T : List Addr} {p : Addr} (h : p ∉ T) : cutH H T p = H p := if_neg h
/-- the promise: os0 the object's state before, os1 behind -/
def spM (K : PySem.W.Frag) (mg : Str → Option Value) {A ρ S S' : Type} (ea : A → List D) (eo : ρ → O) (os0 : S → O) (os1 : S' → O) (m : S → A → M (ρ × S')) : Sp := fun vs H Q E => ∃ (I : Hp) (s : S) (x : A) (v0 : V) (vs' : List V) (T : List Addr), vs = v0 :: vs' ∧ Same I H ∧ (∀ p ∈ T, I p = none) ∧ T.Nodup ∧ Ow K mg I H v0 (os0 s) T ∧ Rs K mg I vs' (ea x) ∧
  Out (m s x) (fun r => ∀ v I' H' T2 T', Wd I (cutH H T) I' H' (T2 ++ T') → Ow K mg I' H' v0 (os1 r.2) T' → Ow K mg I' H' v (eo r.1) T2 → Q v H') (fun ex => ∀ cl d I' H', Gr I (cutH H T) I' H' → ExcAt K mg I' ex cl d → E cl d H')
def eFnM {ρ S : Type} (v0 : V) (eo : ρ → O) (os : S → O) : Eds (ρ × S) where
  nx := fun Γ' r => eo r.1 = .imm .non ∧ Γ'[0]? = some (.val (.pin v0 (os r.2)))
  rt := fun Γ' o r => o = eo r.1 ∧ Γ'[0]? = some (.val (.pin v0 (os r.2)))
def entM (N : List Str) (v0 : V) (o : O) (ds : List D) : List SL := .val (.pin v0 o) :: (ds.map (fun d => .val (.imm d)) ++ List.replicate (N.length - (ds.length + 1)) .any)
theorem Mt.startM {K : PySem.W.Frag} {mg : Str → Option Value} {I H : Hp} {v0 : V} {o : O} {T : List Addr} {vs : List V} {ds : List D} {N : List Str} (h : Same I H) (hT : ∀ p ∈ T, I p = none) (nd : T.Nodup) (q : Ow K mg I H v0 o T) (r : Rs K mg I vs ds) : Mt K mg I (cutH H T) (entM N v0 o ds) (L2.start N (v0 :: vs)) I H T := by
  refine ⟨⟨h, .refl _, fun p ob e => ?_, fun p hp => ⟨hT p hp, cutH_in hp⟩, nd, fun _ _ z => z⟩, ?_⟩
  · by_cases hp : p ∈ T
    · rw [cutH_in hp] at e; cases e
    · rwa [cutH_out hp] at e
  · unfold entM L2.start
    rw [List.length_cons, r.length]
    have := Sls.val (.pin q) (Sls.start (H := H) (N.length - (ds.length + 1)) r)
    rw [List.append_nil] at this
    exact this
theorem Sls.zero {K : PySem.W.Frag} {mg : Str → Option Value} {I H : Hp} {σ : L2.St} {Γ : List SL} {T : List Addr} {v0 : V} {o : O} (s : Sls K mg I H σ Γ T) (h : Γ[0]? = some (.val (.pin v0 o))) : ∃ T1 T2, T = T1 ++ T2 ∧ Ow K mg I H v0 o T1 := by
  cases s with
  | nil => simp at h
  | any _ => simp at h
  | val q r =>
    simp at h
    subst h
    cases q with
    | pin q => exact ⟨_, _, rfl, q⟩
section
variable {P : Program} {w : World} {K : PySem.W.Frag} {mg : Str → Option Value} {base : Heap}
theorem fn_okM {x qual : Str} {st : Stmt} {f : Addr} {fd : FuncData} {N ps : List Str} {k : Nat} {A ρ S S' : Type} {ea : A → List D} {eo : ρ → O} {os0 : S → O} {os1 : S' → O} {m : S → A → M (ρ × S')} (F : Fun K x qual st f fd) (Sc : FnScope N ps (defScope st)) (hl : ∀ a, (ea a).length + 1 = ps.length)
    (body : ∀ (cdv : Value) (Ar : Around) (outer : List Env) (s : Shared) (H : Hp) (E : XK), Room k (Ar.deeper (envOfC qual (defScope st) s.heap.objs.size f cdv)) →
      ∀ X, X = cxOf (L2N.CX P w) P w K mg base N qual (defScope st) f cdv Ar outer s H E → ∀ v0 s a, VS X (entM N v0 (os0 s) (ea a)) (anys N.length) (defBody st) (eFnM v0 eo os1) (m s a)) :
    FnOk P w K mg base (L2N.CX P w) (k + 1) f fd ps (spM K mg ea eo os0 os1 m) := by
  obtain ⟨oc, od, kV, doc, pm, an, cdv, ct, osl, rfl, lk, hcd⟩ := F.ex
  refine fn_of lk hcd Sc (fun vs H Q E h => ?_) (fun Ar outer s H vs Q E hr h => ?_)
  · obtain ⟨I, s, x, v0, vs', T, rfl, _, _, _, _, r, _⟩ := h
    rw [List.length_cons, r.length, hl]
  · obtain ⟨I, s0, x, v0, vs', T, rfl, hs, hT, nd, q, r, o⟩ := h
    refine ⟨_, pss_of, ?_⟩
    refine body cdv Ar outer s H E hr _ rfl v0 s0 x (fun cls d _ H' => E cls d H') (L2N.takes_of rfl rfl rfl rfl) I (cutH H T) _ I H T (Mt.startM hs hT nd q r) _ ?_
    refine o.mono (fun r _ k => ?_) fun ex _ k cl d σ' I' H' T' mt a => ?_
    · refine ⟨fun Γ' σ' I' H' T' z mt => ?_, fun _ _ _ _ _ z => z.elim, fun _ _ _ _ _ z => z.elim, fun Γ' σ' o v I' H' T2 T' z wd sl q => ?_⟩
      · obtain ⟨T1, Tr, rfl, q1⟩ := mt.sl.zero z.2
        exact k .non I' H' [] T1 (mt.wd.subl (List.sublist_append_left _ _)) q1 (by rw [z.1]; exact .imm .non)
      · obtain ⟨T1, Tr, rfl, q1⟩ := sl.zero z.2
        exact k v I' H' T2 T1 (wd.subl ((List.Sublist.refl _).append (List.sublist_append_left _ _))) q1 (by rw [← z.1]; exact q)
    · exact k cl d I' H' (mt.wd.subl (List.nil_sublist _)) a
end
/-! ### an expression that changes slots -/
/-- e's value, and the slots as F of a state -/
def VY (X : Cx) (Γ Γx : List SL) {S : Type} (F : S → List SL) (e : Expr) {ρ : Type} (eo : ρ → O) (m : M (ρ × S)) : Prop :=
  ∀ (W : WX), L2N.Takes X W → ∀ I0 H0 σ I H T, Mt X.K X.mg I0 H0 Γ σ I H T → ∀ Q : L2.VK,
    Out m (fun r => ∀ v I' H' T2 T', Wd I0 H0 I' H' (T2 ++ T') → Sls X.K X.mg I' H' σ (F r.2) T' → Ow X.K X.mg I' H' v (eo r.1) T2 → Q v H') (XS X W I0 H0 Γx) → tOf X e σ H Q
section
variable {X : Cx} {Γ Γx : List SL} {e ob a b : Expr} {es : List Expr} {rest : List Stmt} {pos p apos tpos : Pos} {α β γ : Type} [Enc α] [Enc β] [Enc γ] {w : Bool} {τ : Type} {E : Eds τ} {n f x mn : Str} {names : List Str} {S ρ : Type} {F : S → List SL} {eo : ρ → O} {m : M (ρ × S)}
theorem VY.congr {m' : M (ρ × S)} (h : VY X Γ Γx F e eo m) (q : m = m') : VY X Γ Γx F e eo m' := q ▸ h
/-- e for its effect -/
theorem vs_exprY {k : S → M τ} (h : VY X Γ Γx F e eo m) (hk : ∀ s, VS X (F s) Γx rest E (k s)) (hsw : swapsWith e none pos.line X.env = pure false := by rfl) : VS X Γ Γx (.Expr e pos :: rest) E (m >>= fun r => k r.2) := fun W tk I0 H0 σ I H T mt D o => by
  refine seq_s (to_s1 (ps_expr pe_of hsw) ?_)
  show tOf X e σ H _
  refine h W tk I0 H0 σ I H T mt _ (o.bind.mono (fun r _ o1 v I' H' T2 T' wd sl q => ?_) fun _ _ z => z)
  exact rest_s (hk r.2) tk ⟨wd.subl (List.sublist_append_right _ _), sl⟩ o1
/-- x = e -/
theorem vs_setY (i : Nat) {k : ρ → S → M τ} (hN : X.N.Nodup) (h : VY X Γ Γx F e eo m) (hk : ∀ r s, VS X ((F s).set i (.val (eo r))) Γx rest E (k r s)) (hi : X.N[i]? = some x := by rfl) (hl : ∀ s, Nat.blt i (F s).length = true := by exact fun _ => rfl) (hx : Loc X.env.scope x := by first | exact .inl rfl | exact .inr rfl)
    (hsw : swapsWith e (some (.Name x p)) pos.line X.env = pure false := by rfl) (hf : X.fn x = true ∨ X.env.scope.names.lookup x = some .local := by first | exact .inl rfl | exact .inr rfl) : VS X Γ Γx (.Assign [.Name x p] e pos :: rest) E (m >>= fun r => k r.1 r.2) := fun W tk I0 H0 σ I H T mt D o => by
  refine seq_s (to_s1 (ps_set hN hi hx pe_of hsw hf) ?_)
  show tOf X e σ H _
  refine h W tk I0 H0 σ I H T mt _ (o.bind.mono (fun r _ o1 v I' H' T2 T' wd sl q => ?_) fun _ _ z => z)
  obtain ⟨T3, s', c', d'⟩ := sl.put (Nat.blt_eq.mp (hl r.2)) q
  exact rest_s (hk r.1 r.2) tk ⟨⟨wd.ih, wd.i0, wd.h0, fun p hp => wd.fr p (List.mem_append.mpr (c' p hp)), d' wd.nd, wd.sep⟩, s'⟩ o1
/-- return e -/
theorem vs_retY {f : ρ → S → τ} (h : VY X Γ Γx F e eo m) (hr : ∀ r s, E.rt (F s) (eo r) (f r s)) : VS X Γ Γx (.Return (some e) pos :: rest) E (m >>= fun r => .ok (f r.1 r.2)) := fun W tk I0 H0 σ I H T mt D o => by
  refine seq_s (to_s1 (ps_ret pe_of) ?_)
  show tOf X e σ H _
  refine h W tk I0 H0 σ I H T mt _ (o.bind.mono (fun r _ o1 v I' H' T2 T' wd sl q => ?_) fun _ _ z => z)
  exact DO.rt (E := E) o1 (F r.2) σ (eo r.1) v I' H' T2 T' (hr r.1 r.2) wd sl q
end
end Vc

set_option Elab.async false
set_option linter.all false
set_option maxRecDepth 100000
namespace Vc
open PySem PySem.Spec PyProof.Rows L2
open Enc (enc)
/-! ### methods and makings whose errors may depend on the state -/
section
variable {X : Cx} {CX : CXT} {k : Nat} {f C : Addr} {fd : FuncData} {ps : List Str} {sp : Sp} {EE : L2.St → XK} {x mn : Str} {p pos apos : Pos} {e ob : Expr} {es : List Expr} {ta : TE} {t : TA}
def tMethE (C : Addr) (mn : Str) (sp : Sp) (EE : L2.St → XK) (ta : TE) (t : TA) : TE := fun σ H Q => ta σ H fun z H1 => ∃ a dx fs, z = .ref a ∧ H1 a = some (.ins C dx fs) ∧ fs.lookup mn = none ∧ t σ H1 fun vs H2 => sp (z :: vs) H2 Q (EE σ)
theorem pe_methE {pl : Sem Bool} (ho : PE X ob ta) (hc : Cls X.K C) (hM : Meth X.K C mn f) (F : FnOk X.prog X.w X.K X.mg X.base CX k f fd ps sp) (room : Room k X.A) (bd : Binds X.K fd ps []) (hx : ∀ σ, PassesAt CX X σ (EE σ)) (hargs : PA X (e :: es) t)
    (hst : starEach (e :: es) X.env = (false, eval e X.env) :: starEach es X.env := by rfl) (hplain : (backTo pos (starEach es X.env)).any (·.1) = false := by rfl)
    (hcall : eval (.Call (.Attribute ob mn apos) (e :: es) [] pos) X.env = (do
      let v ← eval ob X.env
      standAt apos.atName
      let (g, fst) ← holding [v] (getMethod v mn pl)
      callWith pos g fst (backTo pos (starEach (e :: es) X.env)) (backToKw pos (keywordEach [] X.env))) := by rfl) :
    PE X (.Call (.Attribute ob mn apos) (e :: es) [] pos) (tMethE C mn sp EE ta t) := by
  refine ⟨fun pn st0 σ H Q Iv h => ?_⟩
  refine PySem.W.methodCall_KW (pl := pl) (thn (ho.run pn st0 σ H _ Iv h) fun uu s1 ⟨z, H1, I1, rz, a, dx, fs, ez, ea, lk, q⟩ => ?_) hcall
  subst ez
  obtain rfl : uu = Value.ref a := rz
  refine getmeth_ok I1 ea hc hM lk ?_
  refine PySem.W.callWith_K (first := [.ref a]) (h₀ := X.base) I1.ok.mod.kin hM.kp (thn (hargs.run pos pn s1 σ H1 _ I1 q) fun us s2 ⟨vs, H2, I2, rv, q2⟩ => ⟨I2.kIn, ?_⟩) hst hplain
  exact run_fnS (us := .ref a :: us) (vs := .ref a :: vs) F room bd (hx σ) I2 (.cons rfl rv) q2
theorem pe_methE0 {pl : Sem Bool} (ho : PE X ob ta) (hc : Cls X.K C) (hM : Meth X.K C mn f) (F : FnOk X.prog X.w X.K X.mg X.base CX k f fd ps sp) (room : Room k X.A) (bd : Binds X.K fd ps []) (hx : ∀ σ, PassesAt CX X σ (EE σ))
    (hcall : eval (.Call (.Attribute ob mn apos) [] [] pos) X.env = (do
      let v ← eval ob X.env
      standAt apos.atName
      let (g, fst) ← holding [v] (getMethod v mn pl)
      callWith pos g fst (backTo pos (starEach [] X.env)) (backToKw pos (keywordEach [] X.env))) := by rfl) :
    PE X (.Call (.Attribute ob mn apos) [] [] pos) (tMethE C mn sp EE ta tNil) := by
  refine ⟨fun pn st0 σ H Q Iv h => ?_⟩
  refine PySem.W.methodCall_KW (pl := pl) (thn (ho.run pn st0 σ H _ Iv h) fun uu s1 ⟨z, H1, I1, rz, a, dx, fs, ez, ea, lk, q⟩ => ?_) hcall
  subst ez
  obtain rfl : uu = Value.ref a := rz
  refine getmeth_ok I1 ea hc hM lk ?_
  exact PySem.W.callWith_K0 (first := [.ref a]) I1.kIn hM.kp (run_fnS (us := [.ref a]) (vs := [.ref a]) F room bd (hx σ) I1 (.cons rfl .nil) q)
theorem run_makeE {pn : List (Addr × Obj)} {σ : L2.St} {H : Hp} {s : Shared} {Q : L2.VK} {us : List Value} {vs : List V} {E : XK} (hM : Mk X.K C f) (F : FnOk X.prog X.w X.K X.mg X.base CX k f fd ps sp) (room : Room (k + 1) X.A) (bd : Binds X.K fd ps [])
    (hx : PassesAt CX X σ E) (Iv : Inv X pn σ H s) (rv : Vals vs us)
    (h : ∀ z dz, H z = none → H dz = none → dz ≠ z → sp (.ref z :: vs) (upd (upd H dz (.own z)) z (.ins C dz [])) (fun v H2 => v = .non ∧ Q (.ref z) H2) E) :
    wpAny (model X.prog X.w) X.A (call (.ref C) us) (EP X pn σ Q) X.xe s := by
  have hq := h (s.heap.objs.size + 1) s.heap.objs.size (Iv.hok.fresh (Nat.le_succ _)) (Iv.hok.fresh (Nat.le_refl _)) (Nat.ne_of_lt (Nat.lt_succ_self _))
  have Iv2 := Inv.made (C := C) Iv
  have rv2 : Vals (V.ref (s.heap.objs.size + 1) :: vs) (Value.ref (s.heap.objs.size + 1) :: us) := .cons rfl rv
  have hlen : (Value.ref (s.heap.objs.size + 1) :: us).length = ps.length := by
    have z := rv2.length
    rw [F.len _ _ _ _ hq] at z
    exact z.symm
  have bd2 := bd _ (Value.ref (s.heap.objs.size + 1) :: us) Iv2.kIn (by rw [List.append_nil]; exact hlen)
  rw [List.append_nil] at bd2
  refine wpAny_call (make_map (f := f) Iv.kIn hM.makes hM.init (beq_iff_eq.mp hM.fn) (codeAny_mono (F.run _ X.stack _ _ ⟨Value.ref (s.heap.objs.size + 1) :: us, []⟩ (Value.ref (s.heap.objs.size + 1) :: us) _ _ E (room.make C us [])
    (Iv2.env0.make C us []) bd2 rv2 hq) fun r s' hq' => ?_))
  cases r with
  | error er => exact hx pn _ _ er s' Iv2 hq'
  | ok fl =>
    cases fl with
    | ret u =>
      obtain ⟨v, H', Iv3, ru, ev, q3⟩ := Iv2.after hq'
      subst ev
      exact ⟨ru, ⟨V.ref (s.heap.objs.size + 1), H', Iv3, rfl, q3⟩⟩
    | next => exact hq'.elim
    | brk => exact hq'.elim
    | cont => exact hq'.elim
def tMakeE (C : Addr) (sp : Sp) (EE : L2.St → XK) (t : TA) : TE := fun σ H Q => t σ H fun vs H1 => ∀ z dz, H1 z = none → H1 dz = none → dz ≠ z → sp (.ref z :: vs) (upd (upd H1 dz (.own z)) z (.ins C dz [])) (fun v H2 => v = .non ∧ Q (.ref z) H2) (EE σ)
theorem pe_makeE (hM : Mk X.K C f) (F : FnOk X.prog X.w X.K X.mg X.base CX k f fd ps sp) (room : Room (k + 1) X.A) (hg : Gl X x) (hm : X.mg x = some (.ref C)) (bd : Binds X.K fd ps []) (hx : ∀ σ, PassesAt CX X σ (EE σ))
    (hargs : PA X (e :: es) t) (hdb : (x == ("__debug__" : Str)) = false := by decide) (hst : starEach (e :: es) X.env = (false, eval e X.env) :: starEach es X.env := by rfl) (hplain : (backTo pos (starEach es X.env)).any (·.1) = false := by rfl) :
    PE X (.Call (.Name x p) (e :: es) [] pos) (tMakeE C sp EE t) := by
  refine ⟨fun pn st0 σ H Q Iv h => ?_⟩
  refine wpAny_Call_Name_kw (ld_glob Iv hg hm ?_ hdb)
  refine PySem.W.callWith_K (h₀ := X.base) Iv.ok.mod.kin hM.kp (thn (hargs.run pos pn st0 σ H _ Iv h) fun us s1 ⟨vs, H1, I1, rv, q⟩ => ⟨I1.kIn, ?_⟩) hst hplain
  exact run_makeE hM F room bd (hx σ) I1 rv q
theorem pe_makeE0 (hM : Mk X.K C f) (F : FnOk X.prog X.w X.K X.mg X.base CX k f fd ps sp) (room : Room (k + 1) X.A) (hg : Gl X x) (hm : X.mg x = some (.ref C)) (bd : Binds X.K fd ps []) (hx : ∀ σ, PassesAt CX X σ (EE σ))
    (hdb : (x == ("__debug__" : Str)) = false := by decide) : PE X (.Call (.Name x p) [] [] pos) (tMakeE C sp EE tNil) := by
  refine ⟨fun pn st0 σ H Q Iv h => ?_⟩
  refine wpAny_Call_Name_kw (ld_glob Iv hg hm ?_ hdb)
  exact PySem.W.callWith_K0 Iv.kIn hM.kp (run_makeE (us := []) hM F room bd (hx σ) Iv .nil h)
end
/-! ### the rules -/
/-- the class n: its method mn is the def at f -/
structure MethT (K : PySem.W.Frag) (mg : Str → Option Value) (n mn : Str) (f : Addr) : Prop where
  ex : ∃ C, mg n = some (.ref C) ∧ Cls K C ∧ Meth K C mn f
/-- the class n is made by the def at f -/
structure MakeT (K : PySem.W.Frag) (mg : Str → Option Value) (n : Str) (f : Addr) : Prop where
  ex : ∃ C, mg n = some (.ref C) ∧ Mk K C f
/-- the ways out of a call that changes what stands at a place -/
theorem VY.call {X : Cx} {Γ Γx : List SL} {W : WX} {I0 H0 : Hp} {σ : L2.St} {I H I1 H1 : Hp} {T : List Addr} {i : Nat} {π : List Pt} {oo : O} {A ρ S S' : Type} {ea : A → List D} {eo : ρ → O} {os0 : S → O} {os1 : S' → O} {m : S → A → M (ρ × S')} {s : S} {a : A} {vs : List V} {Q : L2.VK}
    (mt : Mt X.K X.mg I0 H0 Γ σ I H T) (hΓ : Γ[i]? = some (.val oo)) (hg : getO π oo = some (os0 s)) (g1 : Gr I H I1 H1) (rv : Rs X.K X.mg I1 vs (ea a)) (hsx : Sub (Γ.set i .any) Γx) :
    ∃ v u, σ[i]? = some (some v) ∧ subV H π v u ∧ subV H1 π v u ∧ (Out (m s a) (fun r => ∀ v I' H' T2 T', Wd I0 H0 I' H' (T2 ++ T') → Sls X.K X.mg I' H' σ (Γ.set i (.val (putO π oo (os1 r.2)))) T' → Ow X.K X.mg I' H' v (eo r.1) T2 → Q v H') (XS X W I0 H0 Γx) →
      spM X.K X.mg ea eo os0 os1 m (u :: vs) H1 Q (WE W σ)) := by
  obtain ⟨v, A1, TA, B1, h1, h2, h3, h4, h5⟩ := mt.sl.at hΓ
  obtain ⟨u, A2, T1, B2, g1', g2, g3, g4⟩ := h3.at hg
  have hT : T = (A1 ++ A2) ++ (T1 ++ (B2 ++ B1)) := by rw [h2, g2]; simp
  have nd := mt.wd.nd
  rw [hT] at nd
  have there : ∀ p ∈ T, ∃ x, H p = some x := fun p hp => mt.sl.there p hp
  have keep : ∀ p ∈ T, H1 p = H p := fun p hp => by
    obtain ⟨x, e⟩ := there p hp
    rw [e]; exact g1.h0 p _ e
  have mA1 : ∀ p ∈ A1, p ∈ T := fun p hp => by rw [hT]; simp [hp]
  have mA2 : ∀ p ∈ A2, p ∈ T := fun p hp => by rw [hT]; simp [hp]
  have mB1 : ∀ p ∈ B1, p ∈ T := fun p hp => by rw [hT]; simp [hp]
  have mB2 : ∀ p ∈ B2, p ∈ T := fun p hp => by rw [hT]; simp [hp]
  have mT1 : ∀ p ∈ T1, p ∈ T := fun p hp => by rw [hT]; simp [hp]
  have out : ∀ p, p ∈ A1 ∨ p ∈ A2 ∨ p ∈ B2 ∨ p ∈ B1 → p ∉ T1 := fun p hp z => by
    obtain ⟨_, n2, n3⟩ := List.nodup_append.mp nd
    obtain ⟨_, _, n5⟩ := List.nodup_append.mp n2
    rcases hp with hp | hp | hp | hp
    · exact n3 p (List.mem_append_left _ hp) p (List.mem_append_left _ z) rfl
    · exact n3 p (List.mem_append_right _ hp) p (List.mem_append_left _ z) rfl
    · exact n5 p z p (List.mem_append_left _ hp) rfl
    · exact n5 p z p (List.mem_append_right _ hp) rfl
  have free1 : ∀ p ∈ T, I1 p = none := fun p hp => g1.sep p (by obtain ⟨x, e⟩ := there p hp; rw [e]; simp) (mt.wd.fr p hp).1
  have ow1 : Ow X.K X.mg I1 H1 u (os0 s) T1 := g3.mono g1.i0 fun p hp => keep p (mT1 p hp)
  have nT1 : T1.Nodup := (List.nodup_append.mp (List.nodup_append.mp nd).2.1).1
  have sub1 : subV H1 π v u := (g4 I1 H1 (os0 s) T1 g1.i0 (fun p hp => keep p (mA2 p hp)) (fun p hp => keep p (mB2 p hp)) ow1).2
  -- the rest of the slots in a later heap
  have keepC : ∀ {I' H' : Hp} {Tn : List Addr}, Wd I1 (cutH H1 T1) I' H' Tn → ∀ p ∈ T, p ∉ T1 → H' p = H p := fun w p hp hn => by
    obtain ⟨x, e⟩ := there p hp
    rw [e]
    exact w.h0 p x (by rw [cutH_out hn, keep p hp, e])
  have h0' : ∀ {I' H' : Hp} {Tn : List Addr}, Wd I1 (cutH H1 T1) I' H' Tn → Same H0 H' := fun w p ob e => by
    have hp : p ∉ T1 := fun z => by rw [(mt.wd.fr p (mT1 p z)).2] at e; cases e
    exact w.h0 p ob (by rw [cutH_out hp]; exact g1.h0 p ob (mt.wd.h0 p ob e))
  have sep' : ∀ {I' H' : Hp} {Tn : List Addr}, Wd I1 (cutH H1 T1) I' H' Tn → ∀ p, H0 p ≠ none → I0 p = none → I' p = none := fun w p hp hi => by
    have hp1 : p ∉ T1 := fun z => hp (mt.wd.fr p (mT1 p z)).2
    have q0 : H p ≠ none := by
      cases q : H0 p with
      | none => exact absurd q hp
      | some ob => rw [mt.wd.h0 p ob q]; simp
    have q1 := g1.sep p q0 (mt.wd.sep p hp hi)
    refine w.sep p ?_ q1
    rw [cutH_out hp1]
    cases q : H p with
    | none => exact absurd q q0
    | some ob => rw [g1.h0 p ob q]; simp
  refine ⟨v, u, h1, g1', sub1, fun o => ⟨I1, s, a, u, vs, T1, rfl, g1.ih, fun p hp => free1 p (mT1 p hp), nT1, ow1, rv, o.mono (fun r _ k v2 I' H' T2 T' w q q2 => ?_) fun ex _ k cl d I' H' w at' => ?_⟩⟩
  · have fresh : ∀ p ∈ T2 ++ T', p ∈ T1 ∨ (H p = none ∧ H1 p = none) := fun p hp => by
      by_cases z : p ∈ T1
      · exact .inl z
      · have := (w.fr p hp).2
        rw [cutH_out z] at this
        refine .inr ⟨?_, this⟩
        cases q : H p with
        | none => rfl
        | some ob => rw [g1.h0 p ob q] at this; cases this
    have nT : ∀ p ∈ T2 ++ T', p ∉ (A1 ++ A2) ++ (B2 ++ B1) := fun p hp z => by
      have hz : p ∈ A1 ∨ p ∈ A2 ∨ p ∈ B2 ∨ p ∈ B1 := by simp only [List.mem_append] at z; rcases z with (z | z) | z | z <;> simp [z]
      have inT : p ∈ T := by exact hz.elim (mA1 p) fun hz => hz.elim (mA2 p) fun hz => hz.elim (mB2 p) (mB1 p)
      rcases fresh p hp with q | q
      · exact out p hz q
      · obtain ⟨x, e⟩ := there p inT
        rw [q.1] at e; cases e
    have i01 : Same I I' := g1.i0.trans w.i0
    have q1 := (g4 I' H' (os1 r.2) T' i01 (fun p hp => keepC w p (mA2 p hp) (out p (.inr (.inl hp)))) (fun p hp => keepC w p (mB2 p hp) (out p (.inr (.inr (.inl hp))))) q).1
    have q3 := h4 I' H' v (putO π oo (os1 r.2)) _ i01 (fun p hp => keepC w p (mA1 p hp) (out p (.inl hp))) (fun p hp => keepC w p (mB1 p hp) (out p (.inr (.inr (.inr hp))))) q1
    rw [set_self h1] at q3
    refine k v2 I' H' T2 _ ⟨w.ih, mt.wd.i0.trans i01, h0' w, fun p hp => ?_, ?_, sep' w⟩ q3 q2
    · have hp' : p ∈ T2 ++ T' ∨ p ∈ T := by
        simp only [List.mem_append] at hp ⊢
        rcases hp with hp | hp | (hp | hp | hp) | hp
        · exact .inl (.inl hp)
        · exact .inr (mA1 p hp)
        · exact .inr (mA2 p hp)
        · exact .inl (.inr hp)
        · exact .inr (mB2 p hp)
        · exact .inr (mB1 p hp)
      rcases hp' with z | z
      · refine ⟨(w.fr p z).1, ?_⟩
        rcases fresh p z with q | q
        · exact (mt.wd.fr p (mT1 p q)).2
        · cases qq : H0 p with
          | none => rfl
          | some ob => have := mt.wd.h0 p ob qq; rw [q.1] at this; cases this
      · refine ⟨?_, (mt.wd.fr p z).2⟩
        by_cases zz : p ∈ T1
        · by_cases z2 : p ∈ T2 ++ T'
          · exact (w.fr p z2).1
          · -- an address that was owned, and is so no more: nothing immutable stands there
            have := hp
            exfalso
            simp only [List.mem_append] at hp z2
            rcases hp with hp | hp | (hp | hp | hp) | hp
            · exact z2 (.inl hp)
            · exact out p (.inl hp) zz
            · exact out p (.inr (.inl hp)) zz
            · exact z2 (.inr hp)
            · exact out p (.inr (.inr (.inl hp))) zz
            · exact out p (.inr (.inr (.inr hp))) zz
        · exact w.sep p (by rw [cutH_out zz, keep p z]; obtain ⟨x, e⟩ := there p z; rw [e]; simp) (free1 p z)
    · obtain ⟨n1, n2, n3⟩ := List.nodup_append.mp w.nd
      have e' : A1 ++ (A2 ++ (T' ++ B2) ++ B1) = (A1 ++ A2) ++ (T' ++ (B2 ++ B1)) := by simp
      rw [e']
      refine List.nodup_append.mpr ⟨n1, nodup_swap nd n2 fun y hy => ?_, fun x hx y hy e => ?_⟩
      · by_cases z : y ∈ T1
        · exact .inl z
        · refine .inr fun zz => nT y (List.mem_append_right _ hy) ?_
          simp only [List.mem_append] at zz ⊢
          rcases zz with zz | zz | zz
          · exact .inl zz
          · exact absurd zz z
          · exact .inr zz
      · subst e
        simp only [List.mem_append] at hy
        rcases hy with hy | hy | hy
        · exact nT x (List.mem_append_left _ hx) (List.mem_append_left _ (List.mem_append.mpr hy))
        · exact n3 x hx x hy rfl
        · exact nT x (List.mem_append_left _ hx) (List.mem_append_right _ (List.mem_append.mpr hy))
  · have kA : ∀ p ∈ A1, H' p = H p := fun p hp => keepC w p (mA1 p hp) (out p (.inl hp))
    have kB : ∀ p ∈ B1, H' p = H p := fun p hp => keepC w p (mB1 p hp) (out p (.inr (.inr (.inr hp))))
    have s5 := h5 I' H' (g1.i0.trans w.i0) kA kB
    have mtx : Mt X.K X.mg I0 H0 (Γ.set i .any) σ I' H' (A1 ++ B1) := ⟨⟨w.ih, mt.wd.i0.trans (g1.i0.trans w.i0), h0' w, fun p hp => ?_, ?_, sep' w⟩, s5⟩
    · obtain ⟨T3, mt3⟩ := mtx.sub hsx
      exact k cl d σ I' H' T3 mt3 at'
    · have hz : p ∈ A1 ∨ p ∈ A2 ∨ p ∈ B2 ∨ p ∈ B1 := (List.mem_append.mp hp).elim .inl fun z => .inr (.inr (.inr z))
      have inT : p ∈ T := (List.mem_append.mp hp).elim (mA1 p) (mB1 p)
      refine ⟨w.sep p ?_ (free1 p inT), (mt.wd.fr p inT).2⟩
      rw [cutH_out (out p hz), keep p inT]
      obtain ⟨x, e⟩ := there p inT
      rw [e]; simp
    · obtain ⟨n1, n2, n3⟩ := List.nodup_append.mp nd
      obtain ⟨_, n5, _⟩ := List.nodup_append.mp n2
      refine List.nodup_append.mpr ⟨(List.nodup_append.mp n1).1, (List.nodup_append.mp n5).2.1, fun a ha b hb => n3 a (List.mem_append_left _ ha) b (List.mem_append_right _ (List.mem_append_right _ hb))⟩
end Vc

set_option Elab.async false
set_option linter.all false
set_option maxRecDepth 100000
namespace Vc
open PySem PySem.Spec PyProof.Rows L2
open Enc (enc)
section
variable {X : Cx} {Γ Γx : List SL} {e ob : Expr} {es : List Expr} {rest : List Stmt} {pos p apos : Pos} {α β γ : Type} [Enc α] [Enc β] [Enc γ] {w : Bool} {τ : Type} {E : Eds τ} {n x mn : Str} {k : Nat} {f : Addr} {fd : FuncData} {ps : List Str}
  {A ρ S S' : Type} {ea : A → List D} {eo : ρ → O} {os0 : S → O} {os1 : S' → O} {m : S → A → M (ρ × S')} {ma : M A} {i : Nat} {π : List Pt} {oo : O} {s : S} {fs : List (Str × O)}
theorem Sub.trans : ∀ {a b c : List SL}, Sub a b → Sub b c → Sub a c
  | _, _, _, .nil, .nil => .nil
  | _, _, _, .any h, .any h' => .any (Sub.trans h h')
  | _, _, _, .any h, .eq h' => .any (Sub.trans h h')
  | _, _, _, .eq h, .any h' => .any (Sub.trans h h')
  | _, _, _, .eq h, .eq h' => .eq (Sub.trans h h')
/-- ob.mn(e, ..): the object at the place is changed -/
theorem vy_meth (MT : MethT X.K X.mg n mn f) (F : FnOk X.prog X.w X.K X.mg X.base (L2N.CX X.prog X.w) k f fd ps (spM X.K X.mg ea eo os0 os1 m)) (room : Room k X.A) (bd : Binds X.K fd ps []) (h : VQ X Γ i π ob) (hΓ : Γ[i]? = some (.val oo)) (hg : getO π oo = some (os0 s)) (hi : os0 s = .ins n fs) (hn : ixN mn (fs.map Prod.fst) = none)
    (args : VA false X Γ (e :: es) ea ma) (hs : Sub Γ Γx) (hsx : Sub (Γ.set i .any) Γx) {pl : Sem Bool}
    (hst : starEach (e :: es) X.env = (false, eval e X.env) :: starEach es X.env := by rfl) (hplain : (backTo pos (starEach es X.env)).any (·.1) = false := by rfl)
    (hcall : eval (.Call (.Attribute ob mn apos) (e :: es) [] pos) X.env = (do
      let v ← eval ob X.env
      standAt apos.atName
      let (g, fst) ← holding [v] (getMethod v mn pl)
      callWith pos g fst (backTo pos (starEach (e :: es) X.env)) (backToKw pos (keywordEach [] X.env))) := by rfl) :
    VY X Γ Γx (fun s' => Γ.set i (.val (putO π oo (os1 s')))) (.Call (.Attribute ob mn apos) (e :: es) [] pos) eo (ma >>= fun a => m s a) := fun W tk I0 H0 σ I H T mt Q o => by
  obtain ⟨C, hC, hcls, hM⟩ := MT.ex
  refine to_t (pe_methE (pl := pl) pe_of hcls hM F room bd (fun σ => L2N.passAt tk σ) pa_of hst hplain hcall) ?_
  obtain ⟨v0, u0, T1, hv0, hs0, ow0⟩ := mw_at mt.mw hΓ hg
  rw [hi] at ow0
  obtain ⟨q, C2, dx, vs, T2, rfl, _, hC2, hH, rf⟩ := ow0.ins_inv
  rw [hC] at hC2; cases hC2
  refine h σ I H T mt.mw v0 _ hv0 hs0 _ ⟨q, dx, vs, rfl, hH, ixN'_none hn vs rf.names, ?_⟩
  refine args.ap tk mt.mw o.bind (fun a _ o1 vs I1 H1 g1 r1 => ?_) fun _ z => z.xo mt hs
  obtain ⟨v, u, hv, hs1, _, go⟩ := VY.call (W := W) (Q := Q) (m := m) (s := s) (eo := eo) (os1 := os1) mt hΓ hg g1 r1 hsx
  rw [hv0] at hv; cases hv
  obtain rfl := subV_fun hs0 hs1
  exact go o1
theorem vy_meth0 {m : S → Unit → M (ρ × S')} (MT : MethT X.K X.mg n mn f) (F : FnOk X.prog X.w X.K X.mg X.base (L2N.CX X.prog X.w) k f fd ps (spM X.K X.mg eNil eo os0 os1 m)) (room : Room k X.A) (bd : Binds X.K fd ps []) (h : VQ X Γ i π ob) (hΓ : Γ[i]? = some (.val oo)) (hg : getO π oo = some (os0 s)) (hi : os0 s = .ins n fs) (hn : ixN mn (fs.map Prod.fst) = none)
    (hs : Sub Γ Γx) (hsx : Sub (Γ.set i .any) Γx) {pl : Sem Bool}
    (hcall : eval (.Call (.Attribute ob mn apos) [] [] pos) X.env = (do
      let v ← eval ob X.env
      standAt apos.atName
      let (g, fst) ← holding [v] (getMethod v mn pl)
      callWith pos g fst (backTo pos (starEach [] X.env)) (backToKw pos (keywordEach [] X.env))) := by rfl) :
    VY X Γ Γx (fun s' => Γ.set i (.val (putO π oo (os1 s')))) (.Call (.Attribute ob mn apos) [] [] pos) eo (m s ()) := fun W tk I0 H0 σ I H T mt Q o => by
  obtain ⟨C, hC, hcls, hM⟩ := MT.ex
  refine to_t (pe_methE0 (pl := pl) pe_of hcls hM F room bd (fun σ => L2N.passAt tk σ) hcall) ?_
  obtain ⟨v0, u0, T1, hv0, hs0, ow0⟩ := mw_at mt.mw hΓ hg
  rw [hi] at ow0
  obtain ⟨q, C2, dx, vs, T2, rfl, _, hC2, hH, rf⟩ := ow0.ins_inv
  rw [hC] at hC2; cases hC2
  refine h σ I H T mt.mw v0 _ hv0 hs0 _ ⟨q, dx, vs, rfl, hH, ixN'_none hn vs rf.names, ?_⟩
  obtain ⟨v, u, hv, hs1, _, go⟩ := VY.call (W := W) (Q := Q) (m := m) (s := s) (a := ()) (eo := eo) (os1 := os1) (ea := eNil) (vs := []) mt hΓ hg (Gr.refl mt.wd.ih) .nil hsx
  rw [hv0] at hv; cases hv
  obtain rfl := subV_fun hs0 hs1
  exact go o
/-- f(ob, e, ..): what stands at the place ob is changed -/
theorem vy_call (F : FnOk X.prog X.w X.K X.mg X.base (L2N.CX X.prog X.w) k f fd ps (spM X.K X.mg ea eo os0 os1 m)) (room : Room k X.A) (hm : X.mg x = some (.ref f)) (hkp : PySem.W.keepIn X.K (.ref f) = true) (bd : Binds X.K fd ps []) (h : VQ X Γ i π ob) (hΓ : Γ[i]? = some (.val oo)) (hg : getO π oo = some (os0 s))
    (args : VA false X Γ es ea ma) (hs : Sub Γ Γx) (hsx : Sub (Γ.set i .any) Γx) (hgl : Gl X x := by rfl)
    (hdb : (x == ("__debug__" : Str)) = false := by decide) (hst : starEach (ob :: es) X.env = (false, eval ob X.env) :: starEach es X.env := by rfl) (hplain : (backTo pos (starEach es X.env)).any (·.1) = false := by rfl) :
    VY X Γ Γx (fun s' => Γ.set i (.val (putO π oo (os1 s')))) (.Call (.Name x p) (ob :: es) [] pos) eo (ma >>= fun a => m s a) := fun W tk I0 H0 σ I H T mt Q o => by
  refine to_t (pe_callS (E := WE W) F room hgl hm hkp bd (fun σ => L2N.passAt tk σ) (pa_cons pe_of pa_of hst) hdb hst hplain) ?_
  obtain ⟨v0, u0, T1, hv0, hs0, ow0⟩ := mw_at mt.mw hΓ hg
  refine h σ I H T mt.mw v0 _ hv0 hs0 _ ?_
  refine args.ap tk mt.mw o.bind (fun a _ o1 vs I1 H1 g1 r1 => ?_) fun _ z => z.xo mt hs
  obtain ⟨v, u, hv, hs1, _, go⟩ := VY.call (W := W) (Q := Q) (m := m) (s := s) (eo := eo) (os1 := os1) mt hΓ hg g1 r1 hsx
  rw [hv0] at hv; cases hv
  obtain rfl := subV_fun hs0 hs1
  exact go o1
/-- C(e, ..): a new instance, owned -/
theorem make_sp {I H : Hp} {z dz : Addr} {C : Addr} {A S' : Type} {ea : A → List D} {os1 : S' → O} {m : Unit → A → M (Unit × S')} {a : A} {vs : List V} {W : WX} {σ : L2.St} {Q : L2.VK} {I1 H1 : Hp} (g1 : Gr I H I1 H1) (hC : X.mg n = some (.ref C)) (hz : H1 z = none) (hdz : H1 dz = none) (ne : dz ≠ z) (r1 : Rs X.K X.mg I1 vs (ea a))
    (o : Out (m () a) (fun r => ∀ v I' H' T2, Wd I H I' H' T2 → Ow X.K X.mg I' H' v (os1 r.2) T2 → Q v H') (XO X W σ I H)) :
    spM X.K X.mg ea (fun _ : Unit => O.imm .non) (fun _ : Unit => O.ins n []) os1 m (.ref z :: vs) (upd (upd H1 dz (.own z)) z (.ins C dz [])) (fun v H2 => v = .non ∧ Q (.ref z) H2) (WE W σ) := by
  have same1 : Same H1 (upd (upd H1 dz (.own z)) z (.ins C dz [])) := fun p ob e => by
    rw [upd_ne (ne_of_none e hz), upd_ne (ne_of_none e hdz)]; exact e
  have sameC : Same H1 (cutH (upd (upd H1 dz (.own z)) z (.ins C dz [])) [z]) := fun p ob e => by
    rw [cutH_out (by simp; exact ne_of_none e hz)]; exact same1 p ob e
  have grO : ∀ {I' H' : Hp} {T : List Addr}, Wd I1 (cutH (upd (upd H1 dz (.own z)) z (.ins C dz [])) [z]) I' H' T → Wd I H I' H' T := fun w => ⟨w.ih, g1.i0.trans w.i0, (g1.h0.trans sameC).trans w.h0, fun p hp => ⟨(w.fr p hp).1, (g1.h0.trans sameC).free (w.fr p hp).2⟩, w.nd, fun p hp hi => by
    have q1 := g1.sep p hp hi
    refine w.sep p ?_ q1
    cases q : H p with
    | none => exact absurd q hp
    | some ob => rw [(g1.h0.trans sameC) p ob q]; simp⟩
  refine ⟨I1, (), a, .ref z, vs, [z], rfl, g1.ih.trans same1, fun p hp => by rw [List.mem_singleton.mp hp]; exact g1.ih.free hz, List.nodup_cons.mpr ⟨fun z => (nomatch z), List.nodup_nil⟩, .ins hC upd_same .nil, r1, o.mono (fun r _ kk v I' H' T2 T' w q q2 => ?_) fun ex _ kk cl d I' H' w at' => kk cl d I' H' (grO w) at'⟩
  cases q2 with
  | imm r =>
    cases r
    exact ⟨rfl, kk _ I' H' T' ((grO w).subl (List.sublist_append_right _ _)) q⟩
theorem vo_make {S' : Type} {os1 : S' → O} {m : Unit → A → M (Unit × S')} (MK : MakeT X.K X.mg n f) (F : FnOk X.prog X.w X.K X.mg X.base (L2N.CX X.prog X.w) k f fd ps (spM X.K X.mg ea (fun _ : Unit => O.imm .non) (fun _ : Unit => O.ins n []) os1 m)) (room : Room (k + 1) X.A) (bd : Binds X.K fd ps [])
    (args : VA false X Γ (e :: es) ea ma) (hgl : Gl X n := by rfl)
    (hdb : (n == ("__debug__" : Str)) = false := by decide) (hst : starEach (e :: es) X.env = (false, eval e X.env) :: starEach es X.env := by rfl) (hplain : (backTo pos (starEach es X.env)).any (·.1) = false := by rfl) :
    VO X Γ (.Call (.Name n p) (e :: es) [] pos) (fun r : Unit × S' => os1 r.2) (ma >>= fun a => m () a) := fun W tk σ I H T mw Q o => by
  obtain ⟨C, hC, hM⟩ := MK.ex
  refine to_t (pe_makeE hM F room hgl hC bd (fun σ => L2N.passAt tk σ) pa_of hdb hst hplain) ?_
  refine args.ap tk mw o.bind (fun a _ o1 vs I1 H1 g1 r1 => ?_) fun _ z => z
  exact fun z dz hz hdz ne => make_sp g1 hC hz hdz ne r1 o1
theorem vo_make0 {S' : Type} {os1 : S' → O} {m : Unit → Unit → M (Unit × S')} (MK : MakeT X.K X.mg n f) (F : FnOk X.prog X.w X.K X.mg X.base (L2N.CX X.prog X.w) k f fd ps (spM X.K X.mg eNil (fun _ : Unit => O.imm .non) (fun _ : Unit => O.ins n []) os1 m)) (room : Room (k + 1) X.A) (bd : Binds X.K fd ps [])
    (hgl : Gl X n := by rfl) (hdb : (n == ("__debug__" : Str)) = false := by decide) :
    VO X Γ (.Call (.Name n p) [] [] pos) (fun r : Unit × S' => os1 r.2) (m () ()) := fun W tk σ I H T mw Q o => by
  obtain ⟨C, hC, hM⟩ := MK.ex
  refine to_t (pe_makeE0 hM F room hgl hC bd (fun σ => L2N.passAt tk σ) hdb) ?_
  exact fun z dz hz hdz ne => make_sp (Gr.refl mw.ih) hC hz hdz ne .nil o
end
end Vc

set_option Elab.async false
set_option linter.all false
set_option maxRecDepth 100000
namespace Vc
open PySem PySem.Spec PyProof.Rows L2
open Enc (enc)
section
variable {X : Cx} {Γ Γx : List SL} {e ob : Expr} {es : List Expr} {rest : List Stmt} {pos p apos tpos : Pos} {α β γ : Type} [Enc α] [Enc β] [Enc γ] {w : Bool} {τ : Type} {E : Eds τ} {n f x : Str} {names : List Str}
/-! ### truth of lists, tuples, texts, ints -/
theorem vt_truL {m : M (List α)} (h : VX true X Γ e m) (he : ∀ whole, isTrue e X.env whole = (do let v ← whole; standAt e.pos; holding [v] (truthy v)) := by intro _; rfl) : VT X Γ e (m >>= fun l => M.ok (!l.isEmpty)) := fun W tk σ I H T mw Q o => by
  refine to_k (pt_truth pe_of he) (h.ap tk mw o.bind (fun l _ o1 v I1 H1 g1 r1 => ?_) fun _ z => z)
  have r1 : R X.K X.mg H1 v (.lst (l.map enc)) := r1
  cases r1 with
  | lst hq rs =>
    rename_i q xs
    have hl : xs.isEmpty = l.isEmpty := by
      have := rs.length
      rw [List.length_map] at this
      generalize hll : l = ll at this ⊢
      cases xs <;> cases ll <;> simp_all
    exact ⟨!l.isEmpty, .inl ⟨xs, hq, by rw [hl]⟩, o1 I1 H1 g1⟩
theorem vt_truT {m : M (Tup α)} (h : VX true X Γ e m) (he : ∀ whole, isTrue e X.env whole = (do let v ← whole; standAt e.pos; holding [v] (truthy v)) := by intro _; rfl) : VT X Γ e (m >>= fun l => M.ok (!l.l.isEmpty)) := fun W tk σ I H T mw Q o => by
  refine to_k (pt_truth pe_of he) (h.ap tk mw o.bind (fun l _ o1 v I1 H1 g1 r1 => ?_) fun _ z => z)
  have r1 : R X.K X.mg H1 v (.tup (l.l.map enc)) := r1
  cases r1 with
  | tup hq rs =>
    rename_i q xs
    have hq := hq.sq
    have hl : xs.isEmpty = l.l.isEmpty := by
      have := rs.length
      rw [List.length_map] at this
      generalize hll : l.l = ll at this ⊢
      cases xs <;> cases ll <;> simp_all
    exact ⟨!l.l.isEmpty, .inr (.inl ⟨xs, hq, by rw [hl]⟩), o1 I1 H1 g1⟩
theorem vt_truI {m : M Int} (h : VX true X Γ e m) (he : ∀ whole, isTrue e X.env whole = (do let v ← whole; standAt e.pos; holding [v] (truthy v)) := by intro _; rfl) : VT X Γ e (m >>= fun i => M.ok (i != 0)) := fun W tk σ I H T mw Q o => by
  refine to_k (pt_truth pe_of he) (h.ap tk mw o.bind (fun l _ o1 v I1 H1 g1 r1 => ?_) fun _ z => z)
  cases r1
  exact ⟨_, rfl, o1 I1 H1 g1⟩
/-! ### x += a new list -/
theorem vs_extN (i : Nat) {l : List α} {m : M (List α)} {k : List α → M τ} (hN : X.N.Nodup) (he : VO X Γ e ow1 m) (hk : ∀ l', VS X (Γ.set i (sO l')) Γx rest E (k l')) (hs : Sub Γ Γx) (hΓ : Γ[i]? = some (sO l) := by rfl) (hi : X.N[i]? = some x := by rfl) (hx : Loc X.env.scope x := by first | exact .inl rfl | exact .inr rfl) (hf : X.fn x = true ∨ X.env.scope.names.lookup x = some .local := by first | exact .inl rfl | exact .inr rfl) :
    VS X Γ Γx (.AugAssign (.Name x p) .Add e pos :: rest) E (m >>= fun l2 => chk (l.length + l2.length ≤ sizeLine) >>= fun _ => k (l ++ l2)) := fun W tk I0 H0 σ I H T mt D o => by
  obtain ⟨q, xs, h1, h3, rs, up⟩ := own_at mt hΓ
  refine seq_s (to_s1 (ps_aug (ti := rExt2) hN hi hx pe_of iop_ext hf) ⟨.ref q, h1, ?_⟩)
  show tOf X e σ H _
  refine he.ap tk mt.mw o.bind (fun l2 _ o1 y I1 H1 T2 w1 r1 => ?_) fun _ z => z.xo mt hs
  obtain ⟨hz, o2⟩ := o1.chk
  have g1 : Gr I H I1 H1 := w1.subl (List.nil_sublist _)
  obtain ⟨h3', up'⟩ := up I1 H1 g1
  rw [ow1_inv] at r1
  cases r1 with
  | lst hb rr =>
    rename_i b zs Tz
    obtain ⟨rfl, rz⟩ := rr.imm
    refine ⟨q, b, xs, zs, rfl, rfl, h3', hb, by rw [rs.length, rz.length, List.length_map, List.length_map]; exact hz, ?_⟩
    show sOf X rest D (σ.set i (some (V.ref q))) _
    rw [set_self h1]
    exact rest_s (hk _) tk (up' (xs ++ zs) (l ++ l2) (by rw [List.map_append]; exact Rs.append (rs.mono g1.i0) rz)) o2
/-- ob.f += a new list -/
theorem vs_extP {i k : Nat} {π : List Pt} {oo : O} {fs : List (Str × O)} {l : List α} {m : M (List α)} {kk : List α → M τ} (T : ClsT X.K X.mg n names) (hf : f ∈ names) (h : VQ X Γ i π ob) (hΓ : Γ[i]? = some (.val oo)) (hg : getO π oo = some (.ins n fs)) (hx : ixN f (fs.map Prod.fst) = some k)
    (hk0 : fs[k]? = some (f, ow1 l)) (hl : fs.length < 1000) (he : VO X Γ e ow1 m) (hk : ∀ l' : List α, VS X (Γ.set i (.val (putO π oo (.ins n (setF k f (ow1 l') fs))))) Γx rest E (kk l')) (hs : Sub Γ Γx) :
    VS X Γ Γx (.AugAssign (.Attribute ob f tpos) .Add e pos :: rest) E (m >>= fun l2 => chk (l.length + l2.length ≤ sizeLine) >>= fun _ => kk (l ++ l2)) := fun W tk I0 H0 σ I H T' mt D o => by
  obtain ⟨v, u, T1, hv, s, ow1', inT, nd1, up⟩ := mt_put mt hΓ hg
  refine seq_s (to_s1 (ps_fldaug pe_of pe_of (inop iop_ext)) (h σ I H T' mt.mw v u hv s _ ?_))
  obtain ⟨q, C, dx, vs, Tf, rfl, eT, hC, hH, rf⟩ := ow1'.ins_inv
  obtain ⟨C', hC', c, na⟩ := T.ex
  rw [hC] at hC'; cases hC'
  obtain ⟨uo, A, T1o, B, a1, a2, a3, a4⟩ := rf.at hk0
  obtain ⟨u0, hk0', hl0⟩ := ixN_some hx vs rf.names
  rw [a1] at hk0'; cases hk0'
  rw [ow1_inv] at a3
  cases a3 with
  | lst hb rr =>
    rename_i b xs Tz
    obtain ⟨rfl, rs⟩ := rr.imm
    subst eT
    subst a2
    obtain ⟨nq, ndf⟩ := List.nodup_cons.mp nd1
    have hbq : b ≠ q := fun z => nq (by rw [← z]; simp)
    refine ⟨q, C, dx, vs, _, rfl, hH, c, na f hf, hl0, ?_⟩
    refine he.ap tk mt.mw o.bind (fun l2 _ o1 y I1 H1 T2 w1 r1 => ?_) fun _ z => z.xo mt hs
    obtain ⟨hz, o2⟩ := o1.chk
    obtain ⟨s1, ow2, up2⟩ := up I1 H1 T2 w1
    rw [ow1_inv] at r1
    cases r1 with
    | lst hb2 rr2 =>
      rename_i b2 zs Tz2
      obtain ⟨rfl, rz⟩ := rr2.imm
      have hb1 : H1 b = some (.lst xs) := w1.h0 _ _ hb
      have hq1 : H1 q = some (.ins C dx vs) := w1.h0 _ _ hH
      refine ⟨b, b2, xs, zs, rfl, rfl, hb1, hb2, by rw [rs.length, rz.length, List.length_map, List.length_map]; exact hz, dx, vs, by rw [upd_ne (fun z => hbq z.symm)]; exact hq1, by rw [rf.length]; exact hl, ?_⟩
      obtain ⟨q', C', dx', vs', Tf', e1, e2, hC', hH', rf'⟩ := ow2.ins_inv
      cases e1
      rw [hq1] at hH'; cases hH'
      cases e2
      obtain ⟨uo', A', T1o', B', b1', b2', b3', b4'⟩ := rf'.at hk0
      have hput : putF f (V.ref b) vs = vs := by rw [putF_set hx rf'.names, set_self a1]
      rw [a1] at b1'; cases b1'
      rw [ow1_inv] at b3'
      cases b3' with
      | lst hb3 rr3 =>
        obtain ⟨rfl, rs3⟩ := rr3.imm
        have hq2 : ∀ p, p ∉ q :: (A ++ ([b] ++ B)) → upd (upd H1 b (.lst (xs ++ zs))) q (.ins C dx (putF f (V.ref b) vs)) p = H1 p := fun p hp => by
          rw [upd_ne fun z => hp (by rw [z]; exact List.mem_cons_self), upd_ne fun z => hp (by rw [z]; simp)]
        have hAB : ∀ p, p ∈ A' ∨ p ∈ B' → upd (upd H1 b (.lst (xs ++ zs))) q (.ins C dx (putF f (V.ref b) vs)) p = H1 p := fun p hp => by
          have inn : p ∈ A ++ ([b] ++ B) := by
            rw [b2']; rcases hp with z | z <;> simp [z]
          have h1 : p ≠ q := fun z => nq (by rw [← z]; exact inn)
          have h2 : p ≠ b := fun z => by
            subst z
            have nd3 := ndf
            rw [b2'] at nd3
            obtain ⟨_, n2, n3⟩ := List.nodup_append.mp nd3
            rcases hp with z | z
            · exact n3 p z p (by simp) rfl
            · exact (List.nodup_cons.mp n2).1 (by simpa using z)
          rw [upd_ne h1, upd_ne h2]
        have new := b4' I1 (upd (upd H1 b (.lst (xs ++ zs))) q (.ins C dx (putF f (V.ref b) vs))) (V.ref b) (ow1 (l ++ l2)) [b] (.refl _) (fun p hp => hAB p (.inl hp)) (fun p hp => hAB p (.inr hp)) (by
          rw [ow1_inv]
          refine .lst (by rw [upd_ne hbq, upd_same]) (Ows.of_imm ?_)
          rw [List.map_append]
          exact Rs.append (rs.mono w1.i0) rz)
        have new2 : OwF X.K X.mg I1 (upd (upd H1 b (.lst (xs ++ zs))) q (.ins C dx (putF f (V.ref b) vs))) (putF f (V.ref b) vs) (setF k f (ow1 (l ++ l2)) fs) (A' ++ ([b] ++ B')) := by
          rw [set_self a1, hput] at new
          rw [hput]
          exact new
        obtain ⟨T3, mt3⟩ := up2 (upd (upd H1 b (.lst (xs ++ zs))) q (.ins C dx (putF f (V.ref b) vs))) (.ins n (setF k f (ow1 (l ++ l2)) fs)) (q :: (A' ++ ([b] ++ B'))) hq2 (.ins hC upd_same new2) (fun p hp => .inl (by rw [b2']; exact hp)) (by rw [← b2']; exact nd1)
        exact rest_s (hk _) tk mt3 o2
/-! ### a property of an instance -/
structure PropT (K : PySem.W.Frag) (mg : Str → Option Value) (n pn : Str) (g : Addr) : Prop where
  ex : ∃ C p, mg n = some (.ref C) ∧ Cls K C ∧ PropOf K C pn p g
theorem cx_no' {P : Program} {w : World} {ls : List Env} {H : Hp} {s : Shared} {e : Value} {s' : Shared} (h : L2N.CX P w ls H s (fun _ _ _ => False) e s') : False := by
  obtain ⟨_, _, _, _, _, _, _, _, _, _, _, _, z⟩ := h
  exact z
theorem noxp {m : M β} {P : β → Prop} {Ex : Exn → Prop} (o : Out (nox m) P Ex) : Out m P fun _ => False := by
  cases m with
  | ok a => exact o
  | stuck => exact o
  | exc e => exact o.elim
theorem ve_prop {k : Nat} {g : Addr} {fd : FuncData} {ps : List Str} {pn : Str} {m : M α} {mp : α × Unit → M β} (fs : α → List (Str × D)) (PT : PropT X.K X.mg n pn g) (F : FnOk X.prog X.w X.K X.mg X.base (L2N.CX X.prog X.w) k g fd ps (spF X.K X.mg (eCons eNil) (fun r : β => .imm (enc r)) mp)) (room : Room (k + 1) X.A) (bd : Binds X.K fd ps [])
    (h : VX false X Γ e m) (he : ∀ a : α, enc a = .ins n (fs a)) (hb : attributeBase e pn X.env (eval e X.env) = eval e X.env := by rfl) : VX w X Γ (.Attribute e pn pos) (m >>= fun a => nox (mp (a, ()))) := VX.le fun W tk σ I H T mw Q o => by
  obtain ⟨C, pp, hC, hcls, hP⟩ := PT.ex
  refine to_t (pe_prop (E := fun _ _ _ => False) pe_of hcls hP F room bd .nil (fun _ _ _ _ _ _ _ c => (cx_no' c).elim) hb) (h.ap tk mw o.bind (fun a _ o1 v I1 H1 g1 r1 => ?_) fun _ z => z)
  have r1 : R X.K X.mg I1 v (enc a) := r1
  have r2 := r1
  rw [he a] at r2
  obtain ⟨q, C', dx, vs, rfl, hC', hH, _⟩ := r2.ins_inv
  rw [hC] at hC'; cases hC'
  refine ⟨q, dx, vs, rfl, g1.ih _ _ hH, I1, (a, ()), g1.ih, .cons r1 .nil, ?_⟩
  refine (noxp o1).mono (fun b _ kk v2 I2 H2 T2 w2 q2 => ?_) fun _ _ z => z.elim
  cases q2 with
  | imm r => exact kk v2 I2 H2 (g1.trans w2) r
/-- .. borrowed: a plain answer -/
theorem ve_propB [Atm β] {k : Nat} {g : Addr} {fd : FuncData} {ps : List Str} {pn : Str} {m : M α} {mp : α × Unit → M β} (fs : α → List (Str × D)) (PT : PropT X.K X.mg n pn g) (F : FnOk X.prog X.w X.K X.mg X.base (L2N.CX X.prog X.w) k g fd ps (spF X.K X.mg (eCons eNil) (fun r : β => .imm (enc r)) mp)) (room : Room (k + 1) X.A) (bd : Binds X.K fd ps [])
    (h : VX true X Γ e m) (he : ∀ a : α, enc a = .ins n (fs a)) (hb : attributeBase e pn X.env (eval e X.env) = eval e X.env := by rfl) : VX w X Γ (.Attribute e pn pos) (m >>= fun a => nox (mp (a, ()))) := VX.le fun W tk σ I H T mw Q o => by
  obtain ⟨C, pp, hC, hcls, hP⟩ := PT.ex
  refine to_t (pe_prop (E := fun _ _ _ => False) pe_of hcls hP F room bd .nil (fun _ _ _ _ _ _ _ c => (cx_no' c).elim) hb) (h.ap tk mw o.bind (fun a _ o1 v I1 H1 g1 r1 => ?_) fun _ z => z)
  have r1 : R X.K X.mg H1 v (enc a) := r1
  have r2 := r1
  rw [he a] at r2
  obtain ⟨q, C', dx, vs, rfl, hC', hH, _⟩ := r2.ins_inv
  rw [hC] at hC'; cases hC'
  refine ⟨q, dx, vs, rfl, hH, H1, (a, ()), .refl _, .cons r1 .nil, ?_⟩
  refine (noxp o1).mono (fun b _ kk v2 I2 H2 T2 w2 q2 => ?_) fun _ _ z => z.elim
  cases q2 with
  | imm r => exact kk v2 I1 H2 (g1.trans (Gr.keep g1.ih w2)) (r.atom (Atm.atm b))
end
/-! ### what the top has left of a class -/
def clsBody : Stmt → List Stmt
  | .ClassDef _ _ _ b _ _ _ _ _ _ _ => b
  | _ => []
/-- a method, a making def, a getter -/
structure MetAt (K : PySem.W.Frag) (mg : Str → Option Value) (n mn qual : Str) (st : Stmt) (f : Addr) (fd : FuncData) (ps : List Str) : Prop where
  F : Fun K mn qual st f fd
  b : Binds K fd ps []
  m : MethT K mg n mn f
structure IniAt (K : PySem.W.Frag) (mg : Str → Option Value) (n qual : Str) (st : Stmt) (f : Addr) (fd : FuncData) (ps : List Str) : Prop where
  F : Fun K "__init__" qual st f fd
  b : Binds K fd ps []
  m : MakeT K mg n f
structure PrpAt (K : PySem.W.Frag) (mg : Str → Option Value) (n pn qual : Str) (st : Stmt) (f : Addr) (fd : FuncData) (ps : List Str) : Prop where
  F : Fun K pn qual st f fd
  b : Binds K fd ps []
  m : PropT K mg n pn f
section
variable {K : PySem.W.Frag} {h : Heap} {mg : Str → Option Value} {n mn qual : Str} {st : Stmt} {C f pp : Addr} {oc : Value} {od an : Option Addr} {osl : Array (Option Value)} {kV doc pm cdv ct : Value} {ps : List Str}
theorem met_mk (KX : K.In h) (G : h.Ns mainGlobals mg)
    (hb : ∀ (kV doc pm : Value) (an : Option Addr) (cdv ct : Value) (us : List Value), us.length = ps.length → bindArgs (PySem.W.fnOf mn qual (defArgs st) (defBody st) (defScope st) .none kV doc pm an cdv ct) ⟨us, []⟩ = pure (ps.zip us))
    (aC : PySem.W.nsIn K mainGlobals n = some (some (.ref C))) (pg : PySem.W.plainGet K C Str.empty = true) (hd : PySem.W.hasDictIn K C = true) (po : PySem.W.plainOver K C = true) (sa : PySem.W.findIn K (.ref C) "__setattr__" = some (some (.builtin "object.__setattr__")))
    (a : PySem.W.findIn K (.ref C) mn = some (some (.ref f))) (i : PySem.W.isFn K (.ref f) = true) (l : K.lookup f = some ⟨oc, od, .func (PySem.W.fnOf mn qual (defArgs st) (defBody st) (defScope st) .none kV doc pm an cdv ct), osl⟩) (c : PySem.W.codeIn K cdv qual = true) (k : PySem.W.keepIn K (.ref f) = true) :
    MetAt K mg n mn qual st f (PySem.W.fnOf mn qual (defArgs st) (defBody st) (defScope st) .none kV doc pm an cdv ct) ps :=
  ⟨fun_mk l c k, (fun_mk l c k).binds hb, ⟨C, PySem.W.mg_of KX G aC, ⟨pg, hd, po, sa⟩, ⟨a, i, k⟩⟩⟩
theorem ini_mk (KX : K.In h) (G : h.Ns mainGlobals mg)
    (hb : ∀ (kV doc pm : Value) (an : Option Addr) (cdv ct : Value) (us : List Value), us.length = ps.length → bindArgs (PySem.W.fnOf "__init__" qual (defArgs st) (defBody st) (defScope st) .none kV doc pm an cdv ct) ⟨us, []⟩ = pure (ps.zip us))
    (aC : PySem.W.nsIn K mainGlobals n = some (some (.ref C))) (a : PySem.W.findIn K (.ref C) "__init__" = some (some (.ref f))) (i : PySem.W.isFn K (.ref f) = true) (l : K.lookup f = some ⟨oc, od, .func (PySem.W.fnOf "__init__" qual (defArgs st) (defBody st) (defScope st) .none kV doc pm an cdv ct), osl⟩) (c : PySem.W.codeIn K cdv qual = true) (k : PySem.W.keepIn K (.ref f) = true)
    (mk : PySem.W.makesIn K C = true) (kc : PySem.W.keepIn K (.ref C) = true) :
    IniAt K mg n qual st f (PySem.W.fnOf "__init__" qual (defArgs st) (defBody st) (defScope st) .none kV doc pm an cdv ct) ps :=
  ⟨fun_mk l c k, (fun_mk l c k).binds hb, ⟨C, PySem.W.mg_of KX G aC, ⟨mk, a, i, kc⟩⟩⟩
theorem prp_mk {rr : List Value} (KX : K.In h) (G : h.Ns mainGlobals mg)
    (hb : ∀ (kV doc pm : Value) (an : Option Addr) (cdv ct : Value) (us : List Value), us.length = ps.length → bindArgs (PySem.W.fnOf mn qual (defArgs st) (defBody st) (defScope st) .none kV doc pm an cdv ct) ⟨us, []⟩ = pure (ps.zip us))
    (aC : PySem.W.nsIn K mainGlobals n = some (some (.ref C))) (pg : PySem.W.plainGet K C Str.empty = true) (hd : PySem.W.hasDictIn K C = true) (po : PySem.W.plainOver K C = true) (sa : PySem.W.findIn K (.ref C) "__setattr__" = some (some (.builtin "object.__setattr__")))
    (ap : PySem.W.findIn K (.ref C) mn = some (some (.ref pp))) (g : PySem.W.specialIn K (.ref pp) "__get__" = some (some (.builtin "property.__get__"))) (t : PySem.W.takesIn K (.ref pp) = some true) (r : PySem.W.recIn K pp "property" = some (.ref f :: rr))
    (l : K.lookup f = some ⟨oc, od, .func (PySem.W.fnOf mn qual (defArgs st) (defBody st) (defScope st) .none kV doc pm an cdv ct), osl⟩) (c : PySem.W.codeIn K cdv qual = true) (k : PySem.W.keepIn K (.ref f) = true) :
    PrpAt K mg n mn qual st f (PySem.W.fnOf mn qual (defArgs st) (defBody st) (defScope st) .none kV doc pm an cdv ct) ps :=
  ⟨fun_mk l c k, (fun_mk l c k).binds hb, ⟨C, pp, PySem.W.mg_of KX G aC, ⟨pg, hd, po, sa⟩, ⟨ap, g, t, ⟨rr, r⟩⟩⟩⟩
/-- the class's plain attributes, looked up by one computation -/
def noAttrs (K : PySem.W.Frag) (n : Str) (fs : List Str) : Bool := match PySem.W.nsIn K mainGlobals n with
  | some (some (.ref C)) => fs.all fun f => match PySem.W.findIn K (.ref C) f with | some none => true | _ => false
  | _ => false
theorem cls_mk {fs : List Str} (KX : K.In h) (G : h.Ns mainGlobals mg) (aC : PySem.W.nsIn K mainGlobals n = some (some (.ref C))) (pg : PySem.W.plainGet K C Str.empty = true) (hd : PySem.W.hasDictIn K C = true) (po : PySem.W.plainOver K C = true) (sa : PySem.W.findIn K (.ref C) "__setattr__" = some (some (.builtin "object.__setattr__")))
    (q : noAttrs K n fs = true) : ClsT K mg n fs := by
  refine ⟨C, PySem.W.mg_of KX G aC, ⟨pg, hd, po, sa⟩, fun f hf => ?_⟩
  unfold noAttrs at q
  rw [aC] at q
  have := List.all_eq_true.mp q f hf
  unfold NoAttr
  revert this
  cases PySem.W.findIn K (.ref C) f with
  | none => exact fun z => by cases z
  | some o => cases o with
    | none => exact fun _ => rfl
    | some _ => exact fun z => by cases z
end
end Vc

set_option Elab.async false
set_option linter.all false
set_option maxRecDepth 100000
namespace Vc
open PySem PySem.Spec PyProof.Rows L2
open Enc (enc)
theorem vo_snd {X : Cx} {Γ : List SL} {e : Expr} {S' : Type} {os1 : S' → O} {m : M (Unit × S')} (h : VO X Γ e (fun r : Unit × S' => os1 r.2) m) : VO X Γ e os1 (m >>= fun r => M.ok r.2) := fun W tk σ I H T mw Q o => h W tk σ I H T mw Q (o.bind.mono (fun r _ k => k) fun _ _ z => z)
end Vc

set_option Elab.async false
set_option linter.all false
set_option maxRecDepth 100000
namespace Vc
open PySem PySem.Spec PyProof.Rows L2
open Enc (enc)
section
variable {X : Cx} {Γ Γx : List SL} {e a b c : Expr} {es : List Expr} {rest : List Stmt} {pos p : Pos} {α β γ : Type} [Enc α] [Enc β] [Enc γ] {w w' : Bool} {τ : Type} {E : Eds τ}
theorem R.tup_invR {K : PySem.W.Frag} {mg : Str → Option Value} {H : Hp} {v : V} {ds : List D} (r : R K mg H v (.tup ds)) : ∃ p xs, v = .ref p ∧ SqR K H p xs ∧ Rs K mg H xs ds := by
  cases r with
  | tup h q => exact ⟨_, _, rfl, h, q⟩
def catT {α : Type} (x y : Tup α) : M (Tup α) := chk (x.l.length + y.l.length ≤ sizeLine) >>= fun _ => .ok ⟨x.l ++ y.l⟩
/-- t + u of tuples -/
theorem ve_catT {m1 m2 : M (Tup α)} (ha : VX false X Γ a m1) (hb : VX false X Γ b m2) : VX w X Γ (.BinOp a .Add b pos) (m1 >>= fun x => m2 >>= fun y => catT x y) := VX.le fun W tk σ I H T mw Q o => by
  refine to_t (pe_op op_catA pe_of pe_of) (ha.ap tk mw o.bind (fun l _ o1 v I1 H1 g1 r1 => ?_) fun _ z => z)
  refine hb.ap tk (mw.gr g1) o1.bind (fun l2 _ o2 u I2 H2 g2 r2 => ?_) fun _ z => z.gr g1
  unfold catT at o2
  obtain ⟨hz, o3⟩ := o2.chk
  obtain ⟨p, xs, rfl, hqR, rs⟩ := (r1.mono g2.i0).tup_invR
  obtain ⟨p2, ys, rfl, hqR2, rs2⟩ := R.tup_invR r2
  have hq := hqR.sq
  have hq2 := hqR2.sq
  have hx := rs.length
  have hy := rs2.length
  rw [List.length_map] at hx hy
  have hh : ∀ {q xs}, SqT X.K I2 q xs → SqT X.K H2 q xs := fun h => Same.seqT g2.ih h
  have g := g1.trans g2
  refine ⟨p, p2, xs, ys, rfl, rfl, hh hq, hh hq2, by rw [hx, hy]; exact hz, fun h0 => ?_, fun _ h0 => ?_, fun _ _ q hq' => ?_⟩
  · refine o3 _ I2 H2 g ?_
    have : l.l = [] := List.eq_nil_of_length_eq_zero (by rw [← hx, h0]; rfl)
    rw [this]
    exact .tup hqR2 rs2
  · refine o3 _ I2 H2 g ?_
    have : l2.l = [] := List.eq_nil_of_length_eq_zero (by rw [← hy, h0]; rfl)
    show R _ _ _ _ (.tup (List.map _ (l.l ++ l2.l)))
    rw [this, List.append_nil]
    exact .tup hqR rs
  · refine o3 _ _ _ (g.trans (Gr.new g2.ih hq')) (.tup (.of upd_same) (Rs.mono (Gr.new g2.ih hq').i0 ?_))
    show Rs _ _ _ _ (List.map _ (l.l ++ l2.l))
    rw [List.map_append]
    exact Rs.append rs rs2
/-- t[lo:hi] of a tuple -/
theorem ve_slT {m : M (Tup α)} {lo hi : Option Expr} {ml mh : M (Option Int)} {p2 : Pos} (h : VX false X Γ e m) (hl : VP X Γ lo ml) (hh : VP X Γ hi mh) : VX w X Γ (.Subscript e (.Slice lo hi none p2) pos) (m >>= fun l => ml >>= fun i => mh >>= fun j => M.ok (⟨cutL l.l i j⟩ : Tup α)) := VX.le fun W tk σ I H T mw Q o => by
  refine to_t (pe_slice sl_tupA pe_of po_of po_of) (h.ap tk mw o.bind (fun l _ o1 v I1 H1 g1 r1 => ?_) fun _ z => z)
  refine hl.ap tk (mw.gr g1) o1.bind (fun i _ o2 I2 H2 g2 => ?_) fun _ z => z.gr g1
  refine hh.ap tk ((mw.gr g1).gr g2) o2.bind (fun j _ o3 I3 H3 g3 => ?_) fun _ z => (z.gr g1).gr g2
  obtain ⟨p, xs, rfl, hqR, rs⟩ := ((r1.mono g2.i0).mono g3.i0).tup_invR
  have hq := hqR.sq
  have g := (g1.trans g2).trans g3
  have rc := rs.cut (lo := i) (hi := j)
  refine ⟨p, xs, rfl, Same.seqT g3.ih hq, fun h0 => ?_, fun _ q hq' => ?_⟩
  · refine o3 _ I3 H3 g ?_
    have e0 : cutV xs i j = xs := by
      unfold cutV
      rw [h0.1, h0.2]
      simp
    rw [e0] at rc
    exact .tup hqR rc
  · exact o3 _ _ _ (g.trans (Gr.new g3.ih hq')) (.tup (.of upd_same) (Rs.mono (Gr.new g3.ih hq').i0 rc))
/-- tuple of a tuple: the same -/
theorem ve_tupleT {m : M (Tup α)} (hm : X.mg "tuple" = none) (h : VX false X Γ e m) (hg : Gl X "tuple" := by rfl) (hs : starEach [e] X.env = (false, eval e X.env) :: starEach [] X.env := by rfl) : VX w X Γ (.Call (.Name "tuple" p) [e] [] pos) m := VX.le fun W tk σ I H T mw Q o => by
  refine to_t (pe_callTy call_tuple_of hg hm (by decide +kernel) (pa_cons pe_of pa_nil hs) (by decide) (by decide) hs (by rfl)) ?_
  refine h.ap tk mw o (fun l _ o1 v I1 H1 g1 r1 => ?_) fun _ z => z
  obtain ⟨p, xs, rfl, hqR, rs⟩ := Vc.R.tup_invR r1
  have hq := hqR.sq
  exact ⟨p, xs, rfl, .inr ⟨Same.seqT g1.ih hq, o1 _ _ _ g1 (.tup hqR rs)⟩⟩
/-- a list whose items are laid for good -/
def VL (X : Cx) (Γ : List SL) (e : Expr) {α : Type} [Enc α] (m : M (List α)) : Prop :=
  ∀ (W : WX), L2N.Takes X W → ∀ σ I H T, Mw X.K X.mg Γ σ I H T → ∀ Q : L2.VK,
    Out m (fun l => ∀ p xs I' H', Gr I H I' H' → SqL X.K H' p xs → Rs X.K X.mg I' xs (l.map enc) → Q (.ref p) H') (XO X W σ I H) → tOf X e σ H Q
theorem VL.congr {m m' : M (List α)} (h : VL X Γ e m) (q : m = m') : VL X Γ e m' := q ▸ h
theorem vl_of {m : M (List α)} (h : VX false X Γ e m) : VL X Γ e m := fun W tk σ I H T mw Q o => by
  refine h.ap tk mw o (fun l _ o1 v I1 H1 g1 r1 => ?_) fun _ z => z
  obtain ⟨p, xs, rfl, hq, rs⟩ := Vc.R.lst_inv r1
  exact o1 _ _ _ _ g1 (g1.ih.seq hq) rs
theorem vl_at {i : Nat} {π : List Pt} {oo : O} {l : List α} (h : VQ X Γ i π e) (hΓ : Γ[i]? = some (.val oo)) (hg : getO π oo = some (ow1 l)) : VL X Γ e (M.ok l) := fun W tk σ I H T mw Q o => by
  obtain ⟨v, u, T1, hv, s, ow⟩ := mw_at mw hΓ hg
  rw [ow1_inv] at ow
  cases ow with
  | lst h3 rr =>
    obtain ⟨rfl, rs⟩ := rr.imm
    exact h σ I H T mw v _ hv s Q (o _ _ I H (.refl mw.ih) (.of h3) rs)
theorem VL.ap {m : M (List α)} (h : VL X Γ e m) {W : WX} (tk : L2N.Takes X W) {σ : L2.St} {I H : Hp} {T : List Addr} (mw : Mw X.K X.mg Γ σ I H T) {Q : L2.VK} {P : List α → Prop} {E : Exn → Prop} (o : Out m P E)
    (hP : ∀ a, m = .ok a → P a → ∀ p xs I' H', Gr I H I' H' → SqL X.K H' p xs → Rs X.K X.mg I' xs (a.map enc) → Q (.ref p) H') (hE : ∀ ex, E ex → XO X W σ I H ex) : tOf X e σ H Q :=
  h W tk σ I H T mw Q (o.mono hP fun ex _ k => hE ex k)
theorem vo_listL {m : M (List α)} (hm : X.mg "list" = none) (h : VL X Γ e m) (hg : Gl X "list" := by rfl) (hs : starEach [e] X.env = (false, eval e X.env) :: starEach [] X.env := by rfl) : VO X Γ (.Call (.Name "list" p) [e] [] pos) ow1 m := fun W tk σ I H T mw Q o => by
  refine to_t (pe_callTy call_list_of hg hm (by decide +kernel) (pa_cons pe_of pa_nil hs) (by decide) (by decide) hs (by rfl)) ?_
  refine h.ap tk mw o (fun l _ o1 q xs I1 H1 g1 hq rs => ?_) fun _ z => z
  exact ⟨q, xs, rfl, .inl hq, fun p hp => o1 _ I1 _ [p] (by have := Wd.ow g1 (fun _ z => nomatch z) (Wd.new (o := .lst xs) g1.ih hp); simpa using this) (ow1_new rs)⟩
theorem vo_slL {m : M (List α)} {lo hi : Option Expr} {ml mh : M (Option Int)} {p2 : Pos} (h : VL X Γ e m) (hl : VP X Γ lo ml) (hh : VP X Γ hi mh) : VO X Γ (.Subscript e (.Slice lo hi none p2) pos) ow1 (m >>= fun l => ml >>= fun i => mh >>= fun j => M.ok (cutL l i j)) := fun W tk σ I H T mw Q o => by
  refine to_t (pe_slice sl_list pe_of po_of po_of) (h.ap tk mw o.bind (fun l _ o1 q xs I1 H1 g1 hq rs => ?_) fun _ z => z)
  refine hl.ap tk (mw.gr g1) o1.bind (fun i _ o2 I2 H2 g2 => ?_) fun _ z => z.gr g1
  refine hh.ap tk ((mw.gr g1).gr g2) o2.bind (fun j _ o3 I3 H3 g3 => ?_) fun _ z => (z.gr g1).gr g2
  exact ⟨q, xs, rfl, (g2.h0.trans g3.h0).seq hq, fun p hp => o3 _ I3 _ [p] (by have := Wd.ow ((g1.trans g2).trans g3) (fun _ z => nomatch z) (Wd.new (o := .lst (cutV xs i j)) g3.ih hp); simpa using this) (ow1_new ((rs.mono g2.i0).mono g3.i0).cut)⟩
theorem vo_catL {m1 m2 : M (List α)} (ha : VL X Γ a m1) (hb : VL X Γ b m2) : VO X Γ (.BinOp a .Add b pos) ow1 (m1 >>= fun x => m2 >>= fun y => catM x y) := fun W tk σ I H T mw Q o => by
  refine to_t (pe_op op_catS pe_of pe_of) (ha.ap tk mw o.bind (fun l _ o1 p xs I1 H1 g1 hq rs => ?_) fun _ z => z)
  refine hb.ap tk (mw.gr g1) o1.bind (fun l2 _ o2 p2 ys I2 H2 g2 hq2 rs2 => ?_) fun _ z => z.gr g1
  unfold catM at o2
  obtain ⟨hz, o3⟩ := o2.chk
  refine ⟨p, p2, xs, ys, rfl, rfl, g2.h0.seq hq, hq2, by rw [rs.length, rs2.length, List.length_map, List.length_map]; exact hz, fun p hp => ?_⟩
  refine o3 _ I2 _ [p] (by have := Wd.ow (g1.trans g2) (fun _ z => nomatch z) (Wd.new (o := .lst (xs ++ ys)) g2.ih hp); simpa using this) (ow1_new ?_)
  rw [List.map_append]
  exact Rs.append (rs.mono g2.i0) rs2
theorem ve_idxL {m1 : M (List α)} {m2 : M Int} (ha : VL X Γ a m1) (hb : VX true X Γ b m2) (hs : PlainIx b := by exact fun _ _ => rfl) : VX w X Γ (.Subscript a b pos) (m1 >>= fun l => m2 >>= fun i => getI l i) := VX.le fun W tk σ I H T mw Q o => by
  refine to_t (pe_ix ix_list pe_of pe_of hs) (ha.ap tk mw o.bind (fun l _ o1 p xs I1 H1 g1 hq rs => ?_) fun _ z => z)
  refine hb.ap tk (mw.gr g1) o1.bind (fun i _ o2 u I2 H2 g2 r2 => ?_) fun _ z => z.gr g1
  cases r2
  obtain ⟨a, e, o3⟩ := getI_out o2
  obtain ⟨z, e2, r3⟩ := (rs.mono g2.i0).atI e
  exact ⟨p, xs, i, z, rfl, rfl, g2.h0.seq hq, e2, o3 z I2 H2 (g1.trans g2) r3⟩
end
end Vc

set_option Elab.async false
set_option linter.all false
set_option maxRecDepth 100000
namespace Vc
open PySem PySem.Spec PyProof.Rows L2
open Enc (enc)
/-! ### lists of owned lists -/
theorem ow2_toD {α : Type} [Enc α] (l : List (List α)) : (ow2 l).toD = enc l := by
  unfold ow2
  rw [O.toD_lst, List.map_map]
  show D.lst (l.map fun a => (ow1 a).toD) = D.lst (l.map enc)
  congr 1
  apply List.map_congr_left
  intro a _
  exact ow1_toD a
theorem Ows.app {K : PySem.W.Frag} {mg : Str → Option Value} {I H : Hp} : ∀ {xs ys : List V} {os ps : List O} {T T' : List Addr}, Ows K mg I H xs os T → Ows K mg I H ys ps T' → Ows K mg I H (xs ++ ys) (os ++ ps) (T ++ T')
  | _, _, _, _, _, _, .nil, r => r
  | _, _, _, _, _, _, .cons (T := T) (T' := T2) h q, r => by
    rw [List.append_assoc]
    exact .cons h (Ows.app q r)
theorem Ows.len {K : PySem.W.Frag} {mg : Str → Option Value} {I H : Hp} : ∀ {xs : List V} {os : List O} {T : List Addr}, Ows K mg I H xs os T → xs.length = os.length
  | _, _, _, .nil => rfl
  | _, _, _, .cons h q => by rw [List.length_cons, List.length_cons, Ows.len q]
theorem getO_app : ∀ (π ρ : List Pt) (o : O), getO (π ++ ρ) o = (getO π o).bind (getO ρ)
  | [], ρ, o => rfl
  | .pin :: π, ρ, o => by
    cases o with
    | pin v o => exact getO_app π ρ o
    | _ => rfl
  | .fld f k :: π, ρ, o => by
    cases o with
    | ins n fs =>
      show (if _ then (fs[k]?).bind fun p => getO (π ++ ρ) p.2 else none) = Option.bind (if _ then (fs[k]?).bind fun p => getO π p.2 else none) _
      split
      · cases fs[k]? with
        | none => rfl
        | some p => exact getO_app π ρ p.2
      · rfl
    | _ => rfl
  | .idx j :: π, ρ, o => by
    cases o with
    | lst os =>
      show ((os[j]?).bind fun o => getO (π ++ ρ) o) = Option.bind ((os[j]?).bind fun o => getO π o) _
      cases os[j]? with
      | none => rfl
      | some p => exact getO_app π ρ p
    | _ => rfl
theorem putO_app : ∀ (π ρ : List Pt) (o o1 x : O), getO π o = some o1 → putO (π ++ ρ) o x = putO π o (putO ρ o1 x)
  | [], ρ, o, o1, x, h => by cases h; rfl
  | .pin :: π, ρ, o, o1, x, h => by
    cases o with
    | pin v o => exact congrArg (O.pin v) (putO_app π ρ o o1 x h)
    | _ => cases h
  | .fld f k :: π, ρ, o, o1, x, h => by
    cases o with
    | ins n fs =>
      unfold getO at h
      split at h
      · show O.ins n (match fs[k]? with | some p => fs.set k (p.1, putO (π ++ ρ) p.2 x) | none => fs) = O.ins n (match fs[k]? with | some p => fs.set k (p.1, putO π p.2 (putO ρ o1 x)) | none => fs)
        cases q : fs[k]? with
        | none => rfl
        | some p => rw [q] at h; simp only; rw [putO_app π ρ p.2 o1 x h]
      · cases h
    | _ => cases h
  | .idx j :: π, ρ, o, o1, x, h => by
    cases o with
    | lst os =>
      unfold getO at h
      show O.lst (match os[j]? with | some p => os.set j (putO (π ++ ρ) p x) | none => os) = O.lst (match os[j]? with | some p => os.set j (putO π p (putO ρ o1 x)) | none => os)
      cases q : os[j]? with
      | none => rfl
      | some p => rw [q] at h; simp only; rw [putO_app π ρ p o1 x h]
    | _ => cases h
section
variable {X : Cx} {Γ Γx : List SL} {e a b c ob : Expr} {es : List Expr} {rest : List Stmt} {pos p apos : Pos} {α β γ : Type} [Enc α] [Enc β] [Enc γ] {w w' : Bool} {τ : Type} {E : Eds τ}
/-! comprehensions whose items are owned -/
theorem lc_readO {n : Nat} {tg : Expr} {ifs : List Expr} {elt : Expr} {scope : Scope} {vs : List Nat} {u : α → List SL → List SL} {m : M (List α)} {t : α → M Bool} {f : α → M β} {oo : β → O} (hi : VI X Γ tg e m) (hg : BLK X scope fun Y => VG Y n tg vs u) (ht : ∀ a, BLK X scope fun Y => VK Y (u a (wipeG Γ vs)) ifs (t a))
    (he : ∀ a, BLK X scope fun Y => VO Y (u a (wipeG Γ vs)) elt oo (f a)) (hn : Γ.length = n) {W : WX} (tk : L2N.Takes X W) {σ : L2.St} {I H : Hp} {T : List Addr} (mw : Mw X.K X.mg Γ σ I H T) {Q : L2.VK} {P : List β → Prop} {E : Exn → Prop} (o : Out (m >>= fun l => lcM t f l) P E)
    (hP : ∀ r, P r → ∀ v I' H' T2, Wd I H I' H' T2 → Ow X.K X.mg I' H' v (.lst (r.map oo)) T2 → Q v H') (hE : ∀ ex, E ex → XO X W σ I H ex) : tLc (iOf X tg e) (gAll X scope tg) (kAll X scope ifs) (tAll X scope elt) vs σ H Q := by
  refine hi.ap tk mw o.bind (fun l _ o1 J I1 H1 g1 yl => ?_) hE
  intro D hD
  unfold lcM at o1
  obtain ⟨hz, o2⟩ := o1.chk
  have o3 := nox_out o2
  have mw1 := mw.gr g1
  refine ⟨fun i m H' => m = l.length - i ∧ i ≤ l.length ∧ ∃ I' acc xs TD, Wd I H I' H' (D :: TD) ∧ Same I1 I' ∧ H' D = some (.lst xs) ∧ Ows X.K X.mg I' H' xs ((acc : List β).map oo) TD ∧ acc.length ≤ i ∧ Out (lcGo t f (l.drop i)) (fun r => P (acc ++ r)) (fun _ => False), ⟨l.length, rfl, Nat.zero_le _, I1, [], [], [], ?_, .refl _, upd_same, .nil, Nat.le_refl _, o3⟩, ?_⟩
  · have := Wd.ow g1 (fun _ z => nomatch z) (Wd.new (o := .lst []) g1.ih hD)
    simpa using this
  rintro i _ H' ⟨rfl, hi, I', acc, xs, TD, wd, s1, hDl, rs, ha, o'⟩
  obtain ⟨go, stop⟩ := yl i I' H' s1 wd.ih
  by_cases hlt : i < l.length
  · obtain ⟨g2, y2⟩ := go l[i] (List.getElem?_eq_getElem hlt)
    rw [List.drop_eq_getElem_cons hlt] at o'
    refine .inr ⟨g2, fun H2 => ∃ I' acc xs TD, Wd I H I' H2 (D :: TD) ∧ Same I1 I' ∧ H2 D = some (.lst xs) ∧ Ows X.K X.mg I' H2 xs ((acc : List β).map oo) TD ∧ acc.length ≤ i + 1 ∧ Out (lcGo t f (l.drop (i + 1))) (fun r => P (acc ++ r)) (fun _ => False), fun H2 h => ⟨l.length - (i + 1), by omega, rfl, hlt, h⟩, fun x H2 y => ?_⟩
    obtain ⟨I2, g3, r3⟩ := y2 x H2 y
    have mwD : ∀ {I3 H3 : Hp}, Wd I H I3 H3 (D :: TD) → Mw X.K X.mg Γ σ I3 H3 T := fun {I3 H3} w => ⟨w.ih, fun p hp => w.sep p (by obtain ⟨zs, e⟩ := mw.sl.there p hp; rw [e]; simp) (mw.fr p hp), mw.nd, mw.sl.mono w.i0 fun p hp => by
      obtain ⟨zs, e⟩ := mw.sl.there p hp
      rw [e]; exact w.h0 p _ e⟩
    have th : ∀ {I3 H3 : Hp}, H3 D = some (.lst xs) → Ows X.K X.mg I3 H3 xs (acc.map oo) TD → ∀ p ∈ D :: TD, H3 p ≠ none := fun {I3 H3} hd q p hp => by
      rcases List.mem_cons.mp hp with rfl | hp
      · rw [hd]; simp
      · obtain ⟨z, e⟩ := q.there p hp
        rw [e]; simp
    have mono : ∀ {I3 H3 I4 H4 : Hp}, Gr I3 H3 I4 H4 → Ows X.K X.mg I3 H3 xs (acc.map oo) TD → Ows X.K X.mg I4 H4 xs (acc.map oo) TD := fun {I3 H3 I4 H4} g q => q.mono g.i0 fun p hp => by
      obtain ⟨z, e⟩ := q.there p hp
      rw [e]; exact g.h0 p _ e
    have wd3 : Wd I H I2 H2 (D :: TD) := wd.gr (th hDl rs) g3
    have hD2 : H2 D = some (.lst xs) := g3.h0 _ _ hDl
    have rs2 := mono g3 rs
    obtain ⟨T2, mw2, _⟩ := (mwD wd3).wipe vs
    intro s0 H0 C cl fp
    refine hg s0 H0 C cl fp (wipeG Γ vs) (by rw [wipeG_length]; exact hn) x l[i] _ I2 H2 T2 mw2 r3 _ fun σ3 T3 w3 _ s3 c3 d3 => ?_
    have w3' : L2.wipe σ3 vs = L2.wipe σ vs := by
      rw [w3]
      have idem : ∀ vs, L2.wipe (L2.wipe σ vs) vs = L2.wipe σ vs := by
        intro vs
        have set2 : ∀ (us : List Nat) (τ : L2.St) (j : Nat), j ∈ us → (L2.wipe τ us).set j none = L2.wipe τ us := by
          intro us
          induction us with
          | nil => intro _ _ h; cases h
          | cons u us ih =>
            intro τ j hj
            show ((L2.wipe τ us).set u none).set j none = (L2.wipe τ us).set u none
            by_cases hju : j = u
            · subst hju; rw [List.set_set]
            · rw [List.set_comm _ _ (Ne.symm hju), ih τ j (by simpa [hju] using hj)]
        have gen : ∀ (us ws : List Nat), (∀ j ∈ us, j ∈ ws) → L2.wipe (L2.wipe σ ws) us = L2.wipe σ ws := by
          intro us
          induction us with
          | nil => intro _ _; rfl
          | cons u us ih =>
            intro ws h
            show (L2.wipe (L2.wipe σ ws) us).set u none = _
            rw [ih ws fun j hj => h j (List.mem_cons_of_mem _ hj)]
            exact set2 ws σ u (h u List.mem_cons_self)
        exact gen vs vs fun _ h => h
      exact idem vs
    refine ⟨w3', ?_⟩
    have mw3 : Mw X.K X.mg (u l[i] (wipeG Γ vs)) σ3 I2 H2 T3 := ⟨mw2.ih, fun p hp => mw2.fr p (c3 p hp), d3, s3⟩
    intro s1' H1' C1 cl1 fp1
    have o4 : Out (t l[i] >>= fun c => if c then f l[i] >>= fun b => lcGo t f (l.drop (i + 1)) >>= fun r => M.ok (b :: r) else lcGo t f (l.drop (i + 1))) (fun r => P (acc ++ r)) (fun _ => False) := o'
    refine ht l[i] s1' H1' C1 cl1 fp1 (fun _ _ _ _ => False) takes0N σ3 I2 H2 T3 mw3 _ (o4.bind.mono (fun c _ o5 I4 H4 g4 => ?_) fun _ _ z => z.elim)
    have wd4 : Wd I H I4 H4 (D :: TD) := wd3.gr (th hD2 rs2) g4
    have hD4 : H4 D = some (.lst xs) := g4.h0 _ _ hD2
    have rs4 := mono g4 rs2
    cases c with
    | false =>
      refine iteF ⟨I4, acc, xs, TD, wd4, (s1.trans g3.i0).trans g4.i0, hD4, rs4, Nat.le_succ_of_le ha, o5⟩
    | true =>
      refine iteT ?_
      intro s2' H2' C2 cl2 fp2
      have o5 : Out (f l[i] >>= fun b => lcGo t f (l.drop (i + 1)) >>= fun r => M.ok (b :: r)) (fun r => P (acc ++ r)) (fun _ => False) := o5
      refine he l[i] s2' H2' C2 cl2 fp2 (fun _ _ _ _ => False) takes0N σ3 I4 H4 T3 (mw3.gr g4) _ (o5.bind.mono (fun b _ o6 v I5 H5 T5 w5 q5 => ?_) fun _ _ z => z.elim)
      have wd5 := wd4.ow (th hD4 rs4) w5
      have perm : (T5 ++ D :: TD).Perm (D :: (TD ++ T5)) := List.perm_append_comm
      have nd5 : (D :: (TD ++ T5)).Nodup := perm.nodup_iff.mp wd5.nd
      have wd6 : Wd I H I5 H5 (D :: (TD ++ T5)) := ⟨wd5.ih, wd5.i0, wd5.h0, fun p hp => wd5.fr p (perm.mem_iff.mpr hp), nd5, wd5.sep⟩
      have hD5 : H5 D = some (.lst xs) := w5.h0 _ _ hD4
      have hl : xs.length = acc.length := by rw [rs.len, List.length_map]
      have nD : ∀ p, p ∈ TD ++ T5 → p ≠ D := fun p hp z => (List.nodup_cons.mp nd5).1 (z ▸ hp)
      refine ⟨xs, hD5, by rw [hl]; omega, I5, acc ++ [b], xs ++ [v], TD ++ T5, wd6.put (by simp), ((s1.trans g3.i0).trans g4.i0).trans w5.i0, upd_same, ?_, by rw [List.length_append]; simp; omega, ?_⟩
      · rw [List.map_append]
        have r1 : Ows X.K X.mg I5 (upd H5 D (.lst (xs ++ [v]))) xs (acc.map oo) TD := rs4.mono w5.i0 fun p hp => by
          rw [upd_ne (nD p (List.mem_append_left _ hp))]
          obtain ⟨z, e⟩ := rs4.there p hp
          rw [e]; exact w5.h0 p _ e
        have r2 : Ow X.K X.mg I5 (upd H5 D (.lst (xs ++ [v]))) v (oo b) T5 := q5.mono (.refl _) fun p hp => upd_ne (nD p (List.mem_append_right _ hp))
        have r3 : Ows X.K X.mg I5 (upd H5 D (.lst (xs ++ [v]))) [v] [oo b] T5 := by
          have := Ows.cons r2 (.nil)
          rwa [List.append_nil] at this
        exact r1.app r3
      · refine o6.bind.mono (fun r _ o7 => ?_) fun _ _ z => z
        rw [List.append_assoc]
        exact o7
  · have e : i = l.length := by omega
    subst e
    rw [List.drop_length] at o'
    refine .inl ⟨stop (Nat.le_refl _), hP acc (by have := o'; simpa [lcGo, Out] using this) _ I' H' (D :: TD) wd (.lst hDl rs)⟩
theorem vo_lcO {n : Nat} {tg : Expr} {ifs : List Expr} {elt : Expr} {scope : Scope} (own : List (Str × Nat)) {u : α → List SL → List SL} {m : M (List α)} {t : α → M Bool} {f : α → M β} {oo : β → O} (hc : X.calm = true) (hN : X.N.Nodup) (hi : VI X Γ tg e m) (ok : BlkOk X.N X.env.scope scope own)
    (hg : BLK X scope fun Y => VG Y n tg (own.map (·.2)) u) (ht : ∀ a, BLK X scope fun Y => VK Y (u a (wipeG Γ (own.map (·.2)))) ifs (t a)) (he : ∀ a, BLK X scope fun Y => VO Y (u a (wipeG Γ (own.map (·.2)))) elt oo (f a)) (hn : Γ.length = n := by rfl) (hs : ∀ x, foldedSetIterable e X.env x = pure x := by intro _; rfl) :
    VO X Γ (.ListComp elt [⟨tg, e, ifs, 0⟩] scope pos) (fun r : List β => O.lst (r.map oo)) (m >>= fun l => lcM t f l) := fun W tk σ I H T mw Q o => by
  refine to_t (pe_lc hc hN pi_of ok lc_pg lc_pt lc_pe hs) ?_
  exact lc_readO hi hg ht he hn tk mw o (fun r k => k) fun _ z => z
/-- name = [..] -/
theorem vs_setLcO (i : Nat) {x : Str} {px : Pos} {n : Nat} {tg : Expr} {ifs : List Expr} {elt : Expr} {scope : Scope} (own : List (Str × Nat)) {u : α → List SL → List SL} {m : M (List α)} {t : α → M Bool} {f : α → M β} {oo : β → O} {k : List β → M τ} (hc : X.calm = true) (hN : X.N.Nodup) (hi : VI X Γ tg e m) (ok : BlkOk X.N X.env.scope scope own)
    (hg : BLK X scope fun Y => VG Y n tg (own.map (·.2)) u) (ht : ∀ a, BLK X scope fun Y => VK Y (u a (wipeG Γ (own.map (·.2)))) ifs (t a)) (he : ∀ a, BLK X scope fun Y => VO Y (u a (wipeG Γ (own.map (·.2)))) elt oo (f a))
    (hk : ∀ r, VS X (Γ.set i (.val (.lst (r.map oo)))) Γx rest E (k r)) (hsb : Sub Γ Γx) (hsw : swapsWith (.ListComp elt [⟨tg, e, ifs, 0⟩] scope pos) (some (.Name x px)) p.line X.env = pure true) (hn : Γ.length = n := by rfl) (hl : Nat.blt i Γ.length = true := by rfl) (hy : X.N[i]? = some x := by rfl) (hyl : X.env.scope.names.lookup x = some .local := by rfl) (hs : ∀ x, foldedSetIterable e X.env x = pure x := by intro _; rfl) :
    VS X Γ Γx (.Assign [.Name x px] (.ListComp elt [⟨tg, e, ifs, 0⟩] scope pos) p :: rest) E ((m >>= fun l => lcM t f l) >>= k) := fun W tk I0 H0 σ I H T mt D o => by
  refine seq_s (to_s1 (ps_setLc hc hN hy hyl hsw pi_of ok lc_pg lc_pt lc_pe hs) ?_)
  show tLc (iOf X tg e) (gAll X scope tg) (kAll X scope ifs) (tAll X scope elt) (own.map (·.2)) σ H _
  refine lc_readO hi hg ht he hn tk mt.mw o.bind (fun r o1 v I1 H1 T2 w1 q => ?_) fun _ z => z.xo mt hsb
  have there : ∀ p ∈ T, H p ≠ none := fun p hp => by obtain ⟨xs, e⟩ := mt.sl.there p hp; rw [e]; simp
  have mt1 : Sls X.K X.mg I1 H1 σ Γ T := mt.sl.mono w1.i0 fun p hp => by
    obtain ⟨xs, e⟩ := mt.sl.there p hp
    rw [e]; exact w1.h0 p _ e
  obtain ⟨T', s', c', d'⟩ := mt1.put (Nat.blt_eq.mp hl) q
  have wd := mt.wd.ow there w1
  exact rest_s (hk r) tk ⟨⟨wd.ih, wd.i0, wd.h0, fun p hp => wd.fr p (List.mem_append.mpr (c' p hp)), d' wd.nd, wd.sep⟩, s'⟩ o1
/-! a list at a place -/
theorem lst_pl {I0 H0 : Hp} {σ : L2.St} {I H : Hp} {T : List Addr} {i : Nat} {π : List Pt} {oo : O} {os : List O} (mt : Mt X.K X.mg I0 H0 Γ σ I H T) (hΓ : Γ[i]? = some (.val oo)) (hg : getO π oo = some (.lst os)) : ∃ v q xs T3, σ[i]? = some (some v) ∧ subV H π v (.ref q) ∧ H q = some (.lst xs) ∧ Ows X.K X.mg I H xs os T3 ∧
    ∀ I' H' T2, Wd I H I' H' T2 → subV H' π v (.ref q) ∧ H' q = some (.lst xs) ∧ Ows X.K X.mg I' H' xs os T3 ∧ (∀ p ∈ T2, p ≠ q ∧ p ∉ T3) ∧ q ∉ T3 ∧ T3.Nodup ∧ ∀ xs' os' T3', Ows X.K X.mg I' (upd H' q (.lst xs')) xs' os' T3' → (∀ p ∈ T3', p ∈ T3 ∨ p ∈ T2) → T3'.Nodup → ∃ T', Mt X.K X.mg I0 H0 (Γ.set i (.val (putO π oo (.lst os')))) σ I' (upd H' q (.lst xs')) T' := by
  obtain ⟨v, u, T1, hv, s, ow, inT, nd1, up⟩ := mt_put mt hΓ hg
  have there : ∀ p ∈ T1, ∃ x, H p = some x := fun p hp => mt.sl.there p (inT p hp)
  cases ow with
  | lst h3 rr =>
    rename_i q xs T3
    refine ⟨v, q, xs, T3, hv, s, h3, rr, fun I' H' T2 wd => ?_⟩
    obtain ⟨s', ow', put⟩ := up I' H' T2 wd
    have nq : q ∉ T3 := (List.nodup_cons.mp nd1).1
    have fr2 : ∀ p ∈ T2, p ≠ q ∧ p ∉ T3 := fun p hp => by
      have f2 := (wd.fr p hp).2
      refine ⟨fun z => ?_, fun z => ?_⟩
      · rw [z, h3] at f2; cases f2
      · obtain ⟨x, e⟩ := there p (List.mem_cons_of_mem _ z)
        rw [e] at f2; cases f2
    have rr' : Ows X.K X.mg I' H' xs os T3 := rr.mono wd.i0 fun p hp => by
      obtain ⟨x, e⟩ := there p (List.mem_cons_of_mem _ hp)
      rw [e]; exact wd.h0 p _ e
    refine ⟨s', wd.h0 _ _ h3, rr', fr2, nq, (List.nodup_cons.mp nd1).2, fun xs' os' T3' q' sub nd => ?_⟩
    refine put (upd H' q (.lst xs')) (.lst os') (q :: T3') (fun p hp => upd_ne fun z => hp (by rw [z]; exact List.mem_cons_self)) (.lst upd_same q') (fun p hp => ?_) (List.nodup_cons.mpr ⟨fun z => ?_, nd⟩)
    · rcases List.mem_cons.mp hp with rfl | hp
      · exact .inl List.mem_cons_self
      · exact (sub p hp).imp (List.mem_cons_of_mem _) id
    · rcases sub q z with h | h
      · exact nq h
      · exact (fr2 q h).1 rfl
/-- ob.append(e), e new -/
theorem vs_appO {i : Nat} {π : List Pt} {oo : O} {ow : α → O} {l : List α} {m : M α} {k : List α → M τ} (h : VQ X Γ i π ob) (hΓ : Γ[i]? = some (.val oo)) (hg : getO π oo = some (.lst (l.map ow))) (he : VO X Γ e ow m) (hk : ∀ l', VS X (Γ.set i (.val (putO π oo (.lst (l'.map ow))))) Γx rest E (k l')) (hs : Sub Γ Γx)
    (hbase : attributeBase ob "append" X.env (eval ob X.env) = eval ob X.env := by rfl)
    (hfew : ((backTo p (starEach [e] X.env)).all (fun x => !x.1) && (backToKw p (keywordEach [] X.env)).all (fun x => x.1.isSome) && decide (([e] : List Expr).length + ([] : List Keyword).length + (if ([] : List Keyword).isEmpty then 0 else 1) < 30)) = true := by rfl)
    (hline : (apos.endLine == p.line) = true := by rfl) (hst : starEach [e] X.env = (false, eval e X.env) :: starEach [] X.env := by rfl) (hpl : (backTo p (starEach [] X.env)).any (·.1) = false := by rfl)
    (hsw : swapsWith (.Call (.Attribute ob "append" apos) [e] [] p) none pos.line X.env = pure false := by rfl) :
    VS X Γ Γx (.Expr (.Call (.Attribute ob "append" apos) [e] [] p) pos :: rest) E (m >>= fun a => chk (l.length < sizeLine) >>= fun _ => k (l ++ [a])) := fun W tk I0 H0 σ I H T mt D o => by
  obtain ⟨v, q, xs, T3, hv, s, h3, rs, up⟩ := lst_pl mt hΓ hg
  refine seq_s (to_s1 (ps_expr (pe_bm PySem.F.plainAttrs_list PySem.F.slot_list_append PySem.F.type_list_append mt_append pe_of (pa_cons pe_of pa_nil hst) hbase hfew hline hst hpl) hsw) (h σ I H T mt.mw v _ hv s _ ⟨.inl ⟨rfl, xs, .of h3⟩, ?_⟩))
  refine he W tk σ I H T mt.mw _ (o.bind.mono (fun a _ o1 y I1 H1 T2 w1 q1 => ?_) fun _ _ z => z.xo mt hs)
  obtain ⟨hz, o2⟩ := o1.chk
  obtain ⟨_, h3', rs', fr2, nq, nd3, up'⟩ := up I1 H1 T2 w1
  refine ⟨q, xs, y, rfl, rfl, h3', by rw [rs.len, List.length_map]; exact hz, ?_⟩
  have r1 : Ows X.K X.mg I1 (upd H1 q (.lst (xs ++ [y]))) xs (l.map ow) T3 := rs'.mono (.refl _) fun p hp => upd_ne fun z => nq (z ▸ hp)
  have r2 : Ow X.K X.mg I1 (upd H1 q (.lst (xs ++ [y]))) y (ow a) T2 := q1.mono (.refl _) fun p hp => upd_ne (fr2 p hp).1
  have r3 : Ows X.K X.mg I1 (upd H1 q (.lst (xs ++ [y]))) [y] [ow a] T2 := by
    have := Ows.cons r2 (.nil)
    rwa [List.append_nil] at this
  obtain ⟨T4, mt2⟩ := up' (xs ++ [y]) ((l ++ [a]).map ow) (T3 ++ T2) (by rw [List.map_append]; exact r1.app r3) (fun p hp => List.mem_append.mp hp) (List.nodup_append.mpr ⟨nd3, w1.nd, fun x hx y hy z => (fr2 y hy).2 (z ▸ hx)⟩)
  exact rest_s (hk _) tk mt2 o2
/-- ob[a][b] = e -/
theorem vs_setII {i : Nat} {π : List Pt} {oo : O} {L : List (List α)} {p1 ps : Pos} {m : M α} {ma mb : M Int} {k : List (List α) → M τ} (h : VQ X Γ i π ob) (hΓ : Γ[i]? = some (.val oo)) (hg : getO π oo = some (ow2 L)) (he : VE X Γ e m) (ha : VX true X Γ a ma) (hb : VX true X Γ b mb) (hk : ∀ L', VS X (Γ.set i (.val (putO π oo (ow2 L')))) Γx rest E (k L')) (hs : Sub Γ Γx)
    (hpa : PlainIx a := by exact fun _ _ => rfl)
    (hst : ∀ v, assign (.Subscript (.Subscript ob a p1) b ps) X.env v = (do
      let ov ← holding [v] (eval (.Subscript ob a p1) X.env)
      let iv ← holding [v, ov] (eval b X.env)
      standAt ps
      holding [v, ov, iv] (setItem ov iv v)
      release [v, ov, iv] []) := by intro _; rfl)
    (hs1 : swapsWithSole [.Subscript (.Subscript ob a p1) b ps] e pos.line X.env = pure false := by rfl) (hw : swappedStores [.Subscript (.Subscript ob a p1) b ps] e X.env = pure none := by rfl) (hm1 : (assignEach [.Subscript (.Subscript ob a p1) b ps] X.env).map (·.2) = [assign (.Subscript (.Subscript ob a p1) b ps) X.env] := by rfl) :
    VS X Γ Γx (.Assign [.Subscript (.Subscript ob a p1) b ps] e pos :: rest) E (m >>= fun x => ma >>= fun j => getI L j >>= fun row => mb >>= fun j2 => setL row j2 x >>= fun row' => setL L j row' >>= k) := fun W tk I0 H0 σ I H T mt D o => by
  refine seq_s (to_s1 (ps_asg pe_of (pg_sub (pe_ix ix_list pe_of pe_of hpa) pe_of set_list hst) hs1 hw hm1) ?_)
  refine he.ap tk mt.mw o.bind (fun x _ o1 v I1 H1 g1 r1 => ?_) fun _ z => z.xo mt hs
  obtain ⟨v0, q, xs, T3, hv, s, h3, rs, up⟩ := lst_pl mt hΓ (os := L.map ow1) hg
  obtain ⟨s1, _⟩ := up I1 H1 [] g1
  refine h σ I1 H1 T (mt.mw.gr g1) v0 _ hv s1 _ ?_
  refine ha.ap tk (mt.mw.gr g1) o1.bind (fun j _ o2 u I2 H2 g2 r2 => ?_) fun _ z => (z.xo mt hs).gr g1
  cases r2
  obtain ⟨row, e2, o3⟩ := getI_out o2.bind
  obtain ⟨s2, h32, _⟩ := up I2 H2 [] (g1.trans g2)
  -- the row's place
  have hn : ∃ n, L2.ixN L.length j = some n ∧ L[n]? = some row := by
    unfold L2.atI at e2
    cases hx : L2.ixN L.length j with
    | none => rw [hx] at e2; cases e2
    | some n => rw [hx] at e2; exact ⟨n, rfl, e2⟩
  obtain ⟨n, hn1, hn2⟩ := hn
  have hg2 : getO (π ++ [.idx n]) oo = some (ow1 row) := by
    rw [getO_app, hg]
    show ((L.map ow1)[n]?).bind (fun o => getO [] o) = _
    rw [List.getElem?_map, hn2]
    rfl
  obtain ⟨v0', q2, ys, hv', sq, hq2, rs2, up2⟩ := own_pl mt hΓ hg2
  rw [hv] at hv'; cases hv'
  obtain ⟨sq2, hq22, _⟩ := up2 I2 H2 (g1.trans g2)
  obtain ⟨u', su, ⟨p', xs', z', eu, hp', hx', ez⟩⟩ := subV_split sq2
  obtain rfl := subV_fun su s2
  cases eu
  rw [h32] at hp'; cases hp'
  have ez : V.ref q2 = z' := ez
  subst ez
  have hlen : xs.length = L.length := by rw [rs.len, List.length_map]
  refine ⟨_, xs, j, .ref q2, rfl, rfl, .of h32, by unfold L2.atI; rw [hlen, hn1]; exact hx', ?_⟩
  refine hb.ap tk ((mt.mw.gr g1).gr g2) o3.bind (fun j2 _ o4 u2 I3 H3 g3 r3 => ?_) fun _ z => ((z.xo mt hs).gr g1).gr g2
  cases r3
  obtain ⟨n2, hn3, o5⟩ := setL_out o4.bind
  obtain ⟨_, hq23, put⟩ := up2 I3 H3 ((g1.trans g2).trans g3)
  refine ⟨q2, ys, j2, n2, rfl, rfl, hq23, by rw [rs2.length, List.length_map]; exact hn3, ?_⟩
  have o6 : Out (k (L.set n (row.set n2 x))) (DO X I0 H0 E D) (XS X W I0 H0 Γx) := by
    have := o5
    unfold setL at this
    rw [hn1] at this
    exact this
  obtain ⟨T4, mt4⟩ := put (ys.set n2 v) (row.set n2 x) (by rw [List.map_set]; exact Rs.set ((r1.mono g2.i0).mono g3.i0) n2 (rs2.mono ((g1.trans g2).trans g3).i0))
  rw [putO_app _ _ _ _ _ hg] at mt4
  have e5 : putO [.idx n] (ow2 L) (ow1 (row.set n2 x)) = ow2 (L.set n (row.set n2 x)) := by
    unfold ow2
    show O.lst (match (L.map ow1)[n]? with | some o => (L.map ow1).set n (ow1 (row.set n2 x)) | none => L.map ow1) = _
    rw [List.getElem?_map, hn2]
    show O.lst ((L.map ow1).set n (ow1 (row.set n2 x))) = _
    rw [List.map_set]
  rw [e5] at mt4
  exact rest_s (hk _) tk mt4 o6
theorem vs_freeze2 (i : Nat) {l : List (List α)} {m : M τ} (h : VS X (Γ.set i (sI l)) Γx rest E m) (hΓ : Γ[i]? = some (.val (ow2 l)) := by rfl) : VS X Γ Γx rest E m := vs_freeze i (ow := ow2 l) (by rw [ow2_toD]; exact h) hΓ
theorem VO.ve2 {m : M (List (List α))} (h : VO X Γ e ow2 m) : VX w X Γ e m := h.ve ow2_toD
end
end Vc

set_option Elab.async false
set_option linter.all false
set_option maxRecDepth 100000
namespace Vc
open PySem PySem.Spec PyProof.Rows L2
open Enc (enc)
section
variable {X : Cx} {Γ Γx : List SL} {e a b c ob : Expr} {es : List Expr} {rest : List Stmt} {pos p apos : Pos} {α β γ : Type} [Enc α] [Enc β] [Enc γ] {w w' : Bool} {τ : Type} {E : Eds τ}
/-- x, y = a, b of local names -/
theorem vs_par (i j : Nat) {x y : Str} {px py pt : Pos} {kt k2 : Nat} {pt2 : Pos} {ma : M (α × (β × Unit))} {k : α → β → M τ} (hc : X.calm = true) (hN : X.N.Nodup) (args : VA false X Γ [a, b] (eCons (eCons eNil)) ma) (hk : ∀ x y, VS X ((Γ.set i (sI x)).set j (sI y)) Γx rest E (k x y)) (hs : Sub Γ Γx)
    (hw : swappedStores [.Tuple [.Name x px, .Name y py] kt pt] (.Tuple [a, b] k2 pt2) X.env = pure (some [x, y]))
    (hij : (i == j) = false := by rfl) (hi : X.N[i]? = some x := by rfl) (hj : X.N[j]? = some y := by rfl) (hli : Nat.blt i Γ.length = true := by rfl) (hlj : Nat.blt j Γ.length = true := by rfl) (hx : X.env.scope.names.lookup x = some .local := by rfl) (hy : X.env.scope.names.lookup y = some .local := by rfl)
    (hsw : swapsWithSole [.Tuple [.Name x px, .Name y py] kt pt] (.Tuple [a, b] k2 pt2) pos.line X.env = pure false := by rfl) :
    VS X Γ Γx (.Assign [.Tuple [.Name x px, .Name y py] kt pt] (.Tuple [a, b] k2 pt2) pos :: rest) E (ma >>= fun r => k r.1 r.2.1) := fun W tk I0 H0 σ I H T mt D o => by
  refine seq_s (to_s1 (ps_par hc hN hi hj (by simpa using hij) hx hy pa_of hw hsw) ?_)
  refine args.ap tk mt.mw o.bind (fun r _ o1 vs I1 H1 g1 r1 => ?_) fun _ z => z.xo mt hs
  obtain ⟨u, v, u'⟩ := r
  cases r1 with
  | cons ra r2 =>
    cases r2 with
    | cons rb r3 =>
      cases r3
      refine ⟨_, _, rfl, ?_⟩
      obtain ⟨T1, mt1⟩ := (mt.gr g1).putI (Nat.blt_eq.mp hli) ra
      obtain ⟨T2, mt2⟩ := mt1.putI (by rw [List.length_set]; exact Nat.blt_eq.mp hlj) rb
      exact rest_s (hk u v) tk mt2 o1
theorem vo_lc2 {n : Nat} {tg : Expr} {ifs : List Expr} {elt : Expr} {scope : Scope} (own : List (Str × Nat)) {u : α → List SL → List SL} {m : M (List α)} {t : α → M Bool} {f : α → M (List β)} (hc : X.calm = true) (hN : X.N.Nodup) (hi : VI X Γ tg e m) (ok : BlkOk X.N X.env.scope scope own)
    (hg : BLK X scope fun Y => VG Y n tg (own.map (·.2)) u) (ht : ∀ a, BLK X scope fun Y => VK Y (u a (wipeG Γ (own.map (·.2)))) ifs (t a)) (he : ∀ a, BLK X scope fun Y => VO Y (u a (wipeG Γ (own.map (·.2)))) elt ow1 (f a)) (hn : Γ.length = n := by rfl) (hs : ∀ x, foldedSetIterable e X.env x = pure x := by intro _; rfl) :
    VO X Γ (.ListComp elt [⟨tg, e, ifs, 0⟩] scope pos) ow2 (m >>= fun l => lcM t f l) := vo_lcO own hc hN hi ok hg ht he hn hs
theorem vs_setLc2 (i : Nat) {x : Str} {px : Pos} {n : Nat} {tg : Expr} {ifs : List Expr} {elt : Expr} {scope : Scope} (own : List (Str × Nat)) {u : α → List SL → List SL} {m : M (List α)} {t : α → M Bool} {f : α → M (List β)} {k : List (List β) → M τ} (hc : X.calm = true) (hN : X.N.Nodup) (hi : VI X Γ tg e m) (ok : BlkOk X.N X.env.scope scope own)
    (hg : BLK X scope fun Y => VG Y n tg (own.map (·.2)) u) (ht : ∀ a, BLK X scope fun Y => VK Y (u a (wipeG Γ (own.map (·.2)))) ifs (t a)) (he : ∀ a, BLK X scope fun Y => VO Y (u a (wipeG Γ (own.map (·.2)))) elt ow1 (f a))
    (hk : ∀ r, VS X (Γ.set i (.val (ow2 r))) Γx rest E (k r)) (hsb : Sub Γ Γx) (hsw : swapsWith (.ListComp elt [⟨tg, e, ifs, 0⟩] scope pos) (some (.Name x px)) p.line X.env = pure true) (hn : Γ.length = n := by rfl) (hl : Nat.blt i Γ.length = true := by rfl) (hy : X.N[i]? = some x := by rfl) (hyl : X.env.scope.names.lookup x = some .local := by rfl) (hs : ∀ x, foldedSetIterable e X.env x = pure x := by intro _; rfl) :
    VS X Γ Γx (.Assign [.Name x px] (.ListComp elt [⟨tg, e, ifs, 0⟩] scope pos) p :: rest) E ((m >>= fun l => lcM t f l) >>= k) := vs_setLcO i own hc hN hi ok hg ht he hk hsb hsw hn hl hy hyl hs
theorem vs_app2 {i : Nat} {π : List Pt} {oo : O} {l : List (List α)} {m : M (List α)} {k : List (List α) → M τ} (h : VQ X Γ i π ob) (hΓ : Γ[i]? = some (.val oo)) (hg : getO π oo = some (ow2 l)) (he : VO X Γ e ow1 m) (hk : ∀ l', VS X (Γ.set i (.val (putO π oo (ow2 l')))) Γx rest E (k l')) (hs : Sub Γ Γx)
    (hbase : attributeBase ob "append" X.env (eval ob X.env) = eval ob X.env := by rfl)
    (hfew : ((backTo p (starEach [e] X.env)).all (fun x => !x.1) && (backToKw p (keywordEach [] X.env)).all (fun x => x.1.isSome) && decide (([e] : List Expr).length + ([] : List Keyword).length + (if ([] : List Keyword).isEmpty then 0 else 1) < 30)) = true := by rfl)
    (hline : (apos.endLine == p.line) = true := by rfl) (hst : starEach [e] X.env = (false, eval e X.env) :: starEach [] X.env := by rfl) (hpl : (backTo p (starEach [] X.env)).any (·.1) = false := by rfl)
    (hsw : swapsWith (.Call (.Attribute ob "append" apos) [e] [] p) none pos.line X.env = pure false := by rfl) :
    VS X Γ Γx (.Expr (.Call (.Attribute ob "append" apos) [e] [] p) pos :: rest) E (m >>= fun a => chk (l.length < sizeLine) >>= fun _ => k (l ++ [a])) := vs_appO (ow := ow1) h hΓ hg he hk hs hbase hfew hline hst hpl hsw
end
end Vc

set_option Elab.async false
set_option linter.all false
set_option maxRecDepth 100000
namespace Vc
open PySem PySem.Spec PyProof.Rows L2
open Enc (enc)
/-! ### tuples of a written form and of any length -/
def un2 {α : Type} (t : Tup α) : M (α × α) := match t.l with
  | [a, b] => .ok (a, b)
  | _ => .stuck
def un3 {α : Type} (t : Tup α) : M (T3 α α α) := match t.l with
  | [a, b, c] => .ok ⟨a, b, c⟩
  | _ => .stuck
def un4 {α : Type} (t : Tup α) : M (T4 α α α α) := match t.l with
  | [a, b, c, d] => .ok ⟨a, b, c, d⟩
  | _ => .stuck
def un5 {α : Type} (t : Tup α) : M (T5 α α α α α) := match t.l with
  | [a, b, c, d, e] => .ok ⟨a, b, c, d, e⟩
  | _ => .stuck
section
variable {X : Cx} {Γ Γx : List SL} {e a b c ob : Expr} {es : List Expr} {rest : List Stmt} {pos p apos : Pos} {α β γ : Type} [Enc α] [Enc β] [Enc γ] {w w' : Bool} {τ : Type} {E : Eds τ}
theorem VX.un2 {m : M (Tup α)} (h : VX w X Γ e m) : VX w X Γ e (m >>= Vc.un2) := h.to (fun t b q => by
  obtain ⟨l⟩ := t
  unfold Vc.un2 at q
  split at q
  · cases q; rename_i e; simp only at e; subst e; rfl
  · cases q) fun t e q => by unfold Vc.un2 at q; split at q <;> cases q
theorem VX.un3 {m : M (Tup α)} (h : VX w X Γ e m) : VX w X Γ e (m >>= Vc.un3) := h.to (fun t b q => by
  obtain ⟨l⟩ := t
  unfold Vc.un3 at q
  split at q
  · cases q; rename_i e; simp only at e; subst e; rfl
  · cases q) fun t e q => by unfold Vc.un3 at q; split at q <;> cases q
theorem VX.un4 {m : M (Tup α)} (h : VX w X Γ e m) : VX w X Γ e (m >>= Vc.un4) := h.to (fun t b q => by
  obtain ⟨l⟩ := t
  unfold Vc.un4 at q
  split at q
  · cases q; rename_i e; simp only at e; subst e; rfl
  · cases q) fun t e q => by unfold Vc.un4 at q; split at q <;> cases q
theorem VX.un5 {m : M (Tup α)} (h : VX w X Γ e m) : VX w X Γ e (m >>= Vc.un5) := h.to (fun t b q => by
  obtain ⟨l⟩ := t
  unfold Vc.un5 at q
  split at q
  · cases q; rename_i e; simp only at e; subst e; rfl
  · cases q) fun t e q => by unfold Vc.un5 at q; split at q <;> cases q
/-! a call with no argument -/
section
variable {CX : CXT} {k : Nat} {f : Addr} {fd : FuncData} {ps : List Str} {sp : Sp} {EE : L2.St → XK} {x : Str} {ρ : Type}
def tCall0 (sp : Sp) (EE : L2.St → XK) : TE := fun σ H Q => sp [] H Q (EE σ)
theorem pe_callS0 (F : FnOk X.prog X.w X.K X.mg X.base CX k f fd ps sp) (hr : Room k X.A) (hg : Gl X x) (hm : X.mg x = some (.ref f)) (hk : PySem.W.keepIn X.K (.ref f) = true) (hb : Binds X.K fd ps []) (hx : ∀ σ, PassesAt CX X σ (EE σ))
    (hdb : (x == ("__debug__" : Str)) = false := by decide) :
    PE X (.Call (.Name x p) [] [] pos) (tCall0 sp EE) := by
  refine ⟨fun pins s σ H Q I h => ?_⟩
  refine wpAny_Call_Name_kw (ld_glob I hg hm ?_ hdb)
  exact PySem.W.callWith_K0 (first := []) I.kIn hk (run_fnS (us := []) (vs := []) F hr hb (hx σ) I .nil h)
theorem vo_call0 {eo : ρ → O} {m : M ρ} (F : FnOk X.prog X.w X.K X.mg X.base (L2N.CX X.prog X.w) k f fd ps (spF X.K X.mg eNil eo (fun _ => m))) (hr : Room k X.A) (hm : X.mg x = some (.ref f)) (hk : PySem.W.keepIn X.K (.ref f) = true) (hb : Binds X.K fd ps []) (hg : Gl X x := by rfl)
    (hdb : (x == ("__debug__" : Str)) = false := by decide) : VO X Γ (.Call (.Name x p) [] [] pos) eo m := fun W tk σ I H T mw Q o => by
  refine to_t (pe_callS0 (EE := WE W) F hr hg hm hk hb (fun σ => L2N.passAt tk σ) hdb) ?_
  exact ⟨I, (), mw.ih, .nil, o.mono (fun r _ k v I' H' T' wd q => k v I' H' T' wd q) fun ex _ k cl d I' H' g at' => k cl d I' H' g at'⟩
theorem ve_call0 {m : M α} (F : FnOk X.prog X.w X.K X.mg X.base (L2N.CX X.prog X.w) k f fd ps (spF X.K X.mg eNil (fun r : α => O.imm (enc r)) (fun _ => m))) (hr : Room k X.A) (hm : X.mg x = some (.ref f)) (hk : PySem.W.keepIn X.K (.ref f) = true) (hb : Binds X.K fd ps []) (hg : Gl X x := by rfl)
    (hdb : (x == ("__debug__" : Str)) = false := by decide) : VX w X Γ (.Call (.Name x p) [] [] pos) m := VX.le fun W tk σ I H T mw Q o => by
  refine vo_call0 F hr hm hk hb hg hdb W tk σ I H T mw Q (o.mono (fun r _ k v I' H' T2 wd q => ?_) fun _ _ z => z)
  cases q with
  | imm rr => exact k v I' H' wd rr
end
end
/-! ### == of data of one of several kinds -/
section
variable {α β γ δ ε ζ θ : Type} [Enc α] [DecidableEq α] [Enc β] [DecidableEq β] [Enc γ] [DecidableEq γ] [Enc δ] [DecidableEq δ] [Enc ε] [DecidableEq ε] [Enc ζ] [DecidableEq ζ] [Enc θ] [DecidableEq θ]
def Ap (α β : Type) [Enc α] [DecidableEq α] [Enc β] [DecidableEq β] [E : Eqv α] [F : Eqv β] : Prop := ∀ (a : α) (b : β), PyData.eqv (E.py a) (F.py b) = false ∧ PyData.eqv (F.py b) (E.py a) = false
theorem ap_k [Eqv α] [Eqv β] [A : Knd α] [B : Knd β] (h : A.k ≠ B.k) : Ap α β := fun a b => ⟨eqv_kd _ _ (by rw [A.ok, B.ok]; exact h), eqv_kd _ _ (by rw [A.ok, B.ok]; exact h.symm)⟩
theorem ap_sym [Eqv α] [Eqv β] (h : Ap α β) : Ap β α := fun a b => ⟨(h b a).2, (h b a).1⟩
theorem ap_sum [E : Eqv α] [Eqv β] [Eqv γ] [F : Eqv (β ⊕ γ)] (hl : ∀ b : β, F.py (.inl b) = Eqv.py b) (hr : ∀ c : γ, F.py (.inr c) = Eqv.py c) (h1 : Ap α β) (h2 : Ap α γ) : Ap α (β ⊕ γ) := fun a y => match y with
  | .inl b => by rw [hl]; exact h1 a b
  | .inr c => by rw [hr]; exact h2 a c
theorem eqvAll_len : ∀ (l r : List PyData), l.length ≠ r.length → PyData.eqvAll l r = false
  | [], [], h => absurd rfl h
  | [], _ :: _, _ => rfl
  | _ :: _, [], _ => rfl
  | a :: l, b :: r, h => by
    show (PyData.eqv a b && PyData.eqvAll l r) = false
    rw [eqvAll_len l r (fun z => h (by rw [List.length_cons, List.length_cons, z])), Bool.and_false]
theorem ap52 [Eqv α] [Eqv β] [Eqv γ] [Eqv δ] [Eqv ε] [Eqv ζ] [Eqv θ] : Ap (T5 α β γ δ ε) (ζ × θ) := fun a b => ⟨eqvAll_len [_, _, _, _, _] [_, _] (by simp), eqvAll_len [_, _] [_, _, _, _, _] (by simp)⟩
theorem ap32 [Eqv α] [Eqv β] [Eqv γ] [Eqv ζ] [Eqv θ] : Ap (T3 α β γ) (ζ × θ) := fun a b => ⟨eqvAll_len [_, _, _] [_, _] (by simp), eqvAll_len [_, _] [_, _, _] (by simp)⟩
@[reducible] def eqvSumN (α β : Type) [Enc α] [DecidableEq α] [Enc β] [DecidableEq β] [E : Eqv α] [F : Eqv β] (h : Ap α β) : Eqv (α ⊕ β) := ⟨fun o => match o with | .inl a => E.py a | .inr b => F.py b, fun K mg H v a r => by
    cases a with
    | inl a => exact E.dp K mg H v a r
    | inr a => exact F.dp K mg H v a r, fun o => match o with | .inl a => E.lay a | .inr b => F.lay b, fun o => by
    cases o with
    | inl a => exact E.lyq a
    | inr a => exact F.lyq a, max E.dep F.dep, fun o => by
    cases o with
    | inl a => exact Nat.le_trans (E.dle a) (Nat.le_max_left _ _)
    | inr a => exact Nat.le_trans (F.dle a) (Nat.le_max_right _ _), fun a b => by
    cases a with
    | inl a =>
      cases b with
      | inl b => show PyData.eqv (E.py a) (E.py b) = _; rw [E.eqv]; simp
      | inr b => show PyData.eqv (E.py a) (F.py b) = _; rw [(h a b).1]; simp
    | inr a =>
      cases b with
      | inl b => show PyData.eqv (F.py a) (E.py b) = _; rw [(h b a).2]; simp
      | inr b => show PyData.eqv (F.py a) (F.py b) = _; rw [F.eqv]; simp⟩
end
end Vc

set_option Elab.async false
set_option linter.all false
set_option maxRecDepth 100000
namespace Vc
open PySem PySem.Spec PyProof.Rows L2
open Enc (enc)
/-! ### slices with a step -/
def pickL {α : Type} (l : List α) (lo hi st : Option Int) : List α :=
  (sliceRange (sliceBounds lo hi st l.length).1 (sliceBounds lo hi st l.length).2.1 (sliceBounds lo hi st l.length).2.2).filterMap fun i => l[i]?
theorem slicePick_list (l : List Value) (lo hi st : Option Int) : slicePick l.toArray lo hi st = (pickL l lo hi st).toArray := by
  unfold slicePick pickL
  rw [List.size_toArray]
  congr 2
  funext x
  simp
theorem pickL_le {α : Type} (l : List α) (lo hi st : Option Int) (h0 : st ≠ some 0) : (pickL l lo hi st).length ≤ l.length := by
  have h := slicePick_size_le (l.map fun _ => Value.none).toArray lo hi st
  rw [slicePick_list, List.size_toArray, List.size_toArray, List.length_map] at h
  refine Nat.le_trans (Nat.le_of_eq ?_) h
  unfold pickL
  rw [List.length_map]
  generalize sliceRange _ _ _ = L
  induction L with
  | nil => rfl
  | cons i L ih =>
    rw [List.filterMap_cons, List.filterMap_cons, List.getElem?_map]
    cases e : l[i]? with
    | none => simpa using ih
    | some a => simpa using ih
theorem pick_vals {xs : List V} {us : List Value} (r : Vals xs us) (L : List Nat) : Vals (L.filterMap fun i => xs[i]?) (L.filterMap fun i => us[i]?) := by
  have hl := r.length
  induction L with
  | nil => exact .nil
  | cons i L ih =>
    rw [List.filterMap_cons, List.filterMap_cons]
    by_cases h : i < xs.length
    · obtain ⟨w, ew, rw'⟩ := r.get (List.getElem?_eq_getElem h)
      rw [List.getElem?_eq_getElem h, ew]
      exact .cons rw' ih
    · rw [List.getElem?_eq_none (by omega), List.getElem?_eq_none (by omega)]
      exact ih
theorem Rs.getX {K : PySem.W.Frag} {mg : Str → Option Value} {H : Hp} : ∀ {xs : List V} {ds : List D} {i : Nat} {v : V}, Rs K mg H xs ds → xs[i]? = some v → ∃ d, ds[i]? = some d ∧ R K mg H v d
  | _, _, _, _, .nil, h => by simp at h
  | _, _, 0, _, .cons r q, h => by simp at h; subst h; exact ⟨_, by simp, r⟩
  | _, _, i + 1, _, .cons r q, h => by
    obtain ⟨d, e, k⟩ := Rs.getX (i := i) q (by simpa using h)
    exact ⟨d, by simpa using e, k⟩
theorem pick_rs {α : Type} [Enc α] {K : PySem.W.Frag} {mg : Str → Option Value} {H : Hp} {xs : List V} {l : List α} (r : Rs K mg H xs (l.map enc)) (L : List Nat) : Rs K mg H (L.filterMap fun i => xs[i]?) ((L.filterMap fun i => l[i]?).map enc) := by
  have hl : xs.length = l.length := by rw [r.length, List.length_map]
  induction L with
  | nil => exact .nil
  | cons i L ih =>
    rw [List.filterMap_cons, List.filterMap_cons]
    by_cases h : i < xs.length
    · obtain ⟨d, ed, rd⟩ := Rs.getX r (List.getElem?_eq_getElem h)
      rw [List.getElem?_map, List.getElem?_eq_getElem (by omega)] at ed
      rw [List.getElem?_eq_getElem h, List.getElem?_eq_getElem (by omega)]
      cases ed
      exact .cons rd ih
    · rw [List.getElem?_eq_none (by omega), List.getElem?_eq_none (by omega)]
      exact ih
theorem Rs.pick {α : Type} [Enc α] {K : PySem.W.Frag} {mg : Str → Option Value} {H : Hp} {xs : List V} {l : List α} {lo hi st : Option Int} (r : Rs K mg H xs (l.map enc)) : Rs K mg H (pickL xs lo hi st) ((pickL l lo hi st).map enc) := by
  have hl : xs.length = l.length := by rw [r.length, List.length_map]
  unfold pickL
  rw [hl]
  exact pick_rs r _
section
variable {X : Cx} {Γ Γx : List SL} {e a b c ob : Expr} {es : List Expr} {rest : List Stmt} {pos p apos : Pos} {α β γ : Type} [Enc α] [Enc β] [Enc γ] {w w' : Bool} {τ : Type} {E : Eds τ}
def tSlS (K : PySem.W.Frag) (te : TE) (tl th ts : TO) : TE := fun σ H Q => te σ H fun x H1 => tl σ H1 fun lo H2 => th σ H2 fun hi H3 => ts σ H3 fun st H4 => ∃ a xs, x = .ref a ∧ SqL K H4 a xs ∧ st ≠ some 0 ∧ ∀ p, H4 p = none → Q (.ref p) (upd H4 p (.lst (pickL xs lo hi st)))
theorem pe_sliceS {e : Expr} {te : TE} {lo hi : Option Expr} {st : Expr} {tl th ts : TO} {p2 : Pos} (he : PE X e te) (hl : PO X lo tl) (hu : PO X hi th) (hs : PO X (some st) ts) : PE X (.Subscript e (.Slice lo hi (some st) p2) pos) (tSlS X.K te tl th ts) := by
  refine ⟨fun pins s σ H Q I h => ?_⟩
  refine Subscript_ (thn (he.run pins s σ H _ I h) fun v s1 ⟨x, H1, I1, r1, q1⟩ => ?_)
  refine wpAny_Slice (thn (hl.run pins s1 σ H1 _ I1 q1) fun vl s2 ⟨l, H2, I2, pl, q2⟩ => thn (hu.run pins s2 σ H2 _ I2 q2) fun vu s3 ⟨u, H3, I3, pu, q3⟩ => thn (hs.run pins s3 σ H3 _ I3 q3) fun vs s4 ⟨o, H4, I4, ps, q4⟩ => ?_)
  obtain ⟨a, xs, ex, hx, h0, q⟩ := q4
  subst ex
  cases r1
  have I5 : Inv X pins σ H4 { s4 with heap := s4.heap.push { cls := .type "slice", data := .fields #[vl, vu, vs] } } := I4.kept (t' := s4.toks) fun b ob q => Heap.get?_push_of_some _ q
  obtain ⟨its, r, ht, hz⟩ := I5.list hx
  have hlen := r.length
  show wpAny (model X.prog X.w) X.A (subscriptTail e (.Slice lo hi (some st) p2) (.ref a) (.ref s4.heap.objs.size)) (EP X pins σ Q) X.xe { s4 with heap := s4.heap.push { cls := .type "slice", data := .fields #[vl, vu, vs] } }
  refine tail_any (ops := [.ref a, .ref s4.heap.objs.size]) ht.isList.typeIs (PySem.slot_list_getitem.lookup) ?_ (by with_unfolding_all rfl)
  refine wpAny_getItem_list_slice ht.isList (Heap.IsSliceOf.new _ vl vu vs) pl pu ps h0 ?_ (by rw [List.size_toArray]; omega)
  rw [slicePick_list]
  refine ⟨.ref _, _, I5.laid (t' := s4.toks) (o := .lst (pickL xs l u o)) (fun b ob q => Heap.get?_push_of_some _ q) (Nat.le_refl _) ?_, rfl, q _ (I5.hok.fresh (Nat.le_refl _))⟩
  refine ⟨Nat.le_trans (pickL_le _ _ _ _ h0) hz, _, 0, ?_, Heap.get?_push_size _ rfl⟩
  unfold pickL
  rw [hlen]
  exact pick_vals r _
theorem vo_slS {m : M (List α)} {lo hi : Option Expr} {st : Expr} {ml mh ms : M (Option Int)} {p2 : Pos} (h : VL X Γ e m) (hl : VP X Γ lo ml) (hh : VP X Γ hi mh) (hs : VP X Γ (some st) ms) : VO X Γ (.Subscript e (.Slice lo hi (some st) p2) pos) ow1 (m >>= fun l => ml >>= fun i => mh >>= fun j => ms >>= fun k => chk (k ≠ some 0) >>= fun _ => M.ok (pickL l i j k)) := fun W tk σ I H T mw Q o => by
  refine to_t (pe_sliceS pe_of po_of po_of po_of) (h.ap tk mw o.bind (fun l _ o1 q xs I1 H1 g1 hq rs => ?_) fun _ z => z)
  refine hl.ap tk (mw.gr g1) o1.bind (fun i _ o2 I2 H2 g2 => ?_) fun _ z => z.gr g1
  refine hh.ap tk ((mw.gr g1).gr g2) o2.bind (fun j _ o3 I3 H3 g3 => ?_) fun _ z => (z.gr g1).gr g2
  refine hs.ap tk (((mw.gr g1).gr g2).gr g3) o3.bind (fun k _ o4 I4 H4 g4 => ?_) fun _ z => ((z.gr g1).gr g2).gr g3
  obtain ⟨h0, o5⟩ := o4.chk
  exact ⟨q, xs, rfl, ((g2.h0.trans g3.h0).trans g4.h0).seq hq, h0, fun p hp => o5 _ I4 _ [p] (by have := Wd.ow (((g1.trans g2).trans g3).trans g4) (fun _ z => nomatch z) (Wd.new (o := .lst (pickL xs i j k)) g4.ih hp); simpa using this) (ow1_new (((rs.mono g2.i0).mono g3.i0).mono g4.i0).pick)⟩
end
end Vc

set_option Elab.async false
set_option linter.all false
set_option maxRecDepth 100000
namespace Vc
open PySem PySem.Spec PyProof.Rows L2
open Enc (enc)
/-! ### dicts with int keys -/
structure DI (α : Type) where
  l : List (Int × α)
  deriving DecidableEq
def kI (i : Int) : Key := .inl i
instance {α : Type} [Enc α] : Enc (DI α) := ⟨fun d => .dic (d.l.map fun p => (kI p.1, enc p.2))⟩
def od {α : Type} [Enc α] (d : DI α) : O := .dic (d.l.map fun p => (kI p.1, .imm (enc p.2)))
theorem od_toD {α : Type} [Enc α] (d : DI α) : (od d).toD = enc d := by
  unfold od
  rw [O.toD_dic, List.map_map]
  show D.dic _ = D.dic _
  congr 1
  apply List.map_congr_left
  intro p _
  show (kI p.1, (O.imm (enc p.2)).toD) = _
  rw [O.toD_imm]
def DI.get {α : Type} (d : DI α) (k : Int) : Option α := (d.l.find? fun kv => decide (kv.1 = k)).map (·.2)
def DI.put {α : Type} (d : DI α) (k : Int) (v : α) : DI α :=
  ⟨if (d.l.any fun kv => decide (kv.1 = k)) = true then d.l.map (fun kv => if kv.1 = k then (kv.1, v) else kv) else d.l ++ [(k, v)]⟩
theorem kI_eq {a b : Int} : (kI a = kI b) = (a = b) := by unfold kI; simp
section
variable {α : Type} [Enc α] {K : PySem.W.Frag} {mg : Str → Option Value} {H : Hp}
abbrev eK (l : List (Int × α)) : List (Key × D) := l.map fun p => (kI p.1, enc p.2)
theorem RK.length : ∀ {vs : List (Key × V)} {ds : List (Key × D)}, RK K mg H vs ds → vs.length = ds.length
  | _, _, .nil => rfl
  | _, _, .cons _ r => by rw [List.length_cons, List.length_cons, RK.length r]
theorem RK.any : ∀ {l : List (Int × α)} {vs : List (Key × V)} {k : Int}, RK K mg H vs (eK l) → (vs.any fun kv => decide (kv.1 = kI k)) = (l.any fun kv => decide (kv.1 = k))
  | [], _, _, .nil => rfl
  | p :: l, _, k, .cons (v := v) _ r => by
    show (decide (kI p.1 = kI k) || _) = (decide (p.1 = k) || _)
    rw [RK.any r]
    congr 1
    exact decide_eq_decide.mpr (by rw [kI_eq])
theorem RK.get : ∀ {l : List (Int × α)} {vs : List (Key × V)} {k : Int}, RK K mg H vs (eK l) → match (l.find? fun kv => decide (kv.1 = k)).map (·.2) with
    | none => valV vs (kI k) = none
    | some a => ∃ v, valV vs (kI k) = some v ∧ R K mg H v (enc a)
  | [], _, _, .nil => rfl
  | p :: l, _, k, .cons (v := v) (vs := vs) q r => by
    rw [List.find?_cons]
    by_cases h : p.1 = k
    · rw [decide_eq_true h]
      show ∃ v', valV _ _ = some v' ∧ _
      exact ⟨v, valV_pos (by rw [h]), q⟩
    · rw [decide_eq_false h]
      have ih := RK.get (k := k) r
      have e : valV ((kI p.1, v) :: vs) (kI k) = valV vs (kI k) := valV_neg (by rw [kI_eq]; exact h)
      simp only
      rw [e]
      exact ih
theorem RK.repl : ∀ {l : List (Int × α)} {vs : List (Key × V)} {k : Int} {u : V} {a : α}, RK K mg H vs (eK l) → R K mg H u (enc a) → RK K mg H (vs.map fun kv => if kv.1 = kI k then (kv.1, u) else kv) (eK (l.map fun kv => if kv.1 = k then (kv.1, a) else kv))
  | [], _, _, _, _, .nil, _ => .nil
  | p :: l, _, k, u, a, .cons (v := v) q r, ru => by
    rw [List.map_cons, List.map_cons]
    show RK K mg H ((if kI p.1 = kI k then (kI p.1, u) else (kI p.1, v)) :: _) ((fun p : Int × α => (kI p.1, enc p.2)) (if p.1 = k then (p.1, a) else p) :: _)
    by_cases h : p.1 = k
    · rw [if_pos (by rw [h]), if_pos h]
      exact .cons ru (RK.repl r ru)
    · rw [if_neg (by rw [kI_eq]; exact h), if_neg h]
      exact .cons q (RK.repl r ru)
theorem RK.snoc : ∀ {l : List (Int × α)} {vs : List (Key × V)} {k : Int} {u : V} {a : α}, RK K mg H vs (eK l) → R K mg H u (enc a) → RK K mg H (vs ++ [(kI k, u)]) (eK (l ++ [(k, a)]))
  | [], _, _, _, _, .nil, ru => .cons ru .nil
  | p :: l, _, k, u, a, .cons q r, ru => .cons q (RK.snoc r ru)
theorem RK.put {d : DI α} {vs : List (Key × V)} {k : Int} {u : V} {a : α} (r : RK K mg H vs (eK d.l)) (ru : R K mg H u (enc a)) : RK K mg H (putK vs (kI k) u) (eK (d.put k a).l) := by
  unfold putK DI.put
  rw [r.any]
  split
  · exact r.repl ru
  · exact r.snoc ru
theorem OwK.of_imm {I : Hp} : ∀ {l : List (Int × α)} {vs : List (Key × V)}, RK K mg I vs (eK l) → OwK K mg I H vs (l.map fun p => (kI p.1, O.imm (enc p.2))) []
  | [], _, .nil => .nil
  | p :: l, _, .cons q r => .cons (T := []) (T' := []) (.imm q) (OwK.of_imm r)
theorem OwK.imm {I : Hp} : ∀ {l : List (Int × α)} {vs : List (Key × V)} {T : List Addr}, OwK K mg I H vs (l.map fun p => (kI p.1, O.imm (enc p.2))) T → T = [] ∧ RK K mg I vs (eK l)
  | [], _, _, .nil => ⟨rfl, .nil⟩
  | p :: l, _, _, .cons (.imm h) r => by
    obtain ⟨e, q⟩ := OwK.imm r
    subst e
    exact ⟨rfl, .cons h q⟩
theorem RF.names : ∀ {vs : List (Str × V)} {fs : List (Str × D)}, RF K mg H vs fs → vs.map Prod.fst = fs.map Prod.fst
  | _, _, .nil => rfl
  | _, _, .cons _ r => by simp only [List.map_cons, RF.names r]
theorem R.dic_inv {v : V} {d : DI α} (r : R K mg H v (enc d)) : ∃ p vs, v = .ref p ∧ H p = some (.dK vs) ∧ RK K mg H vs (eK d.l) := by
  have r : R K mg H v (.dic (eK d.l)) := r
  cases r with
  | dic h q => exact ⟨_, _, rfl, h, q⟩
end
section
variable {X : Cx} {Γ Γx : List SL} {e e1 a b c ob : Expr} {es : List Expr} {rest : List Stmt} {pos p apos : Pos} {α β γ : Type} [Enc α] [Enc β] [Enc γ] {w w' : Bool} {τ : Type} {E : Eds τ}
theorem vo_dnew : VO X Γ (.Dict [] [] pos) od (M.ok (⟨[]⟩ : DI α)) := fun W tk σ I H T mw Q o => by
  refine to_t pe_dnewK fun p hp => ?_
  exact o _ I _ [p] (Wd.new mw.ih hp) (.dic (T := []) upd_same .nil)
theorem VO.veD {m : M (DI α)} (h : VO X Γ e od m) : VX w X Γ e m := h.ve od_toD
theorem vs_freezeD (i : Nat) {l : DI α} {m : M τ} (h : VS X (Γ.set i (sI l)) Γx rest E m) (hΓ : Γ[i]? = some (.val (od l)) := by rfl) : VS X Γ Γx rest E m := vs_freeze i (ow := od l) (by rw [od_toD]; exact h) hΓ
/-- ob[k] = v -/
theorem vs_dput {i : Nat} {π : List Pt} {oo : O} {d : DI α} {p1 : Pos} {m : M α} {mk : M Int} {kk : DI α → M τ} (hu : X.A.units + 64 < cLine) (h : VQ X Γ i π ob) (hΓ : Γ[i]? = some (.val oo)) (hg : getO π oo = some (od d)) (he : VE X Γ e m) (hk : VX true X Γ b mk) (hkk : ∀ d', VS X (Γ.set i (.val (putO π oo (od d')))) Γx rest E (kk d')) (hs : Sub Γ Γx)
    (hsw : swapsWith e (some (.Subscript ob b p1)) pos.line X.env = pure false := by rfl) :
    VS X Γ Γx (.Assign [.Subscript ob b p1] e pos :: rest) E (m >>= fun v => mk >>= fun k => chk (d.l.length < sizeLine) >>= fun _ => kk (d.put k v)) := fun W tk I0 H0 σ I H T mt D o => by
  obtain ⟨v0, u, T1, hv, s, ow, inT, nd1, up⟩ := mt_put mt hΓ hg
  unfold od at ow
  cases ow with
  | dic h3 rr =>
    rename_i q vs T3
    obtain ⟨rfl, rk⟩ := rr.imm
    refine seq_s (to_s1 (ps_dput (by omega) pe_of pe_of pe_of hsw) ?_)
    refine he.ap tk mt.mw o.bind (fun x _ o1 v I1 H1 g1 r1 => ?_) fun _ z => z.xo mt hs
    obtain ⟨s1, _, _⟩ := up I1 H1 [] g1
    refine h σ I1 H1 T (mt.mw.gr g1) v0 _ hv s1 _ ?_
    refine hk.ap tk (mt.mw.gr g1) o1.bind (fun k _ o2 y I2 H2 g2 r2 => ?_) fun _ z => (z.xo mt hs).gr g1
    cases r2
    obtain ⟨hz, o3⟩ := o2.chk
    have g := g1.trans g2
    obtain ⟨_, _, put⟩ := up I2 H2 [] g
    have h3' : H2 q = some (.dK vs) := g.h0 _ _ h3
    have hlen : vs.length < sizeLine := by rw [rk.length, List.length_map]; exact hz
    refine ⟨q, _, rfl, DPut.k (k := kI k) h3' hlen, ?_⟩
    have rk2 : RK X.K X.mg I2 (putK vs (kI k) v) (eK (d.put k x).l) := RK.put (rk.mono g.i0) (r1.mono g2.i0)
    obtain ⟨T4, mt4⟩ := put (upd H2 q (.dK (putK vs (kI k) v))) (od (d.put k x)) [q] (fun p hp => upd_ne fun z => hp (by rw [z]; exact List.mem_cons_self)) (.dic (T := []) upd_same (OwK.of_imm rk2)) (fun p hp => .inl (by simpa using hp)) (by simp)
    exact rest_s (hkk _) tk mt4 o3
def optM {α : Type} : Option α → M α
  | some a => .ok a
  | none => .stuck
/-- d.get(k, x) -/
theorem ve_dget2 {m : M (DI α)} {mk : M Int} {mx : M α} (hu : X.A.units + 64 < cLine) (h : VX w X Γ ob m) (hk : VX true X Γ a mk) (hx : VX w X Γ b mx)
    (h1 : attributeBase ob "get" X.env (eval ob X.env) = eval ob X.env := by rfl)
    (h2 : ((backTo pos (starEach [a, b] X.env)).all (fun x => !x.1) && (backToKw pos (keywordEach [] X.env)).all (fun x => x.1.isSome) && decide (([a, b] : List Expr).length + ([] : List Keyword).length + (if ([] : List Keyword).isEmpty then 0 else 1) < 30)) = true := by rfl)
    (h3 : (apos.endLine == pos.line) = true := by rfl) (h4 : backTo pos (starEach [a, b] X.env) = [(false, eval a X.env), (false, eval b X.env)] := by rfl) :
    VX w X Γ (.Call (.Attribute ob "get" apos) [a, b] [] pos) (m >>= fun d => mk >>= fun k => mx >>= fun x => M.ok ((d.get k).getD x)) := fun W tk σ I H T mw Q o => by
  refine to_t (pe_dget2 (by omega) pe_of pe_of pe_of ⟨h1, h2, h3, h4⟩) (h.ap tk mw o.bind (fun d _ o1 v I1 H1 g1 r1 => ?_) fun _ z => z)
  obtain ⟨p, vs, rfl, hp, rk⟩ := R.dic_inv r1
  refine ⟨p, rfl, .inl ⟨vs, .inl ((wsel_le g1.ih) _ _ hp)⟩, ?_⟩
  refine hk.ap tk (mw.gr g1) o1.bind (fun k _ o2 y I2 H2 g2 r2 => ?_) fun _ z => z.gr g1
  cases r2
  refine hx.ap tk ((mw.gr g1).gr g2) o2.bind (fun x _ o3 u I3 H3 g3 r3 => ?_) fun _ z => (z.gr g1).gr g2
  have gg := (g1.trans g2).trans g3
  have hp3 : H3 p = some (.dK vs) := g3.h0 _ _ (g2.h0 _ _ ((wsel_le g1.ih) _ _ hp))
  have rk3 : RK X.K X.mg (wsel w I3 H3) vs (eK d.l) := (rk.mono (wsel_same g2)).mono (wsel_same g3)
  refine ⟨_, DGet.k (k := kI k) hp3, ?_⟩
  have q := RK.get (k := k) rk3
  unfold DI.get at o3
  cases e : (d.l.find? fun kv => decide (kv.1 = k)).map (·.2) with
  | none =>
    rw [e] at q o3
    rw [show valV vs (kI k) = none from q]
    exact o3 u I3 H3 gg r3
  | some z =>
    rw [e] at q o3
    obtain ⟨v, ev, rv⟩ := q
    rw [ev]
    exact o3 v I3 H3 gg rv
/-- d[k], there -/
theorem ve_dget {m : M (DI α)} {mk : M Int} (hu : X.A.units + 64 < cLine) (h : VX w X Γ ob m) (hk : VX true X Γ b mk) (hns : NoSl b := by exact fun _ _ => rfl) : VX w X Γ (.Subscript ob b pos) (m >>= fun d => mk >>= fun k => optM (d.get k)) := fun W tk σ I H T mw Q o => by
  refine to_t (pe_dget (by omega) pe_of pe_of hns) (h.ap tk mw o.bind (fun d _ o1 v I1 H1 g1 r1 => ?_) fun _ z => z)
  obtain ⟨p, vs, rfl, hp, rk⟩ := R.dic_inv r1
  refine hk.ap tk (mw.gr g1) o1.bind (fun k _ o2 y I2 H2 g2 r2 => ?_) fun _ z => z.gr g1
  cases r2
  have hp2 : H2 p = some (.dK vs) := g2.h0 _ _ ((wsel_le g1.ih) _ _ hp)
  have rk2 : RK X.K X.mg (wsel w I2 H2) vs (eK d.l) := rk.mono (wsel_same g2)
  have q := RK.get (k := k) rk2
  unfold DI.get at o2
  cases e : (d.l.find? fun kv => decide (kv.1 = k)).map (·.2) with
  | none => rw [e] at o2; exact o2.elim
  | some z =>
    rw [e] at q o2
    obtain ⟨v, ev, rv⟩ := q
    refine ⟨p, v, rfl, ?_, o2 v I2 H2 (g1.trans g2) rv⟩
    have := DGet.k (k := kI k) hp2
    rwa [ev] at this
/-- k in d -/
theorem ve_din {m : M (DI α)} {mk : M Int} (hu : X.A.units + 64 < cLine) (hk : VX true X Γ a mk) (h : VX true X Γ ob m) (hb : behindInMarks .In ob = false := by rfl) : VX w X Γ (.Compare a [.In] [ob] pos) (mk >>= fun k => m >>= fun d => M.ok (d.get k).isSome) := VX.le fun W tk σ I H T mw Q o => by
  refine to_t (pe_cmp (pc_din (by omega) pe_of pe_of) hb) (hk.ap tk mw o.bind (fun k _ o1 y I1 H1 g1 r1 => ?_) fun _ z => z)
  cases r1
  refine h.ap tk (mw.gr g1) o1.bind (fun d _ o2 v I2 H2 g2 r2 => ?_) fun _ z => z.gr g1
  obtain ⟨p, vs, rfl, hp, rk⟩ := R.dic_inv r2
  have q := RK.get (k := k) rk
  have o2 := o2 (.bl (d.get k).isSome) I2 H2 (g1.trans g2) (.bl _)
  unfold DI.get at o2
  cases e : (d.l.find? fun kv => decide (kv.1 = k)).map (·.2) with
  | none =>
    rw [e] at q o2
    exact ⟨p, none, rfl, (by have := DGet.k (k := kI k) hp; rwa [show valV vs (kI k) = none from q] at this), o2⟩
  | some z =>
    rw [e] at q o2
    obtain ⟨v, ev, _⟩ := q
    exact ⟨p, some v, rfl, (by have := DGet.k (k := kI k) hp; rwa [ev] at this), o2⟩
/-! ### int(a truth value); lists or tuples -/
theorem ve_tointB {m : M Bool} (hm : X.mg "int" = none) (h : VX true X Γ e m) (hg : Gl X "int" := by rfl) (hs : starEach [e] X.env = (false, eval e X.env) :: starEach [] X.env := by rfl) : VX w X Γ (.Call (.Name "int" p) [e] [] pos) (m >>= fun b => M.ok (if b then (1 : Int) else 0)) := by
  have q := ve_tcall (w := w) (f := fun a : Bool × Unit => M.ok (if a.1 then (1 : Int) else 0)) (p := p) (pos := pos) call_int1 hg hm (by decide +kernel) (va_cons h va_nil hs) (fun a vs I H s rs Q o => by
    obtain ⟨v, rfl, r⟩ := rs.one
    cases r
    exact .inr ⟨a.1, rfl, o _ I H (.refl s) (.int _)⟩) (fun _ _ z => nomatch z) (he := hs)
  refine q.congr ?_
  cases m <;> rfl
def lsum {α : Type} : List α ⊕ Tup α → List α
  | .inl l => l
  | .inr t => t.l
theorem vt_truS {m : M (List α ⊕ Tup α)} (h : VX true X Γ e m) (he : ∀ whole, isTrue e X.env whole = (do let v ← whole; standAt e.pos; holding [v] (truthy v)) := by intro _; rfl) : VT X Γ e (m >>= fun l => M.ok (!(lsum l).isEmpty)) := fun W tk σ I H T mw Q o => by
  cases m with
  | stuck => exact o.elim
  | exc ex =>
    refine vt_truL (α := α) (m := M.exc ex) ?_ he W tk σ I H T mw Q o
    exact fun W tk σ I H T mw Q o => h W tk σ I H T mw Q o
  | ok s =>
    cases s with
    | inl l => exact vt_truL (m := M.ok l) (fun W tk σ I H T mw Q o => h W tk σ I H T mw Q o) he W tk σ I H T mw Q o
    | inr t => exact vt_truT (m := M.ok t) (fun W tk σ I H T mw Q o => h W tk σ I H T mw Q o) he W tk σ I H T mw Q o
theorem vo_listS {m : M (List α ⊕ Tup α)} (hm : X.mg "list" = none) (h : VX false X Γ e m) (hg : Gl X "list" := by rfl) (hs : starEach [e] X.env = (false, eval e X.env) :: starEach [] X.env := by rfl) : VO X Γ (.Call (.Name "list" p) [e] [] pos) ow1 (m >>= fun s => M.ok (lsum s)) := fun W tk σ I H T mw Q o => by
  cases m with
  | stuck => exact o.elim
  | exc ex => exact vo_list (α := α) (m := M.exc ex) hm (fun W tk σ I H T mw Q o => h W tk σ I H T mw Q o) hg hs W tk σ I H T mw Q o
  | ok s =>
    cases s with
    | inl l => exact vo_list (m := M.ok l) hm (fun W tk σ I H T mw Q o => h W tk σ I H T mw Q o) hg hs W tk σ I H T mw Q o
    | inr t => exact vo_listT (m := M.ok t) hm (fun W tk σ I H T mw Q o => h W tk σ I H T mw Q o) hg hs W tk σ I H T mw Q o
/-! ### methods that read -/
section
variable {n mn : Str} {k : Nat} {f : Addr} {fd : FuncData} {ps : List Str} {A ρ : Type} {ea : A → List D} {eo : ρ → O} {mp : α × A → M ρ} {ma : M A} {m : M α}
theorem vo_meth (fs : α → List (Str × D)) (MT : MethT X.K X.mg n mn f) (F : FnOk X.prog X.w X.K X.mg X.base (L2N.CX X.prog X.w) k f fd ps (spF X.K X.mg (eCons ea) eo mp)) (room : Room k X.A) (bd : Binds X.K fd ps []) (h : VX false X Γ ob m) (he : ∀ a : α, enc a = .ins n (fs a)) (hn : ∀ a, ixN mn ((fs a).map Prod.fst) = none)
    (args : VA false X Γ (e :: es) ea ma) {pl : Sem Bool}
    (hst : starEach (e :: es) X.env = (false, eval e X.env) :: starEach es X.env := by rfl) (hplain : (backTo pos (starEach es X.env)).any (·.1) = false := by rfl)
    (hcall : eval (.Call (.Attribute ob mn apos) (e :: es) [] pos) X.env = (do
      let v ← eval ob X.env
      standAt apos.atName
      let (g, fst) ← holding [v] (getMethod v mn pl)
      callWith pos g fst (backTo pos (starEach (e :: es) X.env)) (backToKw pos (keywordEach [] X.env))) := by rfl) :
    VO X Γ (.Call (.Attribute ob mn apos) (e :: es) [] pos) eo (m >>= fun a => ma >>= fun x => mp (a, x)) := fun W tk σ I H T mw Q o => by
  obtain ⟨C, hC, hcls, hM⟩ := MT.ex
  refine to_t (pe_methE (pl := pl) pe_of hcls hM F room bd (fun σ => L2N.passAt tk σ) pa_of hst hplain hcall) (h.ap tk mw o.bind (fun a _ o1 v I1 H1 g1 r1 => ?_) fun _ z => z)
  have r1 : R X.K X.mg I1 v (enc a) := r1
  have r2 := r1
  rw [he a] at r2
  obtain ⟨q, C2, dx, vs, rfl, hC2, hH, rf⟩ := r2.ins_inv
  rw [hC] at hC2; cases hC2
  refine ⟨q, dx, vs, rfl, g1.ih _ _ hH, ixN'_none (hn a) vs rf.names, ?_⟩
  refine args.ap tk (mw.gr g1) o1.bind (fun x _ o2 us I2 H2 g2 ra => ?_) fun _ z => z.gr g1
  have g := g1.trans g2
  exact ⟨I2, (a, x), g2.ih, .cons (r1.mono g2.i0) ra, o2.mono (fun r _ kk v I' H' T' wd q => kk v I' H' T' (by have := Wd.ow g (fun _ z => nomatch z) wd; simpa using this) q) fun ex _ kk cl d I' H' g' at' => kk cl d I' H' (g.trans g') at'⟩
theorem ve_meth [Enc ρ] (fs : α → List (Str × D)) (MT : MethT X.K X.mg n mn f) (F : FnOk X.prog X.w X.K X.mg X.base (L2N.CX X.prog X.w) k f fd ps (spF X.K X.mg (eCons ea) (fun r : ρ => O.imm (enc r)) mp)) (room : Room k X.A) (bd : Binds X.K fd ps []) (h : VX false X Γ ob m) (he : ∀ a : α, enc a = .ins n (fs a)) (hn : ∀ a, ixN mn ((fs a).map Prod.fst) = none)
    (args : VA false X Γ (e :: es) ea ma) {pl : Sem Bool}
    (hst : starEach (e :: es) X.env = (false, eval e X.env) :: starEach es X.env := by rfl) (hplain : (backTo pos (starEach es X.env)).any (·.1) = false := by rfl)
    (hcall : eval (.Call (.Attribute ob mn apos) (e :: es) [] pos) X.env = (do
      let v ← eval ob X.env
      standAt apos.atName
      let (g, fst) ← holding [v] (getMethod v mn pl)
      callWith pos g fst (backTo pos (starEach (e :: es) X.env)) (backToKw pos (keywordEach [] X.env))) := by rfl) :
    VX w X Γ (.Call (.Attribute ob mn apos) (e :: es) [] pos) (m >>= fun a => ma >>= fun x => mp (a, x)) := (vo_meth fs MT F room bd h he hn args (pl := pl) hst hplain hcall).ve fun r => O.toD_imm _
end
/-! ### (ob.m(..), e) -/
theorem vy_tup2 {S ρ : Type} [Enc ρ] {F : S → List SL} {eo : ρ → O} {m1 : M (ρ × S)} {m2 : S → M β} {k : Nat} (h1 : VY X Γ Γx F a eo m1) (ht : ∀ r, (eo r).toD = enc r) (h2 : ∀ s, VX false X (F s) b (m2 s)) (hs : ∀ s, Sub (F s) Γx) (hst : starEach [a, b] X.env = (false, eval a X.env) :: starEach [b] X.env := by rfl) (hst2 : starEach [b] X.env = (false, eval b X.env) :: starEach [] X.env := by rfl) :
    VY X Γ Γx F (.Tuple [a, b] k pos) (fun r : ρ × β => .imm (enc r)) (m1 >>= fun r => m2 r.2 >>= fun y => M.ok ((r.1, y), r.2)) := fun W tk I0 H0 σ I H T mt Q o => by
  refine to_t (pe_tup (pa_cons pe_of (pa_cons pe_of pa_nil hst2) hst)) (h1 W tk I0 H0 σ I H T mt _ (o.bind.mono (fun r _ o1 v I1 H1 T2 T1 wd sl q => ?_) fun _ _ z => z))
  obtain ⟨I2, w2, s2, r2⟩ := wd.freeze q
  rw [ht] at r2
  have mt2 : Mt X.K X.mg I0 H0 (F r.2) σ I2 H1 T1 := ⟨w2, sl.mono s2 fun _ _ => rfl⟩
  refine (h2 r.2).ap tk mt2.mw o1.bind (fun y _ o2 u I3 H3 g3 r3 => ?_) fun _ z => z.xo mt2 (hs _)
  refine ⟨by show 2 ≤ sizeLine; decide, fun p hp => ?_⟩
  have r3 : R X.K X.mg I3 u (enc y) := r3
  have mt3 := mt2.gr g3
  have g4 : Gr I3 H3 (upd I3 p (.tup [v, u])) (upd H3 p (.tup [v, u])) := Gr.new mt3.wd.ih hp
  have mt4 := mt3.gr g4
  refine o2 _ _ _ [] T1 mt4.wd mt4.sl (.imm (.tup (.of upd_same) (.cons ((r2.mono g3.i0).mono g4.i0) (.cons (r3.mono g4.i0) .nil))))
end
end Vc

set_option Elab.async false
set_option linter.all false
set_option maxRecDepth 100000
namespace Vc
open PySem PySem.Spec PyProof.Rows L2
open Enc (enc)
/-! ### defs with defaults; calls that leave defaults out; calls with keywords -/
section
variable {P : Program} {w : World} {K : PySem.W.Frag} {mg : Str → Option Value} {base : Heap}
theorem fn_okD {x qual : Str} {st : Stmt} {dvs : List V} {kws : List (Str × V)} {f : Addr} {fd : FuncData} {N ps : List Str} {k : Nat} {A ρ : Type} {ea : A → List D} {eo : ρ → O} {m : A → M ρ} (F : FunD K x qual (defArgs st) (defBody st) (defScope st) dvs kws f fd) (S : FnScope N ps (defScope st)) (hl : ∀ a, (ea a).length = ps.length)
    (body : ∀ (cdv : Value) (Ar : Around) (outer : List Env) (s : Shared) (H : Hp) (E : XK), Room k (Ar.deeper (envOfC qual (defScope st) s.heap.objs.size f cdv)) →
      ∀ X, X = cxOf (L2N.CX P w) P w K mg base N qual (defScope st) f cdv Ar outer s H E → ∀ a, VS X (ent N (ea a)) (anys N.length) (defBody st) (eFn eo) (m a)) :
    FnOk P w K mg base (L2N.CX P w) (k + 1) f fd ps (spF K mg ea eo m) := by
  obtain ⟨oc, od, dV, kV, doc, pm, an, cdv, ct, osl, rfl, lk, hcd, _, _⟩ := F.ex
  refine fn_of lk hcd S (fun vs H Q E h => ?_) (fun Ar outer s H vs Q E hr h => ?_)
  · obtain ⟨I, x, _, r, _⟩ := h
    rw [r.length, hl]
  · obtain ⟨I, x, hs, r, o⟩ := h
    refine ⟨_, pss_of, ?_⟩
    refine body cdv Ar outer s H E hr _ rfl x (fun cls d _ H' => E cls d H') (L2N.takes_of rfl rfl rfl rfl) I H _ I H [] (Mt.start hs r) _ ?_
    refine o.mono (fun r _ k => ?_) fun ex _ k cl d σ' I' H' T' mt a => ?_
    · exact ⟨fun Γ' σ' I' H' T' z mt => k .non I' H' [] (mt.wd.subl (List.nil_sublist _)) (by rw [show eo r = .imm .non from z]; exact .imm .non), fun _ _ _ _ _ z => z.elim, fun _ _ _ _ _ z => z.elim, fun Γ' σ' o v I' H' T2 T' z wd sl q => k v I' H' T2 (wd.subl (List.sublist_append_left _ _)) (by rw [← show o = eo r from z]; exact q)⟩
    · exact k cl d I' H' (mt.wd.subl (List.nil_sublist _)) a
end
/-- the keywords' values -/
structure nOf (X : Cx) (kws : List Keyword) (σ : L2.St) (H : Hp) (Q : List V → Hp → Prop) : Prop where
  run : ∀ (pos : Pos) pins s, Inv X pins σ H s → wpAny (model X.prog X.w) X.A (evalAll ((backToKw pos (keywordEach kws X.env)).map (·.2))) (AP X pins σ Q) X.xe s
def VN (b : Bool) (X : Cx) (Γ : List SL) (kws : List Keyword) {A : Type} (ea : A → List D) (m : M A) : Prop :=
  ∀ (W : WX), L2N.Takes X W → ∀ σ I H T, Mw X.K X.mg Γ σ I H T → ∀ Q : List V → Hp → Prop,
    Out m (fun a => ∀ vs I' H', Gr I H I' H' → Rs X.K X.mg (wsel b I' H') vs (ea a) → Q vs H') (XO X W σ I H) → nOf X kws σ H Q
theorem pn_of {X : Cx} {kws : List Keyword} : PK X kws (nOf X kws) := ⟨fun pos pins s σ H Q I h => h.run pos pins s I⟩
theorem to_n {X : Cx} {kws : List Keyword} {t : TA} {σ : L2.St} {H : Hp} {Q : List V → Hp → Prop} (p : PK X kws t) (h : t σ H Q) : nOf X kws σ H Q := ⟨fun pos pins s I => p.run pos pins s σ H Q I h⟩
section
variable {X : Cx} {Γ : List SL} {e : Expr} {es : List Expr} {kws : List Keyword} {nm : Option Str} {kpos : Pos} {pos p : Pos} {α A B A' ρ : Type} [Enc α] {w : Bool} {x : Str} {k n : Nat} {f : Addr} {fd : FuncData} {ps ks : List Str} {ea : A → List D} {eb : B → List D} {ea' : A' → List D} {ma : M A} {mb : M B} {m : A' → M ρ}
theorem vn_nil : VN w X Γ [] eNil (M.ok ()) := fun W tk σ I H T mw Q o => to_n pk_nil (o [] I H (.refl mw.ih) .nil)
theorem vn_cons {m1 : M α} {m2 : M A} (h : VX w X Γ e m1) (h2 : VN w X Γ kws ea m2) :
    VN w X Γ (⟨nm, e, kpos⟩ :: kws) (eCons ea) (m1 >>= fun x => m2 >>= fun y => M.ok (x, y)) := fun W tk σ I H T mw Q o => by
  refine to_n (pk_cons pe_of pn_of) (h.ap tk mw o.bind (fun x _ o1 v I1 H1 g1 r1 => ?_) fun _ z => z)
  refine h2 W tk σ I1 H1 T (mw.gr g1) _ (o1.bind.mono (fun y _ k vs I2 H2 g2 r2 => ?_) fun _ _ z => z.gr g1)
  exact k (v :: vs) I2 H2 (g1.trans g2) (.cons (r1.mono (wsel_same g2)) r2)
/-- f(e, ..) where defaults stand in -/
theorem vo_callD {eo : ρ → O} {dvs : List V} {dd : List D} (j : A → A') (F : FnOk X.prog X.w X.K X.mg X.base (L2N.CX X.prog X.w) k f fd ps (spF X.K X.mg ea' eo m)) (hr : Room k X.A) (hm : X.mg x = some (.ref f)) (hk : PySem.W.keepIn X.K (.ref f) = true) (hb : ∃ ds, Vals dvs ds ∧ Binds X.K fd ps ds) (hR : ∀ H, Rs X.K X.mg H dvs dd) (hj : ∀ a, ea' (j a) = ea a ++ dd) (h : VA false X Γ (e :: es) ea ma) (hg : Gl X x := by rfl)
    (hdb : (x == ("__debug__" : Str)) = false := by decide) (he : starEach (e :: es) X.env = (false, eval e X.env) :: starEach es X.env := by rfl) (hpl : (backTo pos (starEach es X.env)).any (·.1) = false := by rfl) : VO X Γ (.Call (.Name x p) (e :: es) [] pos) eo (ma >>= fun a => m (j a)) := fun W tk σ I H T mw Q o => by
  obtain ⟨ds, hd, hb⟩ := hb
  refine to_t (pe_callSD (E := WE W) F hr hg hm hk hb hd (fun σ => L2N.passAt tk σ) pa_of hdb he hpl) (h.ap tk mw o.bind (fun a _ o1 vs I1 H1 g1 r1 => ?_) fun _ z => z)
  refine ⟨I1, j a, g1.ih, ?_, o1.mono (fun r _ k v I' H' T' wd q => k v I' H' T' (by have := Wd.ow g1 (fun _ z => nomatch z) wd; simpa using this) q) fun ex _ k cl d I' H' g at' => k cl d I' H' (g1.trans g) at'⟩
  rw [hj]
  exact Rs.append r1 (hR _)
theorem ve_callD [Enc ρ] {dvs : List V} {dd : List D} (j : A → A') (F : FnOk X.prog X.w X.K X.mg X.base (L2N.CX X.prog X.w) k f fd ps (spF X.K X.mg ea' (fun r : ρ => .imm (enc r)) m)) (hr : Room k X.A) (hm : X.mg x = some (.ref f)) (hk : PySem.W.keepIn X.K (.ref f) = true) (hb : ∃ ds, Vals dvs ds ∧ Binds X.K fd ps ds) (hR : ∀ H, Rs X.K X.mg H dvs dd) (hj : ∀ a, ea' (j a) = ea a ++ dd) (h : VA false X Γ (e :: es) ea ma) (hg : Gl X x := by rfl)
    (hdb : (x == ("__debug__" : Str)) = false := by decide) (he : starEach (e :: es) X.env = (false, eval e X.env) :: starEach es X.env := by rfl) (hpl : (backTo pos (starEach es X.env)).any (·.1) = false := by rfl) : VX w X Γ (.Call (.Name x p) (e :: es) [] pos) (ma >>= fun a => m (j a)) := (vo_callD j F hr hm hk hb hR hj h hg hdb he hpl).ve fun r => O.toD_imm _
theorem run_fnNS {CX : CXT} {sp : Sp} {E : XK} {g : List Value → List Value → List Value} {gV : List V → List V → List V} {pins : List (Addr × Obj)} {σ : L2.St} {H : Hp} {s : Shared} {Q : L2.VK} {us ws : List Value} {vs zs : List V} (F : FnOk X.prog X.w X.K X.mg X.base CX k f fd ps sp) (hr : Room k X.A) (hb : KBn X.K fd ps n ks g gV) (hx : PassesAt CX X σ E)
    (I : Inv X pins σ H s) (r : Vals vs us) (rz : Vals zs ws) (l1 : vs.length = n) (l2 : zs.length = ks.length) (h : sp (gV vs zs) H Q E) : wpAny (model X.prog X.w) X.A (call (.ref f) us (ks.zip ws)) (EP X pins σ Q) X.xe s := by
  have r2 := hb.rel r rz
  refine wpAny_call (codeAny_mono (F.run X.A X.stack s H ⟨us, ks.zip ws⟩ (g us ws) (gV vs zs) Q E hr I.env0 (hb.to s us ws I.kIn (r.length.symm.trans l1) (rz.length.symm.trans l2)) r2 h) fun r s' hq => ?_)
  cases r with
  | error e => exact hx pins H s e s' I hq
  | ok fl =>
    cases fl with
    | ret u => exact I.after hq
    | next => exact False.elim hq
    | brk => exact False.elim hq
    | cont => exact False.elim hq
def tCallNS (n m : Nat) (sp : Sp) (gV : List V → List V → List V) (E : L2.St → XK) (t tk : TA) : TE := fun σ H Q => t σ H fun vs H1 => tk σ H1 fun zs H2 => vs.length = n ∧ zs.length = m ∧ sp (gV vs zs) H2 Q (E σ)
theorem pe_callNS {CX : CXT} {sp : Sp} {E : L2.St → XK} {t tk : TA} {g : List Value → List Value → List Value} {gV : List V → List V → List V} (F : FnOk X.prog X.w X.K X.mg X.base CX k f fd ps sp) (hr : Room k X.A) (hg : Gl X x) (hm : X.mg x = some (.ref f)) (hk : PySem.W.keepIn X.K (.ref f) = true) (hb : KBn X.K fd ps n ks g gV) (hx : ∀ σ, PassesAt CX X σ (E σ))
    (ha : PA X (e :: es) t) (hkw : PK X kws tk) (hall : (backToKw pos (keywordEach kws X.env)).all (·.1.isSome) = true) (hks : (backToKw pos (keywordEach kws X.env)).filterMap (·.1) = ks)
    (hdb : (x == ("__debug__" : Str)) = false) (he : starEach (e :: es) X.env = (false, eval e X.env) :: starEach es X.env)
    (hpl : ((backTo pos (starEach (e :: es) X.env)).any (·.1) || (backToKw pos (keywordEach kws X.env)).any (·.1.isNone)) = false) :
    PE X (.Call (.Name x p) (e :: es) kws pos) (tCallNS n ks.length sp gV E t tk) := by
  refine ⟨fun pins s σ H Q I h => ?_⟩
  refine wpAny_Call_Name_kw (ld_glob I hg hm ?_ hdb)
  refine PySem.W.callWith_KW (h₀ := X.base) I.ok.mod.kin hk hall (thn (ha.run pos pins s σ H _ I h) fun us s1 ⟨vs, H1, I1, r, q⟩ => ?_) hpl he
  refine thn (hkw.run pos pins s1 σ H1 _ I1 q) fun ws s2 ⟨zs, H2, I2, rz, l1, l2, q2⟩ => ⟨I2.kIn, ?_⟩
  rw [hks]
  exact run_fnNS F hr hb (hx σ) I2 r rz l1 l2 q2
/-- f(e, .., k = v, ..) -/
theorem vo_callN {eo : ρ → O} {g : List Value → List Value → List Value} {gV : List V → List V → List V} (j : A → B → A') (F : FnOk X.prog X.w X.K X.mg X.base (L2N.CX X.prog X.w) k f fd ps (spF X.K X.mg ea' eo m)) (hr : Room k X.A) (hm : X.mg x = some (.ref f)) (hk : PySem.W.keepIn X.K (.ref f) = true) (hb : ∃ _ : List Value, KBn X.K fd ps n ks g gV) (hn : ∀ a, (ea a).length = n) (hz : ∀ b, (eb b).length = ks.length) (hj : ∀ H vs zs a b, Rs X.K X.mg H vs (ea a) → Rs X.K X.mg H zs (eb b) → Rs X.K X.mg H (gV vs zs) (ea' (j a b))) (h : VA false X Γ (e :: es) ea ma) (h2 : VN false X Γ kws eb mb) (hall : (backToKw pos (keywordEach kws X.env)).all (·.1.isSome) = true := by rfl) (hks : (backToKw pos (keywordEach kws X.env)).filterMap (·.1) = ks := by rfl) (hg : Gl X x := by rfl)
    (hdb : (x == ("__debug__" : Str)) = false := by decide) (he : starEach (e :: es) X.env = (false, eval e X.env) :: starEach es X.env := by rfl) (hpl : ((backTo pos (starEach (e :: es) X.env)).any (·.1) || (backToKw pos (keywordEach kws X.env)).any (·.1.isNone)) = false := by rfl) : VO X Γ (.Call (.Name x p) (e :: es) kws pos) eo (ma >>= fun a => mb >>= fun b => m (j a b)) := fun W tk σ I H T mw Q o => by
  obtain ⟨_, hb⟩ := hb
  refine to_t (pe_callNS (E := WE W) F hr hg hm hk hb (fun σ => L2N.passAt tk σ) pa_of pn_of hall hks hdb he hpl) (h.ap tk mw o.bind (fun a _ o1 vs I1 H1 g1 r1 => ?_) fun _ z => z)
  refine h2 W tk σ I1 H1 T (mw.gr g1) _ (o1.bind.mono (fun b _ o2 zs I2 H2 g2 r2 => ?_) fun _ _ z => z.gr g1)
  refine ⟨by rw [Rs.length r1, hn], by rw [Rs.length r2, hz], I2, j a b, (g1.trans g2).ih, hj _ _ _ _ _ (r1.mono g2.i0) r2, o2.mono (fun r _ k v I' H' T' wd q => k v I' H' T' (by have := Wd.ow (g1.trans g2) (fun _ z => nomatch z) wd; simpa using this) q) fun ex _ k cl d I' H' g at' => k cl d I' H' ((g1.trans g2).trans g) at'⟩
theorem ve_callN [Enc ρ] {g : List Value → List Value → List Value} {gV : List V → List V → List V} (j : A → B → A') (F : FnOk X.prog X.w X.K X.mg X.base (L2N.CX X.prog X.w) k f fd ps (spF X.K X.mg ea' (fun r : ρ => .imm (enc r)) m)) (hr : Room k X.A) (hm : X.mg x = some (.ref f)) (hk : PySem.W.keepIn X.K (.ref f) = true) (hb : ∃ _ : List Value, KBn X.K fd ps n ks g gV) (hn : ∀ a, (ea a).length = n) (hz : ∀ b, (eb b).length = ks.length) (hj : ∀ H vs zs a b, Rs X.K X.mg H vs (ea a) → Rs X.K X.mg H zs (eb b) → Rs X.K X.mg H (gV vs zs) (ea' (j a b))) (h : VA false X Γ (e :: es) ea ma) (h2 : VN false X Γ kws eb mb) (hall : (backToKw pos (keywordEach kws X.env)).all (·.1.isSome) = true := by rfl) (hks : (backToKw pos (keywordEach kws X.env)).filterMap (·.1) = ks := by rfl) (hg : Gl X x := by rfl)
    (hdb : (x == ("__debug__" : Str)) = false := by decide) (he : starEach (e :: es) X.env = (false, eval e X.env) :: starEach es X.env := by rfl) (hpl : ((backTo pos (starEach (e :: es) X.env)).any (·.1) || (backToKw pos (keywordEach kws X.env)).any (·.1.isNone)) = false := by rfl) : VX w X Γ (.Call (.Name x p) (e :: es) kws pos) (ma >>= fun a => mb >>= fun b => m (j a b)) := (vo_callN j F hr hm hk hb hn hz hj h h2 hall hks hg hdb he hpl).ve fun r => O.toD_imm _
end
end Vc

set_option Elab.async false
set_option linter.all false
set_option maxRecDepth 100000
namespace Vc
open PySem PySem.Spec PyProof.Rows L2
open Enc (enc)
/-- a def with keyword-only defaults kws and no others -/
structure DefAtK (K : PySem.W.Frag) (mg : Str → Option Value) (x : Str) (st : Stmt) (kws : List (Str × V)) (f : Addr) (fd : FuncData) : Prop where
  F : FunD K x x (defArgs st) (defBody st) (defScope st) [] kws f fd
  g : mg x = some (.ref f)
theorem def_mkK {K : PySem.W.Frag} {h : Heap} {mg : Str → Option Value} {x : Str} {st : Stmt} {kws : List (Str × V)} {f : Addr} {oc : Value} {od an : Option Addr} {osl : Array (Option Value)} {kV doc pm cdv ct : Value} (X : K.In h) (G : h.Ns mainGlobals mg)
    (a : PySem.W.nsIn K mainGlobals x = some (some (.ref f))) (l : K.lookup f = some ⟨oc, od, .func (PySem.W.fnOf x x (defArgs st) (defBody st) (defScope st) .none kV doc pm an cdv ct), osl⟩) (c : PySem.W.codeIn K cdv x = true) (k : PySem.W.keepIn K (.ref f) = true) (kw : He.kwdB K kV kws = true) :
    DefAtK K mg x st kws f (PySem.W.fnOf x x (defArgs st) (defBody st) (defScope st) .none kV doc pm an cdv ct) :=
  ⟨⟨⟨oc, od, .none, kV, doc, pm, an, cdv, ct, osl, rfl, l, c, .inl ⟨rfl, rfl⟩, He.kwdB_ok kw⟩, k⟩, PySem.W.mg_of X G a⟩
end Vc

set_option Elab.async false
set_option linter.all false
set_option maxRecDepth 100000
namespace Vc
open PySem PySem.Spec PyProof.Rows L2
open Enc (enc)
/-! ### x in (..), data of any depth -/
theorem u65 {k : Nat} {A : Around} (r : Room k A) : A.units + 65 < cLine := by have := r.un; omega
@[reducible] def memDec {α : Type} [DecidableEq α] (a : α) (l : List α) : Decidable (a ∈ l) := inferInstance
instance {α β : Type} [DecidableEq α] [DecidableEq β] (x : α ⊕ β) (l : List (α ⊕ β)) : Decidable (x ∈ l) := memDec x l
section
variable {X : Cx}
def rInT (K : PySem.W.Frag) : R2 := fun x y H Q => ∃ d ds, Dp K H x d ∧ Dp K H y (.tuple ds) ∧ SeqAt.shaped d = true ∧ SeqAt.shaped (.tuple ds) = true ∧ Q (.bl (ds.any fun z => PyData.eqv z d)) H
def rNotInT (K : PySem.W.Frag) : R2 := fun x y H Q => ∃ d ds, Dp K H x d ∧ Dp K H y (.tuple ds) ∧ SeqAt.shaped d = true ∧ SeqAt.shaped (.tuple ds) = true ∧ Q (.bl (!ds.any fun z => PyData.eqv z d)) H
theorem op_inTD (hu : X.A.units + 65 < cLine) : OpR X (compareOp .In) (rInT X.K) := by
  intro pins s σ H x y v u Q I rx ry h
  obtain ⟨d, ds, hd, he, sd, se, q⟩ := h
  obtain ⟨as, r1⟩ := Dp.reads I d x v hd rx
  obtain ⟨bs, r2⟩ := Dp.reads I (.tuple ds) y u he ry
  exact SeqAt.in_tuple_reads r2 r1 (SeqAt.canLay_of_shaped se) (SeqAt.canLay_of_shaped sd) (room_in_shaped sd hu) ⟨.bl _, H, I, rfl, q⟩
theorem op_notInTD (hu : X.A.units + 65 < cLine) : OpR X (compareOp .NotIn) (rNotInT X.K) := by
  intro pins s σ H x y v u Q I rx ry h
  obtain ⟨d, ds, hd, he, sd, se, q⟩ := h
  obtain ⟨as, r1⟩ := Dp.reads I d x v hd rx
  obtain ⟨bs, r2⟩ := Dp.reads I (.tuple ds) y u he ry
  exact SeqAt.notIn_tuple_reads r2 r1 (SeqAt.canLay_of_shaped se) (SeqAt.canLay_of_shaped sd) (room_in_shaped sd hu) ⟨.bl _, H, I, rfl, q⟩
end
section
variable {X : Cx} {Γ Γx : List SL} {a b : Expr} {pos p : Pos} {α : Type} [Enc α] {w : Bool}
theorem any_py [DecidableEq α] [V : Eqv α] (x : α) : ∀ l : List α, ((l.map V.py).any fun z => PyData.eqv z (V.py x)) = decide (x ∈ l)
  | [] => rfl
  | y :: l => by
    rw [List.map_cons, List.any_cons, any_py x l, V.eqv]
    by_cases h : x = y
    · subst h; simp
    · have h' : ¬ y = x := fun z => h z.symm
      simp [h, h']
theorem in_read [DecidableEq α] [V : Eqv α] [LayT α] (hd : V.dep + 1 ≤ 64) {K : PySem.W.Frag} {mg : Str → Option Value} {x : α} {y : Tup α} {H : Hp} {v u : L2.V} (r1 : R K mg H v (enc x)) (r2 : R K mg H u (enc y)) : Dp K H v (V.py x) ∧ Dp K H u (.tuple (y.l.map V.py)) ∧ SeqAt.shaped (V.py x) = true ∧ SeqAt.shaped (.tuple (y.l.map V.py)) = true := by
  obtain ⟨h1, _, h3, _⟩ := eq_read (show V.dep ≤ 64 by omega) (LayT.lt x) (LayT.lt x) r1 r1
  obtain ⟨_, h2, _, h4⟩ := eq_read (α := Tup α) (V := inferInstance) (show V.dep + 1 ≤ 64 from hd) (LayT.lt y) (LayT.lt y) r2 r2
  exact ⟨h1, h2, h3, h4⟩
theorem ve_inTD [DecidableEq α] [V : Eqv α] [LayT α] {m1 : M α} {m2 : M (Tup α)} (hu : X.A.units + 65 < cLine) (ha : VX true X Γ a m1) (hb : VX true X Γ b m2) (hm : behindInMarks .In b = false := by rfl) (hd : V.dep + 1 ≤ 64 := by decide) : VX w X Γ (.Compare a [.In] [b] pos) (m1 >>= fun x => m2 >>= fun l => M.ok (decide (x ∈ l.l))) := ve_cmp (op_inTD hu) ha hb hm (fun x l H v u r1 r2 Q o => by
  obtain ⟨h1, h2, h3, h4⟩ := in_read hd r1 r2
  exact ⟨_, _, h1, h2, h3, h4, by rw [any_py]; exact o⟩) fun _ _ _ z => nomatch z
theorem ve_inNTD [DecidableEq α] [V : Eqv α] [LayT α] {m1 : M α} {m2 : M (Tup α)} (hu : X.A.units + 65 < cLine) (ha : VX true X Γ a m1) (hb : VX true X Γ b m2) (hm : behindInMarks .NotIn b = false := by rfl) (hd : V.dep + 1 ≤ 64 := by decide) : VX w X Γ (.Compare a [.NotIn] [b] pos) (m1 >>= fun x => m2 >>= fun l => M.ok (!decide (x ∈ l.l))) := ve_cmp (op_notInTD hu) ha hb hm (fun x l H v u r1 r2 Q o => by
  obtain ⟨h1, h2, h3, h4⟩ := in_read hd r1 r2
  exact ⟨_, _, h1, h2, h3, h4, by rw [any_py]; exact o⟩) fun _ _ _ z => nomatch z
theorem vt_inTD [DecidableEq α] [V : Eqv α] [LayT α] {m1 : M α} {m2 : M (Tup α)} (hu : X.A.units + 65 < cLine) (ha : VX true X Γ a m1) (hb : VX true X Γ b m2) (hm : behindInMarks .In b = false := by rfl) (hd : V.dep + 1 ≤ 64 := by decide) : VT X Γ (.Compare a [.In] [b] pos) (m1 >>= fun x => m2 >>= fun l => M.ok (decide (x ∈ l.l))) := vt_cmp (op_inTD hu) ha hb hm (fun x l H v u r1 r2 Q o => by
  obtain ⟨h1, h2, h3, h4⟩ := in_read hd r1 r2
  exact ⟨_, _, h1, h2, h3, h4, by rw [any_py]; exact o⟩) fun _ _ _ z => nomatch z
theorem vt_inNTD [DecidableEq α] [V : Eqv α] [LayT α] {m1 : M α} {m2 : M (Tup α)} (hu : X.A.units + 65 < cLine) (ha : VX true X Γ a m1) (hb : VX true X Γ b m2) (hm : behindInMarks .NotIn b = false := by rfl) (hd : V.dep + 1 ≤ 64 := by decide) : VT X Γ (.Compare a [.NotIn] [b] pos) (m1 >>= fun x => m2 >>= fun l => M.ok (!decide (x ∈ l.l))) := vt_cmp (op_notInTD hu) ha hb hm (fun x l H v u r1 r2 Q o => by
  obtain ⟨h1, h2, h3, h4⟩ := in_read hd r1 r2
  exact ⟨_, _, h1, h2, h3, h4, by rw [any_py]; exact o⟩) fun _ _ _ z => nomatch z
end
end Vc

set_option Elab.async false
set_option linter.all false
set_option maxRecDepth 100000
set_option maxHeartbeats 1000000
namespace Vc
open PySem PySem.Spec PyProof.Rows PySem.Calls
/-- super().__init__(f'lit{prm}'), then self.fld = prm -/
def supBody (lit prm fld : Str) (j : Nat) (p0 p1 p2 p3 p4 pc pn pf jp q1 q2 q3 q4 : Pos) : List Stmt :=
  [.Expr (.Call (.Attribute (.Call (.Name "super" p0) [] [] p1) "__init__" p2) [.JoinedStr [.Constant (.str lit) j pc, .FormattedValue (.Name prm pn) (-1) none pf] jp] [] p3) p4,
   .Assign [.Attribute (.Name "self" q1) fld q2] (.Name prm q3) q4]
theorem mw_call {prog : Program} {w : World} {A : Around} {E : Value → Shared → Prop} {h : Heap} {g : Array GenState} {d : Drawn} {tk : Nat} {os : OsState} {C u e t0 : Addr} {rest : List Value} {nm q : Str} {N : Addr} {bs bm : List Value} {sn : List Str} {sub : List Value} {ab : Bool} {col : Option Bool} {dd : Option Addr} {k0 k1 k2 k3 k5 : Option Value} {Q : Value → Shared → Prop}
    (hC : h.get? C = some (excClassObj nm q C N bs bm true sn sub ab col dd k0 k1 k2 k3 k5 "ValueError.__new__")) (he : h.get? e = some (PySem.HandSPX.excO C t0)) (hu : h.get? u = some (PySem.W.kxs_mw "ValueError.__init__" e)) (hz : rest.length ≤ sizeLine)
    (hq : ∀ h' t1, (∀ b o, b ≠ e → h.get? b = some o → h'.get? b = some o) → h'.get? e = some (PySem.HandSPX.excO C t1) → Q .none ⟨h', g, d, tk, os⟩) :
    wpAny (model prog w) A (call (.ref u) rest) Q E ⟨h, g, d, tk, os⟩ := by
  refine wpAny_call (codeAny_of_tree ?_)
  show wpAny _ A.in1 (callAny (.ref u) ⟨rest, []⟩) _ _ _
  simp only [callAny]
  refine wpAny_bind (wpAny_load hu ?_)
  simp only [PySem.W.kxs_mw, show (Value.type "method-wrapper" == Value.type "method" || Value.type "method-wrapper" == Value.type "builtin_function_or_method" || Value.type "method-wrapper" == Value.type "method-wrapper") = true by decide, if_true]
  refine PySem.W.KFB.if_so (by decide) ?_
  refine wpAny_bind (PySem.W.check_bound_init F.excBase_ValueError.toExcCallFacts hC he rfl ?_)
  refine wpAny_bind (wpAny_pure (wpAny_pure ?_))
  refine ⟨plainId_quiet F.excBase_ValueError.init.plain _, codeAny_builtin F.excBase_ValueError.initEntry ?_⟩
  exact PySem.W.exc_init_tree (cls := .ref C) (t0 := t0) (dv := none) (c2 := .none) (c3 := .none) (b4 := .bool false) he hz (fun h' k e1 _ => hq h' _ k e1)
abbrev supScope (nms : List (Str × NameKind)) : Scope := { kind := .function, names := nms, isGenerator := false, isCoroutine := false, more := [] }
theorem sup_init {prog : Program} {w : World} {A : Around} {R : Result → Shared → Prop} {h : Heap} {g : Array GenState} {d : Drawn} {tk : Nat} {os : OsState} {K : PySem.W.Frag} {C fI cda cc e t0 : Addr} {mg mb : Str → Option Value}
    {params : Arguments} {nms : List (Str × NameKind)} {qual prm fld lit : Str} {j : Nat} {p0 p1 p2 p3 p4 pc pn pf jp q1 q2 q3 q4 : Pos} {dV kV doc pm ct oc : Value} {an od : Option Addr} {osl : Array (Option Value)} {ar : Arg} {vs : Array Value} {file : Str} {tf : Tok} {ccl cl : Value} {cdd cld : Option Addr} {ccs csl : Array (Option Value)}
    {nm q : Str} {N : Addr} {bs bm : List Value} {sn : List Str} {sub : List Value} {ab : Bool} {col : Option Bool} {dd : Option Addr} {k0 k1 k2 k3 k5 : Option Value} {i : Int} {ti : Tok}
    (X : K.In h) (hroom : A.depth < recursionLimit) (nl : h.NoLimit) (hG : h.Ns mainGlobals mg) (hms : mg "super" = none) (hB : h.Ns builtinsNs mb) (hmb : mb "super" = some (.type "super"))
    (ho : K.lookup fI = some ⟨oc, od, .func (PySem.W.ksFn "__init__" qual params (supBody lit prm fld j p0 p1 p2 p3 p4 pc pn pf jp q1 q2 q3 q4) (supScope nms) dV kV doc pm an (.ref cda) ct cc), osl⟩) (hcd : PySem.W.codeIn K (.ref cda) qual = true)
    (hbind : ∀ us : List Value, us.length = 2 → bindArgs (PySem.W.ksFn "__init__" qual params (supBody lit prm fld j p0 p1 p2 p3 p4 pc pn pf jp q1 q2 q3 q4) (supScope nms) dV kV doc pm an (.ref cda) ct cc) ⟨us, []⟩ = pure ((["self", prm] : List Str).zip us))
    (hp : (params.posonlyargs ++ params.args).head? = some ar) (har : ar.arg = "self") (hcode : K.lookup cda = some ⟨ccl, cdd, .fields vs, ccs⟩) (hvs : vs[2]? = some (.str file tf)) (hfile : ((prog.main.file : Str) == file) = true) (htop : (prog.main.scope.names.lookup ("super" : Str)).isSome = false)
    (hcell : K.lookup cc = some ⟨cl, cld, .cell (some (.ref C)), csl⟩)
    (hks : nms.lookup ("super" : Str) = some .globalImplicit) (hkc : nms.lookup ("__class__" : Str) = some .free) (hka : nms.lookup ("self" : Str) = some .local) (hkp : nms.lookup prm = some .local) (hcn : ∀ x ∈ nms, x.2 ≠ .cell)
    (hec : ∀ env : Env, ∃ pl : Sem Bool, eval (.Call (.Attribute (.Call (.Name "super" p0) [] [] p1) "__init__" p2) [.JoinedStr [.Constant (.str lit) j pc, .FormattedValue (.Name prm pn) (-1) none pf] jp] [] p3) env = (do
        let ov ← attributeBase (.Call (.Name "super" p0) [] [] p1) "__init__" env (eval (.Call (.Name "super" p0) [] [] p1) env)
        standAt p2.atName
        let (f, first) ← holding [ov] (getMethod ov "__init__" pl)
        callWith p3 f first (backTo p3 (starEach [.JoinedStr [.Constant (.str lit) j pc, .FormattedValue (.Name prm pn) (-1) none pf] jp] env)) []))
    (hps : prm ≠ "self") (hpd : (prm == ("__debug__" : Str)) = false) (hlit : lit.length ≤ 1000)
    (hC : K.lookup C = some (excClassObj nm q C N bs bm true sn sub ab col dd k0 k1 k2 k3 k5 "ValueError.__new__")) (hbm : PySem.HandSPX.refsVE bm = true)
    (hm : PySem.W.alongIn K "__init__" bm = some (some (.builtin "ValueError.__init__"))) (hno3 : PySem.W.nsIn K cStatics "thirdparty.any" = some none)
    (sa : PySem.W.findIn K (.ref C) "__setattr__" = some (some (.builtin "object.__setattr__"))) (hno : PySem.W.findIn K (.ref C) fld = some none)
    (he : h.get? e = some (PySem.HandSPX.excO C t0)) (hi : i.natAbs.log2 < 1920)
    (hKe : ∀ o, K.lookup e ≠ some o)
    (hq : ∀ h' dx t1 tk', (∀ b o, b ≠ e → h.get? b = some o → h'.get? b = some o) → h.objs.size ≤ dx → dx ≠ e → h'.get? e = some ({ cls := .ref C, dict := some dx, data := .fields #[.ref t1, .none, .none, .none, .bool false, .none] } : Obj) →
      h'.Ns1 dx (fun y => if y = fld then some (.int i ti) else none) → R (.ok (.ret .none)) ⟨h', g, d, tk', os⟩) :
    codeAny (model prog w) A (.call (.ref fI) ⟨[.ref e, .int i ti], []⟩) R ⟨h, g, d, tk, os⟩ := by
  have hcl : PySem.W.clsIn K C = some { name := nm, bases := bs, mro := .ref C :: bm, ns := N, qualname := q, hasDict := true, slotNames := sn, subclasses := sub, abstract := ab, collection := col, hasDel := false } := by unfold PySem.W.clsIn; rw [hC] <;> rfl
  have hloc : ∀ x ∈ (["self", prm] : List Str).zip [Value.ref e, Value.int i ti], nms.lookup x.1 = some .local := by
    intro x hx
    simp only [List.zip_cons_cons, List.zip_nil_right, List.mem_cons, List.not_mem_nil, or_false] at hx
    rcases hx with rfl | rfl
    · exact hka
    · exact hkp
  refine PySem.ks_codeAny_call_defAt (binds := (["self", prm] : List Str).zip [Value.ref e, Value.int i ti]) hroom (X _ _ ho) rfl nl (PySem.W.codeRec_of X hcd) rfl (BindsTo.of_eq (hbind _ rfl)) hcn hloc (fun h₁ hns hk₁ => ?_)
  have X1 : K.In h₁ := fun b o z => hk₁ b o (X b o z)
  have he1 : h₁.get? e = some (PySem.HandSPX.excO C t0) := hk₁ _ _ he
  have hvself : ((["self", prm] : List Str).zip [Value.ref e, Value.int i ti]).reverse.lookup ("self" : Str) = some (.ref e) := by
    have e1 : ((["self", prm] : List Str).zip [Value.ref e, Value.int i ti]).reverse = [(prm, Value.int i ti), (("self" : Str), Value.ref e)] := rfl
    rw [e1, List.lookup_cons]
    have e2 : (("self" : Str) == prm) = false := by simpa using (Ne.symm hps)
    rw [e2]
    rfl
  have hvprm : ((["self", prm] : List Str).zip [Value.ref e, Value.int i ti]).reverse.lookup prm = some (.int i ti) := by
    have e1 : ((["self", prm] : List Str).zip [Value.ref e, Value.int i ti]).reverse = [(prm, Value.int i ti), (("self" : Str), Value.ref e)] := rfl
    rw [e1, List.lookup_cons]
    simp
  generalize hmd : (fun x => ((["self", prm] : List Str).zip [Value.ref e, Value.int i ti]).reverse.lookup x) = m at hns
  have hvself' : m ("self" : Str) = some (.ref e) := by rw [← hmd]; exact hvself
  have hvprm' : m prm = some (.int i ti) := by rw [← hmd]; exact hvprm
  show PySem.wpAt _ _ _ (execs (supBody lit prm fld j p0 p1 p2 p3 p4 pc pn pf jp q1 q2 q3 q4) _) _ _ _
  unfold supBody
  refine PySem.ks_wpAt_execs_cons ?_
  refine PySem.ks_wpAt_Expr_any ?_
  obtain ⟨pl, hec⟩ := hec (callEnv (PySem.W.ksFn "__init__" qual params (supBody lit prm fld j p0 p1 p2 p3 p4 pc pn pf jp q1 q2 q3 q4) (supScope nms) dV kV doc pm an (.ref cda) ct cc) h.objs.size fI)
  refine PySem.ks_wpAt_MethodCall ?_ hec
  refine PySem.ks_wpAt_super_base (of := _) (f := fI) (cc := cda) hks hkc rfl rfl (X1 _ _ ho) rfl hp rfl (X1 _ _ hcode) rfl hvs hfile htop ?_
  obtain ⟨oD, hD1, hD2⟩ : ∃ oD, h₁.get? C = some oD ∧ oD.data = .cls { name := nm, bases := bs, mro := .ref C :: bm, ns := N, qualname := q, hasDict := true, slotNames := sn, subclasses := sub, abstract := ab, collection := col, hasDel := false } := ⟨_, X1 _ _ hC, rfl⟩
  refine PySem.W.ks_loadName_global rfl hks (loadGlobal_builtin (hG.keeps hk₁) hms (hB.keeps hk₁) hmb ⟨rfl, ?_⟩)
  refine wpAny_loadName_free rfl hkc rfl ⟨_, X1 _ _ hcell, rfl⟩ ?_
  rw [har]
  refine wpAny_loadName_local rfl hka hns hvself' ?_
  refine PySem.ks_wpAny_isType_cls hD1 hD2 ⟨rfl, ?_⟩
  refine PySem.ks_wpAny_call_super hD1 hD2 he1 rfl (fun c z => by cases z) (PySem.W.looks_mroIn X1 (by unfold PySem.W.mroIn; rw [hcl, Option.bind_some, if_neg (by simp)]; simp)) (fun h2 e2 k2 => ?_)
  have X2 : K.In h2 := fun b o z => k2 b o (X1 b o z)
  have he2 : h2.get? e = some (PySem.HandSPX.excO C t0) := k2 _ _ he1
  have I2 : PySem.W.InstAt h2 e (PySem.HandSPX.excO C t0) C none := ⟨he2, rfl, rfl, trivial⟩
  have hVE : (Value.ref C :: bm).contains (.type "ValueError") = true := by rw [List.contains_cons, PySem.HandSPX.refsVE_contains "ValueError" _ hbm]; simp
  have hI2 : PySem.W.Looks (model prog w) h2 (isInstance (.ref e) (.type "ValueError")) true := I2.type.andThen (PySem.W.looks_mroIn X2 (by unfold PySem.W.mroIn; rw [hcl, Option.bind_some, if_neg (by simp), hVE]))
  refine PySem.W.kxs_getMethod PySem.W.kxs_ValueError (l₀ := .ref C :: bm) (K := K) e2 (PySem.W.looks_opaque X2 hno3) ((PySem.W.looks_clsIn X2 hcl).andThen .now) rfl X2 (by simpa [List.dropWhile] using hm) hI2 (PySem.W.ks_ne X2 I2 hcl) rfl ?_
  have hu3 : (h2.push (PySem.W.kxs_mw "ValueError.__init__" e)).get? h2.objs.size = some (PySem.W.kxs_mw "ValueError.__init__" e) := Heap.get?_push_at rfl rfl
  have k3 : ∀ b o, h2.get? b = some o → (h2.push (PySem.W.kxs_mw "ValueError.__init__" e)).get? b = some o := fun b o z => Heap.get?_push_of_some _ z
  generalize h2.push (PySem.W.kxs_mw "ValueError.__init__" e) = h3 at hu3 k3
  refine PySem.W.kxs_callWith (i := "ValueError.__init__") (x := e) rfl (evalArgs_plain ?_)
  refine spliced_cons ?_
  refine wpAny_JoinedStr (pos := jp) ?_
  refine wpAny_mono (Constant_str (k := j) (pos := pc) (Q := fun v s₁ => ∃ t, v = .str lit t ∧ ∃ tk1, s₁ = ⟨h3, g, d, tk1, os⟩) ⟨_, rfl, _, rfl⟩) (fun v s₁ hv => ?_) fun _ _ z => z
  obtain ⟨t', rfl, tk1, rfl⟩ := hv
  have hl0 : (Str.empty ++ lit).length = lit.length := by rw [strLen_append]; exact Nat.zero_add _
  have hl1 : (Str.ofString (toString i)).length ≤ 1921 := by rw [PySem.ofString_length]; exact int_text_length_le (by decide) hi
  refine ⟨lit, t', rfl, by rw [hl0, sizeLine_eq]; omega, ?_⟩
  refine wpAny_mono (Q := fun v s₁ => ∃ t, v = .str (Str.ofString (toString i)) t ∧ ∃ tk1, s₁ = ⟨h3, g, d, tk1, os⟩) (wpAny_FormattedValue_plain (value := .Name prm pn) (pos := pf) (wpAny_Name (pos := pn) (wpAny_loadName_local rfl hkp ?_ hvprm' (wpAny_formatField_int hi ⟨_, rfl, _, rfl⟩)) hpd)) (fun v s₁ hv => ?_) fun _ _ z => z
  · exact hns.at fun o z => k3 _ o (k2 _ o z)
  obtain ⟨t'', rfl, tk2, rfl⟩ := hv
  have hl2 : (Str.empty ++ lit ++ Str.ofString (toString i)).length ≤ sizeLine := by rw [strLen_append, hl0, sizeLine_eq]; omega
  refine ⟨_, t'', rfl, hl2, hl2, ?_⟩
  refine spliced_nil ?_
  refine ⟨hu3, ?_⟩
  refine mw_call (X1 _ _ hC |> k2 _ _ |> k3 _ _) (k3 _ _ he2) hu3 (by show 1 ≤ sizeLine; rw [sizeLine_eq]; omega) (fun h4 t1 k4 e4 => ?_)
  have hne : ∀ {b : Addr} {o : Obj}, b ≠ e → h.get? b = some o → h4.get? b = some o := fun {b o} hb z => k4 b o hb (k3 _ _ (k2 _ _ (hk₁ _ _ z)))
  have hCe : C ≠ e := fun z => PySem.W.ks_ne X2 I2 hcl z.symm
  have X4 : K.In h4 := fun b o z => by
    refine k4 b o (fun y => ?_) (k3 _ _ (X2 b o z))
    subst y
    exact hKe _ z
  have hLe : h.objs.size ≠ e := Nat.ne_of_gt (Heap.lt_size he)
  have hns4 : h4.Ns h.objs.size m := hns.at fun o z => k4 _ o hLe (k3 _ o (k2 _ o z))
  show PySem.wpAt _ _ _ (execs [.Assign [.Attribute (.Name "self" q1) fld q2] (.Name prm q3) q4] _) _ _ _
  refine PySem.ks_wpAt_execs_cons (wpAt_of_wpAny ?_)
  refine plainObj_wpAny_Assign_Attribute ?_
  refine wpAny_Name (wpAny_loadName_local rfl hkp hns4 hvprm' ?_) hpd
  refine wpAny_Name (wpAny_loadName_local rfl hka hns4 hvself' ?_)
  refine PySem.W.set_plain X4 (ox := { cls := .ref C, dict := none, data := .fields #[.ref t1, .none, .none, .none, .bool false, .none] }) (od := none) ⟨e4, rfl, rfl, trivial⟩ sa ?_
  refine PySem.HandSPX.exc_osa X4 e4 hcl (show PySem.HandSPX.refsVE (.ref C :: bm) = true from hbm) rfl hno (fun h5 tk5 dx k5 dn dne hx hn => ?_)
  refine wpAt_of_wpAny (wpAny_execs_nil ?_)
  refine hq h5 dx t1 tk5 (fun b o hb z => k5 b o hb (hne hb z)) ?_ dne hx hn
  obtain ⟨o4, _, _, ho4, _⟩ := hns4
  exact Nat.le_trans (Nat.le_of_lt (Heap.lt_size ho4)) dn
end Vc

set_option Elab.async false
set_option linter.all false
set_option maxRecDepth 100000
set_option maxHeartbeats 1000000
namespace Vc
open PySem PySem.Spec PyProof.Rows L2
open Enc (enc)
/-- C's own __init__ (at fI) makes the text, then sets the field -/
structure SupT (P : Program) (K : PySem.W.Frag) (C fI : Addr) (fld : Str) : Prop where
  run : ∀ (w : World) (A : Around) (R : Result → Shared → Prop) (h : Heap) (g : Array GenState) (d : Drawn) (tk : Nat) (os : OsState) (e t0 : Addr) (mg mb : Str → Option Value) (i : Int) (ti : Tok),
    K.In h → A.depth < recursionLimit → h.NoLimit → h.Ns mainGlobals mg → mg "super" = none → h.Ns builtinsNs mb → mb "super" = some (.type "super") → h.get? e = some (PySem.HandSPX.excO C t0) → i.natAbs.log2 < 1920 → (∀ o, K.lookup e ≠ some o) →
    (∀ h' dx t1 tk', (∀ b o, b ≠ e → h.get? b = some o → h'.get? b = some o) → h.objs.size ≤ dx → dx ≠ e → h'.get? e = some ({ cls := .ref C, dict := some dx, data := .fields #[.ref t1, .none, .none, .none, .bool false, .none] } : Obj) →
      h'.Ns1 dx (fun y => if y = fld then some (.int i ti) else none) → R (.ok (.ret .none)) ⟨h', g, d, tk', os⟩) →
    codeAny (model P w) A (.call (.ref fI) ⟨[.ref e, .int i ti], []⟩) R ⟨h, g, d, tk, os⟩
theorem pmk_exs {X : Cx} {x fld : Str} {C fI : Addr} {e : Expr} {te : TE} {p pos : Pos} {k : Nat} (T : OexC X.K C) (S : SupT X.prog X.K C fI fld) (iC : PySem.W.findIn X.K (.ref C) "__init__" = some (some (.ref fI))) (tI : PySem.W.typeIn X.K (.ref fI) = some (.type "function")) (hr : Room k X.A)
    (hg : Gl X x) (hm : X.mg x = some (.ref C)) (hms : X.mg "super" = none) (he : PE X e te) (hs : starEach [e] X.env = (false, eval e X.env) :: starEach [] X.env := by rfl) (hdb : (x == ("__debug__" : Str)) = false := by decide) :
    L2N.PMk X (.Call (.Name x p) [e] [] pos) (fun σ H Q => te σ H fun v H1 => ∃ i : Int, v = .int i ∧ i.natAbs.log2 < 1920 ∧ ∀ d, H1 d = none → Q (.ref C) (some d) (upd H1 d (.xd [(fld, .int i)]))) := by
  intro pins s σ H Q I h
  obtain ⟨nm, q, N, bs, bm, sn, sub, ab, col, dd, k0, k1, k2, k3, k5, hC, hbm⟩ := T.cls
  refine wpAny_Call_Name_kw (ld_glob I hg hm ?_ hdb)
  refine PySem.W.callWith_K (h₀ := X.base) I.ok.mod.kin T.kC ?_ hs (by rfl)
  rw [hs]
  show wpAny _ _ (spliced ((false, eval e X.env) :: backTo pos (starEach [] X.env))) _ _ s
  refine Calls.spliced_cons (thn (he.run pins s σ H _ I h) fun u s1 ⟨v, H1, I1, r1, i, ev, hi, q1⟩ => ?_)
  subst ev
  obtain ⟨ti, rfl⟩ := r1
  refine Calls.spliced_nil ⟨I1.kIn, ?_⟩
  show wpAny _ _ (call (.ref C) [.int i ti]) _ _ _
  obtain ⟨hp, g, dr, tk, os⟩ := s1
  have kk : ∀ b o, hp.get? b = some o → ((hp.push (PySem.W.kdv_tup [.int i ti])).push (PySem.HandSPX.excO C hp.objs.size)).get? b = some o := fun b o e => Heap.get?_push_of_some _ (Heap.get?_push_of_some _ e)
  have hget : ((hp.push (PySem.W.kdv_tup [.int i ti])).push (PySem.HandSPX.excO C hp.objs.size)).get? (hp.objs.size + 1) = some (PySem.HandSPX.excO C hp.objs.size) := by heap_get
  have hsz : hp.objs.size ≤ hp.objs.size + 1 := Nat.le_succ _
  have ne : ∀ {b : Addr} {o : Obj}, hp.get? b = some o → b ≠ hp.objs.size + 1 := fun {b o} z => Nat.ne_of_lt (Nat.lt_of_lt_of_le (Heap.lt_size z) hsz)
  obtain ⟨mb, hb1, hb2⟩ := I1.mod.blt
  refine wpAny_call (PySem.HandSPX.call_own F.excBase_ValueError (fun Y => PySem.HandSPX.refsVE_contains Y bm hbm) (I1.kIn _ _ hC) (PySem.W.looks_findIn I1.kIn iC) (fun self => PySem.W.bind_fn I1.kIn self tI) (by show 1 ≤ sizeLine; rw [sizeLine_eq]; omega) ?_)
  have kb : ∀ b o, X.base.get? b = some o → ((hp.push (PySem.W.kdv_tup [.int i ti])).push (PySem.HandSPX.excO C hp.objs.size)).get? b = some o := fun b o z => kk b o (I1.bk b o z)
  refine S.run X.w _ _ _ g dr tk os (hp.objs.size + 1) hp.objs.size X.mg mb i ti (I1.ok.mod.kin.keeps kb) (by rw [make_depth]; have := hr.dp; omega) (I1.ok.mod.nolimit.keeps kb) (I1.mod.glob.keeps kb) hms (hb1.keeps kb) ((hb2 _ (by decide)).trans (by first | rfl | decide | kernel_rfl)) hget hi
    (fun o z => ne (I1.kIn _ _ z) rfl) (fun h' dx t1 tk' k5 hdx hde he5 hns5 => ?_)
  have hdx0 : hp.objs.size ≤ dx := Nat.le_trans (Nat.le_trans hsz (Nat.le_of_lt (Heap.lt_size hget))) hdx
  have hnd : H1 dx = none := I1.hok.fresh hdx0
  have hna : H1 (hp.objs.size + 1) = none := I1.hok.fresh hsz
  obtain ⟨G, g1', g2'⟩ := restrict h' fun b => decide (b ≠ hp.objs.size + 1)
  have gk : ∀ b, b ≠ hp.objs.size + 1 → G.get? b = h'.get? b := fun b hb => g1' b (decide_eq_true hb)
  have ge : G.get? (hp.objs.size + 1) = none := g2' _ (by simp)
  have kG : ∀ b o, hp.get? b = some o → G.get? b = some o := fun b o z => by
    rw [gk b (ne z)]
    exact k5 b o (ne z) (kk b o z)
  have hrel : ∀ f, RelO (([(fld, V.int i)] : List (Str × V)).lookup f) ((fun y => if y = fld then some (Value.int i ti) else none) f) := relO_put (fs := []) (mA := fun _ => none) (⟨ti, rfl⟩ : RelV (.int i) (.int i ti)) fun g => True.intro
  have J := I1.laid (t' := tk') (a := dx) (o := .xd [(fld, .int i)]) (h' := G) kG hdx0 ⟨_, hns5.at fun o y => (gk dx hde).trans y, hrel⟩
  refine ⟨rfl, hp.objs.size + 1, _, _, ⟨G, g, dr, tk', os⟩, _, .ref C, some dx, rfl, J, fun b o z => ?_, ge, he5, ⟨rfl, rfl, fun vs e => by cases e; rfl⟩, rfl, rfl, ?_, rfl, I1.bare, raises_own T.exC T.tyC, q1 dx hnd⟩
  · by_cases hba : b = hp.objs.size + 1
    · rw [hba, ge] at z; cases z
    · exact (gk b hba).symm.trans z
  · rw [upd_ne (Ne.symm hde)]; exact hna
end Vc

set_option Elab.async false
set_option linter.all false
set_option maxRecDepth 100000
set_option maxHeartbeats 1000000
namespace Vc
open PySem PySem.Spec PyProof.Rows L2
open Enc (enc)
/-! ### raise X(i), X with a field -/
structure ExcF (P : Program) (K : PySem.W.Frag) (mg : Str → Option Value) (x fld : Str) : Prop where
  ex : ∃ C fI, mg x = some (.ref C) ∧ OexC K C ∧ SupT P K C fI fld ∧ PySem.W.findIn K (.ref C) "__init__" = some (some (.ref fI)) ∧ PySem.W.typeIn K (.ref fI) = some (.type "function") ∧ mg "super" = none
theorem Gr.xd {I H : Hp} {d : Addr} {o : HO} (h : Same I H) (hd : H d = none) : Gr I H (upd I d o) (upd H d o) := by
  have hi : I d = none := h.free hd
  have e : Same (upd I d o) (upd H d o) := fun b u e => by
    by_cases hb : b = d
    · subst hb; rw [upd_same] at e ⊢; exact e
    · rw [upd_ne hb] at e ⊢; exact h b u e
  refine ⟨e, fun b u z => ?_, fun b u z => ?_, fun _ z => (nomatch z), List.nodup_nil, fun b h1 h2 => ?_⟩
  · rw [upd_ne (ne_of_none z hi)]; exact z
  · rw [upd_ne (ne_of_none z hd)]; exact z
  · rw [upd_ne (fun z => h1 (by rw [z]; exact hd))]; exact h2
section
variable {X : Cx} {Γ Γx : List SL} {e a b c : Expr} {es : List Expr} {rest : List Stmt} {pos p : Pos} {α β γ : Type} [Enc α] [Enc β] [Enc γ] {w w' : Bool} {τ : Type} {E : Eds τ} {x : Str}
theorem vs_raiseF {fld : Str} {k : Nat} {m : M Int} {pc : Pos} (T : ExcF X.prog X.K X.mg x fld) (hr : Room k X.A) (hc : X.calm = true) (he : VX true X Γ e m) (hs : Sub Γ Γx) (hg : Gl X x := by rfl) (hst : starEach [e] X.env = (false, eval e X.env) :: starEach [] X.env := by rfl) (hdb : (x == ("__debug__" : Str)) = false := by decide) :
    VS X Γ Γx (.Raise (some (.Call (.Name x p) [e] [] pc)) none pos :: rest) E (m >>= fun i => chk (i.natAbs.log2 < 1920) >>= fun _ => .exc ⟨x, [(fld, .int i)]⟩) := fun W tk I0 H0 σ I H T' mt D o => by
  obtain ⟨C, fI, gC, oC, sT, iC, tI, ms⟩ := T.ex
  refine seq_s (to_s1 (L2N.ps_raise hc tk (pmk_exs oC sT iC tI hr hg gC ms pe_of hst hdb)) ?_)
  show tOf X e σ H _
  refine he.ap tk mt.mw o.bind (fun i _ o1 v I1 H1 g1 r1 => ?_) fun _ z => z.xo mt hs
  obtain ⟨hi, o2⟩ := o1.chk
  cases r1 with
  | int _ =>
    refine ⟨i, rfl, hi, fun d hd => ?_⟩
    have g2 : Gr I1 H1 (upd I1 d (.xd [(fld, .int i)])) (upd H1 d (.xd [(fld, .int i)])) := Gr.xd g1.ih hd
    obtain ⟨T2, mt2⟩ := ((mt.gr g1).gr g2).sub hs
    exact o2 (.ref C) (some d) σ _ _ T2 mt2 ⟨gC, fun z => (nomatch z), fun _ => ⟨d, _, rfl, upd_same, .cons (.int i) .nil⟩⟩
/-- the one field of an error -/
def fldM (tb : ETab) (f : Str) (ex : Exn) : M Int := match tb.lookup ex.nm with
  | none => .stuck
  | some _ => match ex.fs with
    | [(g, .int i)] => if g = f then .ok i else .stuck
    | _ => .stuck
theorem fldM_ok {tb : ETab} {f : Str} {ex : Exn} {P : Int → Prop} {E' : Exn → Prop} (h : Out (fldM tb f ex) P E') : ∃ up i, tb.lookup ex.nm = some up ∧ ex.fs = [(f, .int i)] ∧ P i := by
  unfold fldM at h
  split at h
  · exact h.elim
  · rename_i up e
    split at h
    · rename_i g i e2
      split at h
      · rename_i e3
        subst e3
        exact ⟨up, i, e, e2, h⟩
      · exact h.elim
    · exact h.elim
/-- f is no name of the classes -/
structure FOk (K : PySem.W.Frag) (mg : Str → Option Value) (tb : ETab) (f : Str) : Prop where
  ex : ∀ m up, tb.lookup m = some up → ∃ C, mg m = some (.ref C) ∧ XfC K C ∧ PySem.W.findIn K (.ref C) f = some none
theorem VS.bindF {tb : ETab} {f : Str} {ex : Exn} {sts : List Stmt} {mm : Int → M τ} (h : ∀ up i, tb.lookup ex.nm = some up → ex.fs = [(f, .int i)] → VS X Γ Γx sts E (mm i)) : VS X Γ Γx sts E (fldM tb f ex >>= mm) := fun W tk I0 H0 σ I H T mt D o => by
  obtain ⟨up, i, e1, e2, o2⟩ := fldM_ok o.bind
  exact h up i e1 e2 W tk I0 H0 σ I H T mt D o2
theorem vs_tryF {S : Type} (F : S → List SL) (i : Nat) (tb : ETab) (f : Str) {xc n : Str} {body suite : List Stmt} {b₀ : Stmt} {np pos' : Pos} {mb : M (Jn S τ)} {mh : Exn → Int → M (Jn S τ)} {kk : S → M τ} (Γt : List SL) (hX : X.stack = X.env :: X.outer) (hf : X.env.frame = some X.env.locals) (hN : X.N.Nodup) (hE : EEx X.K X.mg tb xc)
    (hb : ∀ (pn : List (Addr × Obj)) (xe : Value → Shared → Prop), PassesOwn (model X.prog X.w) X.A X.env xe → VS (X.tr pn xe) Γ Γt body (eJn F E) mb)
    (hsu : ∀ ex up z, tb.lookup ex.nm = some up → ex.fs = [(f, .int z)] → ∀ (a dd : Addr) (oe : Obj) (cls : Value) (pn : List (Addr × Obj)), L2N.Zn cls (some dd) oe → (∃ vs, oe.data = .fields vs) → X.mg ex.nm = some cls → VS (X.suite a ((a, oe) :: pn)) (Γt.set i (.val (.imm (.exn a dd [(f, .int z)])))) (anys Γt.length) (b₀ :: suite) (eSu i (eJn F E)) (mh ex z))
    (hk : ∀ s, VS X (F s) Γx rest E (kk s)) (hs : Sub Γt Γx) (hg : Gl X xc := by rfl) (hdb : (xc == ("__debug__" : Str)) = false := by decide) (hi : X.N[i]? = some n := by rfl) (hl : Nat.blt i Γt.length = true := by rfl) (hln : X.env.kindOf n = some .local := by rfl) :
    VS X Γ Γx (.Try body [.ExceptHandler (some (.Name xc np)) (some n) (b₀ :: suite) pos'] [] [] pos :: rest) E (tryM tb xc mb (fun ex => nox (fldM tb f ex >>= fun z => mh ex z)) >>= fun j => j.on kk) := by
  obtain ⟨C, h1, h2⟩ := hE.ex
  refine vs_try (mh := fun ex => fldM tb f ex >>= fun z => mh ex z) F i tb Γt hX hf hN ⟨hg, hdb, .inl h1⟩ h2 hb (fun ex a oe cls d pn hz hfl hm _ h0 => VS.bindF fun up z e1 e2 => ?_) hk hs hi hl hln
  have hd := h0 (by rw [e2]; exact fun z => (nomatch z))
  cases d with
  | none => exact absurd rfl hd
  | some dd =>
    show VS _ (Γt.set i (.val (.imm (.exn a dd ex.fs)))) _ _ _ _
    rw [e2]
    exact hsu ex up z e1 e2 a dd oe cls pn hz hfl hm
theorem call_isF {X : Cx} {a D dd : Addr} {oe : Obj} {pn : List (Addr × Obj)} (C : ExcC X.K D) (hz : Zc (.ref D) (some dd) oe) (hf : ∃ vs, oe.data = .fields vs) {fs : List (Str × V)} : CallR (X.suite a ((a, oe) :: pn)) (.builtin "isinstance") (fun xs H Q => H dd = some (.xd fs) ∧ rIsE X.K D a xs H Q) := by
  intro pins s σ H xs us Q I r h
  obtain ⟨hd, c, cv, b, rfl, hcv, e, q⟩ := h
  cases r with
  | cons rx rr =>
    cases rr with
    | cons rt rr =>
      cases rr
      cases rx
      have ec := hcv _ rt
      subst ec
      obtain ⟨hget, _⟩ := I.pin (a, oe) (List.mem_append.mpr (.inl List.mem_cons_self))
      obtain ⟨vs, hv⟩ := hf
      have hx : ObjOk X.prog X.w H s.heap dd (.xd fs) := I.hok dd _ hd
      obtain ⟨mA, hns, hr⟩ := hx
      obtain ⟨od, ho, hl⟩ := lookIn_ns hns
      have J : PySem.W.InstAt s.heap a oe D (some od) := ⟨hget, hz.1, by unfold PySem.W.notCls; rw [hv] <;> rfl, by rw [hz.2]; exact ho⟩
      have hcl : (PySem.W.clsIn X.K D).isSome = true := by obtain ⟨cd, hc, _⟩ := PySem.W.any_some C.hd; rw [hc]; rfl
      exact PySem.W.kia_one (PySem.W.kitx_exc hcl C.hg C.hk C.hs C.ha C.hn C.ht C.hm) I.kIn J e (fun z => nomatch z) fun tk => ⟨.bl b, H, I.kept (t' := tk) fun _ _ z => z, rfl, q⟩
theorem ve_isF (i : Nat) (tb : ETab) {xe n : Str} {c : V} {cv : Value} {a dd : Addr} {oe : Obj} {cls : Value} {pn : List (Addr × Obj)} {ex : Exn} {fs : List (Str × D)} {px : Pos} {b : Expr} (hz : L2N.Zn cls (some dd) oe) (hfl : ∃ vs, oe.data = .fields vs) (hm : X.mg ex.nm = some cls) (hI : IOk X.K X.mg tb n cv) (hcv : ∀ u, RelV c u → u = cv) (hb : PE (X.suite a ((a, oe) :: pn)) b (tC c))
    (hΓ : Γ[i]? = some (.val (.imm (.exn a dd fs)))) (hN : X.N[i]? = some xe := by rfl) (hv : Vis X.env.scope xe := by first | exact Or.inl rfl | exact Or.inr (Or.inl rfl) | exact Or.inr (Or.inr rfl)) (hmi : X.mg "isinstance" = none) (hg : Gl X "isinstance" := by rfl)
    (hd : (xe == ("__debug__" : Str)) = false := by decide) (hcd : (xe == ("__classdict__" : Str)) = false := by decide) (hst : starEach [.Name xe px, b] X.env = (false, eval (.Name xe px) X.env) :: starEach [b] X.env := by rfl) (hst2 : starEach [b] X.env = (false, eval b X.env) :: starEach [] X.env := by rfl) (hpl : (backTo pos (starEach [b] X.env)).any (·.1) = false := by rfl) :
    VX w (X.suite a ((a, oe) :: pn)) Γ (.Call (.Name "isinstance" p) [.Name xe px, b] [] pos) (isE tb ex n) := fun W tk σ I H T mw Q o => by
  unfold isE at o
  cases q : tb.lookup ex.nm with
  | none => rw [q] at o; exact o.elim
  | some up =>
    rw [q] at o
    obtain ⟨Dc, h1, h2, h3⟩ := hI.ex _ _ q
    rw [hm] at h1
    cases h1
    obtain ⟨v, hv1, r⟩ := mw.sl.imm hΓ
    cases r with
    | exn h4 h5 =>
      refine to_t (pe_callB (call_isF h2 hz.zc hfl) hg hmi (by decide +kernel) (pa_cons (pe_var hN hv hd hcd) (pa_cons hb pa_nil hst2) hst) (by decide) (by decide) hst hpl) ⟨.ref a, hv1, mw.ih _ _ h4, c, cv, up.contains n, rfl, hcv, h3, ?_⟩
      exact o _ I H (.refl mw.ih) (.bl _)
theorem ve_isFo (i : Nat) {tb : ETab} {xe n : Str} {a dd : Addr} {oe : Obj} {cls : Value} {pn : List (Addr × Obj)} {ex : Exn} {fs : List (Str × D)} {px pt : Pos} (hz : L2N.Zn cls (some dd) oe) (hfl : ∃ vs, oe.data = .fields vs) (hm : X.mg ex.nm = some cls) (hI : IEx X.K X.mg tb n) (hmi : X.mg "isinstance" = none)
    (hΓ : Γ[i]? = some (.val (.imm (.exn a dd fs))) := by rfl) (hN : X.N[i]? = some xe := by rfl) (hv : Vis X.env.scope xe := by first | exact Or.inl rfl | exact Or.inr (Or.inl rfl) | exact Or.inr (Or.inr rfl)) (hg : Gl X "isinstance" := by rfl) (hgn : Gl X n := by rfl)
    (hd : (xe == ("__debug__" : Str)) = false := by decide) (hdn : (n == ("__debug__" : Str)) = false := by decide) (hcd : (xe == ("__classdict__" : Str)) = false := by decide) (hst : starEach [.Name xe px, .Name n pt] X.env = (false, eval (.Name xe px) X.env) :: starEach [.Name n pt] X.env := by rfl) (hst2 : starEach [.Name n pt] X.env = (false, eval (.Name n pt) X.env) :: starEach [] X.env := by rfl) (hpl : (backTo pos (starEach [.Name n pt] X.env)).any (·.1) = false := by rfl) :
    VX w (X.suite a ((a, oe) :: pn)) Γ (.Call (.Name "isinstance" p) [.Name xe px, .Name n pt] [] pos) (isE tb ex n) := by
  obtain ⟨C, h1, h2⟩ := hI.ex
  exact ve_isF (c := .ref C) i tb hz hfl hm h2 (fun u r => r) (pe_glob (X := X.suite a ((a, oe) :: pn)) hgn h1 rfl hdn) hΓ hN hv hmi hg hd hcd hst hst2 hpl
theorem ve_isFb (i : Nat) {tb : ETab} {xe n : Str} {t : String} {a dd : Addr} {oe : Obj} {cls : Value} {pn : List (Addr × Obj)} {ex : Exn} {fs : List (Str × D)} {px pt : Pos} (hz : L2N.Zn cls (some dd) oe) (hfl : ∃ vs, oe.data = .fields vs) (hm : X.mg ex.nm = some cls) (hI : IOk X.K X.mg tb n (.type t)) (hmn : X.mg n = none) (hmi : X.mg "isinstance" = none) (hvn : bootBuiltins n = some (.type t) := by decide +kernel)
    (hΓ : Γ[i]? = some (.val (.imm (.exn a dd fs))) := by rfl) (hN : X.N[i]? = some xe := by rfl) (hv : Vis X.env.scope xe := by first | exact Or.inl rfl | exact Or.inr (Or.inl rfl) | exact Or.inr (Or.inr rfl)) (hg : Gl X "isinstance" := by rfl) (hgn : Gl X n := by rfl)
    (hnn : n ≠ "__name__" := by decide) (hd : (xe == ("__debug__" : Str)) = false := by decide) (hdn : (n == ("__debug__" : Str)) = false := by decide) (hcd : (xe == ("__classdict__" : Str)) = false := by decide) (hst : starEach [.Name xe px, .Name n pt] X.env = (false, eval (.Name xe px) X.env) :: starEach [.Name n pt] X.env := by rfl) (hst2 : starEach [.Name n pt] X.env = (false, eval (.Name n pt) X.env) :: starEach [] X.env := by rfl) (hpl : (backTo pos (starEach [.Name n pt] X.env)).any (·.1) = false := by rfl) :
    VX w (X.suite a ((a, oe) :: pn)) Γ (.Call (.Name "isinstance" p) [.Name xe px, .Name n pt] [] pos) (isE tb ex n) :=
  ve_isF (c := .ty t) i tb hz hfl hm hI (fun u r => r) (pe_bltn (X := X.suite a ((a, oe) :: pn)) hgn hmn hvn rfl hnn hdn) hΓ hN hv hmi hg hd hcd hst hst2 hpl
/-- e.f in the suite -/
theorem ve_exF (i : Nat) {tb : ETab} {xe f : Str} {a dd : Addr} {oe : Obj} {cls : Value} {pn : List (Addr × Obj)} {ex : Exn} {z : Int} {up : List Str} {px : Pos} (hz : L2N.Zn cls (some dd) oe) (hfl : ∃ vs, oe.data = .fields vs) (hm : X.mg ex.nm = some cls) (hF : FOk X.K X.mg tb f) (hu : tb.lookup ex.nm = some up)
    (hΓ : Γ[i]? = some (.val (.imm (.exn a dd [(f, .int z)]))) := by rfl) (hN : X.N[i]? = some xe := by rfl) (hv : Vis X.env.scope xe := by first | exact Or.inl rfl | exact Or.inr (Or.inl rfl) | exact Or.inr (Or.inr rfl))
    (hd : (xe == ("__debug__" : Str)) = false := by decide) (hcd : (xe == ("__classdict__" : Str)) = false := by decide) (hb : attributeBase (.Name xe px) f X.env (eval (.Name xe px) X.env) = eval (.Name xe px) X.env := by rfl) :
    VX w (X.suite a ((a, oe) :: pn)) Γ (.Attribute (.Name xe px) f pos) (M.ok z) := fun W tk σ I H T mw Q o => by
  obtain ⟨C, h1, h2, h3⟩ := hF.ex _ _ hu
  rw [hm] at h1
  cases h1
  obtain ⟨v, hv1, r⟩ := mw.sl.imm hΓ
  cases r with
  | exn h4 h5 =>
    cases h5 with
    | cons h6 h7 =>
      cases h6
      cases h7
      refine to_t (pe_xf h2 h3 hz.zc hfl (pe_var hN hv hd hcd) hb) ⟨.ref a, hv1, rfl, rfl, dd, _, .int z, rfl, mw.ih _ _ h4, by simp [List.lookup], ?_⟩
      exact o _ I H (.refl mw.ih) (.int _)
end
end Vc

set_option Elab.async false
set_option linter.all false
set_option maxRecDepth 100000
set_option maxHeartbeats 1000000
namespace Vc
open PySem PySem.Spec PyProof.Rows L2
open Enc (enc)
/-! ### an error class with a field, read off the written part -/
def oexB (K : PySem.W.Frag) (C fI : Addr) (fld : Str) : Bool :=
  (match K.lookup C with
  | some ⟨.type "type", _, .cls cd, sl⟩ => (match cd.mro, sl.toList with
    | .ref C' :: bm, [_, _, _, _, some (.builtin n), _] => C' == C && n == "ValueError.__new__" && !cd.hasDel && cd.hasDict && PySem.HandSPX.refsVE bm && PySem.W.alongIn K "__init__" bm == some (some (.builtin "ValueError.__init__"))
    | _, _ => false)
  | _ => false) &&
  (PySem.W.findIn K (.ref C) "__setattr__" == some (some (.builtin "object.__setattr__")) && (PySem.W.subIn K (.ref C) (.type "BaseException") == some true && (PySem.W.typeIn K (.ref C) == some (.type "type") && (PySem.W.keepIn K (.ref C) &&
  (PySem.W.findIn K (.ref C) "__init__" == some (some (.ref fI)) && (PySem.W.typeIn K (.ref fI) == some (.type "function") && (PySem.W.findIn K (.ref C) fld == some none && PySem.W.nsIn K cStatics "thirdparty.any" == some none)))))))
theorem oexB_ok {K : PySem.W.Frag} {C fI : Addr} {fld : Str} (h : oexB K C fI fld = true) : (∃ nm q N bs bm sn sub ab col dd k0 k1 k2 k3 k5, K.lookup C = some (excClassObj nm q C N bs bm true sn sub ab col dd k0 k1 k2 k3 k5 "ValueError.__new__") ∧ PySem.HandSPX.refsVE bm = true ∧ PySem.W.alongIn K "__init__" bm = some (some (.builtin "ValueError.__init__"))) ∧
    PySem.W.findIn K (.ref C) "__setattr__" = some (some (.builtin "object.__setattr__")) ∧ PySem.W.subIn K (.ref C) (.type "BaseException") = some true ∧ PySem.W.typeIn K (.ref C) = some (.type "type") ∧ PySem.W.keepIn K (.ref C) = true ∧
    PySem.W.findIn K (.ref C) "__init__" = some (some (.ref fI)) ∧ PySem.W.typeIn K (.ref fI) = some (.type "function") ∧ PySem.W.findIn K (.ref C) fld = some none ∧ PySem.W.nsIn K cStatics "thirdparty.any" = some none := by
  unfold oexB at h
  simp only [Bool.and_eq_true, beq_iff_eq] at h
  obtain ⟨q, h1, h2, h3, h4, h5, h6, h7, h8⟩ := h
  refine ⟨?_, h1, h2, h3, h4, h5, h6, h7, h8⟩
  split at q
  · rename_i dd cd sl ho
    split at q
    · rename_i C' bm k0 k1 k2 k3 n k5 hm hs
      simp only [Bool.and_eq_true, beq_iff_eq, Bool.not_eq_true'] at q
      obtain ⟨⟨⟨⟨⟨rfl, rfl⟩, hdel⟩, hdct⟩, ht⟩, hal⟩ := q
      obtain ⟨nm, bs, mro, ns, qn, hd, sn, sub, ab, col, del⟩ := cd
      dsimp only at hm hdel hdct
      subst hm hdel hdct
      have hsl : sl = #[k0, k1, k2, k3, some (.builtin "ValueError.__new__"), k5] := by
        obtain ⟨l⟩ := sl
        simp only at hs
        rw [hs]
      subst hsl
      exact ⟨nm, qn, ns, bs, bm, sn, sub, ab, col, dd, k0, k1, k2, k3, k5, ho, ht, hal⟩
    · cases q
  · cases q
/-- the code's file, the cell's class -/
def supB (P : Program) (K : PySem.W.Frag) (C cda cc : Addr) : Bool :=
  (match K.lookup cda with
  | some ⟨_, _, .fields vs, _⟩ => (match (vs[2]? : Option Value) with
    | some (Value.str file _) => ((P.main.file : Str) == file)
    | _ => false)
  | _ => false) && ((match K.lookup cc with
  | some ⟨_, _, .cell (some (.ref D)), _⟩ => D == C
  | _ => false) && !(P.main.scope.names.lookup ("super" : Str)).isSome)
theorem supB_ok {P : Program} {K : PySem.W.Frag} {C cda cc : Addr} (h : supB P K C cda cc = true) : (∃ ccl cdd vs ccs file tf, K.lookup cda = some ⟨ccl, cdd, .fields vs, ccs⟩ ∧ vs[2]? = some (.str file tf) ∧ ((P.main.file : Str) == file) = true) ∧
    (∃ cl cld csl, K.lookup cc = some ⟨cl, cld, .cell (some (.ref C)), csl⟩) ∧ (P.main.scope.names.lookup ("super" : Str)).isSome = false := by
  unfold supB at h
  simp only [Bool.and_eq_true, Bool.not_eq_true'] at h
  obtain ⟨h1, h2, h3⟩ := h
  refine ⟨?_, ?_, h3⟩
  · split at h1
    · rename_i vs _ e1
      split at h1
      · rename_i file tf e2
        exact ⟨_, _, _, _, _, _, e1, e2, h1⟩
      · cases h1
    · cases h1
  · split at h2
    · rename_i D _ e1
      have : D = C := by simpa using h2
      subst this
      exact ⟨_, _, _, e1⟩
    · cases h2
theorem excF_mk {P : Program} {K : PySem.W.Frag} {h : Heap} {mg : Str → Option Value} {x qual prm fld lit : Str} {st : Stmt} {C fI cda cc : Addr} {j : Nat} {p0 p1 p2 p3 p4 pc pn pf jp q1 q2 q3 q4 : Pos} {nms : List (Str × NameKind)} {oc : Value} {od an : Option Addr} {osl : Array (Option Value)} {kV doc pm ct : Value} {ar : Arg} (X : K.In h) (G : h.Ns mainGlobals mg)
    (hms : mg "super" = none) (aC : PySem.W.nsIn K mainGlobals x = some (some (.ref C))) (aI : PySem.W.findIn K (.ref C) "__init__" = some (some (.ref fI)))
    (l : K.lookup fI = some ⟨oc, od, .func (PySem.W.ksFn "__init__" qual (defArgs st) (defBody st) (defScope st) .none kV doc pm an (.ref cda) ct cc), osl⟩) (c : PySem.W.codeIn K (.ref cda) qual = true)
    (hbind : ∀ (kV doc pm : Value) (an : Option Addr) (cdv ct : Value) (cc : Addr) (us : List Value), us.length = 2 → bindArgs (PySem.W.ksFn "__init__" qual (defArgs st) (defBody st) (defScope st) .none kV doc pm an cdv ct cc) ⟨us, []⟩ = pure ((["self", prm] : List Str).zip us))
    (hb : defBody st = supBody lit prm fld j p0 p1 p2 p3 p4 pc pn pf jp q1 q2 q3 q4) (hsc : defScope st = supScope nms) (hp : ((defArgs st).posonlyargs ++ (defArgs st).args).head? = some ar) (har : ar.arg = "self")
    (hks : nms.lookup ("super" : Str) = some .globalImplicit) (hkc : nms.lookup ("__class__" : Str) = some .free) (hka : nms.lookup ("self" : Str) = some .local) (hkp : nms.lookup prm = some .local) (hcn : ∀ x ∈ nms, x.2 ≠ .cell)
    (hec : ∀ env : Env, ∃ pl : Sem Bool, eval (.Call (.Attribute (.Call (.Name "super" p0) [] [] p1) "__init__" p2) [.JoinedStr [.Constant (.str lit) j pc, .FormattedValue (.Name prm pn) (-1) none pf] jp] [] p3) env = (do
        let ov ← attributeBase (.Call (.Name "super" p0) [] [] p1) "__init__" env (eval (.Call (.Name "super" p0) [] [] p1) env)
        standAt p2.atName
        let (f, first) ← holding [ov] (getMethod ov "__init__" pl)
        callWith p3 f first (backTo p3 (starEach [.JoinedStr [.Constant (.str lit) j pc, .FormattedValue (.Name prm pn) (-1) none pf] jp] env)) []))
    (hps : prm ≠ "self") (hpd : (prm == ("__debug__" : Str)) = false) (hlit : lit.length ≤ 1000) (q1' : oexB K C fI fld = true) (q2' : supB P K C cda cc = true) : ExcF P K mg x fld := by
  obtain ⟨⟨nm, q, N, bs, bm, sn, sub, ab, col, dd, k0, k1, k2, k3, k5, hC, hbm, hal⟩, sa, exC, tyC, kC, iC, tI, hno, hno3⟩ := oexB_ok q1'
  obtain ⟨⟨ccl, cdd, vs, ccs, file, tf, hcode, hvs, hfile⟩, ⟨cl, cld, csl, hcell⟩, htop⟩ := supB_ok q2'
  have hbind := hbind kV doc pm an (.ref cda) ct cc
  rw [hb, hsc] at l hbind
  exact ⟨C, fI, PySem.W.mg_of X G aC, ⟨⟨nm, q, N, bs, bm, sn, sub, ab, col, dd, k0, k1, k2, k3, k5, hC, hbm⟩, sa, exC, tyC, kC⟩,
    ⟨fun w A R h g d tk os e t0 mg mb i ti X hr nl hG hms hB hmb he hi hKe hq => sup_init X hr nl hG hms hB hmb l c hbind hp har hcode hvs hfile htop hcell hks hkc hka hkp hcn hec hps hpd hlit hC hbm hal hno3 sa hno he hi hKe hq⟩, iC, tI, hms⟩
/-- f is no name of the table's classes -/
def fTab (K : PySem.W.Frag) (tb : ETab) (f : Str) : Bool := tb.all fun e => match PySem.W.nsIn K mainGlobals e.1 with
  | some (some (.ref D)) => xfB K D && PySem.W.findIn K (.ref D) f == some none
  | _ => false
theorem fok_mk {K : PySem.W.Frag} {h : Heap} {mg : Str → Option Value} {tb : ETab} {f : Str} (X : K.In h) (G : h.Ns mainGlobals mg) (q : fTab K tb f = true) : FOk K mg tb f := ⟨fun m up hl => by
  have := List.all_eq_true.mp q _ (lookup_mem hl)
  dsimp only at this
  split at this
  · rename_i D e
    simp only [Bool.and_eq_true, beq_iff_eq] at this
    exact ⟨D, PySem.W.mg_of X G e, xfB_ok this.1, this.2⟩
  · cases this⟩
end Vc

set_option Elab.async false
set_option linter.all false
set_option maxRecDepth 100000
set_option maxHeartbeats 1000000
namespace Vc
open PySem PySem.Spec PyProof.Rows L2
open Enc (enc)
/-- what is asked of an option, of a sum -/
def optB {α : Type} (b c : Bool) (o : Option α) : Bool := match o with
  | none => b
  | some _ => c
def sumB {α β : Type} (b c : Bool) (o : α ⊕ β) : Bool := match o with
  | .inl _ => b
  | .inr _ => c
section
variable {X : Cx} {Γ Γx : List SL} {e a b c : Expr} {es : List Expr} {rest : List Stmt} {pos p : Pos} {α β γ : Type} [Enc α] [Enc β] [Enc γ] {w w' : Bool} {τ : Type} {E : Eds τ}
/-- a for over what is already computed -/
theorem vs_forP {S : Type} {n : Nat} (l : List α) (F : S → List SL) (s0 : S) {tg : Expr} {vs : List Nat} {u : α → List SL → List SL} {body : List Stmt} {b : S → α → M (Stp S τ)} {k : S → M τ} (hp : PassesOwn (model X.prog X.w) X.A X.env X.xe) (hc : X.calm = true) (hi : VI X Γ tg e (M.ok l)) (hg : VG X n tg vs u)
    (hb : ∀ s a, VS X (u a (F s)) Γx body (eSt F E) (b s a)) (hk : ∀ s, VS X (F s) Γx rest E (k s)) (h0 : Sub Γ (F s0)) (hs : Sub Γ Γx) (hn : ∀ s, (F s).length = n := by exact fun _ => rfl) (hf : ∀ x, foldedSetIterable e X.env x = pure x := by intro _; rfl) :
    VS X Γ Γx (.For tg e body [] pos :: rest) E (loopM b l s0 >>= fun r => r.on k) := by
  have h := vs_for (E := E) (pos := pos) F s0 hp hc hi hg hb hk h0 hs hn hf
  rw [M.ok_bind] at h
  exact h
theorem vs_forSP {S : Type} {n : Nat} (l : List α) (F : S → List SL) (s0 : S) {tg : Expr} {vs : List Nat} {u : α → List SL → List SL} {body : List Stmt} {b : S → α → M S} {k : S → M τ} (hp : PassesOwn (model X.prog X.w) X.A X.env X.xe) (hc : X.calm = true) (hi : VI X Γ tg e (M.ok l)) (hg : VG X n tg vs u)
    (hb : ∀ s a, VS X (u a (F s)) Γx body (eLp F) (b s a)) (hk : ∀ s, VS X (F s) Γx rest E (k s)) (h0 : Sub Γ (F s0)) (hs : Sub Γ Γx) (hn : ∀ s, (F s).length = n := by exact fun _ => rfl) (hf : ∀ x, foldedSetIterable e X.env x = pure x := by intro _; rfl) :
    VS X Γ Γx (.For tg e body [] pos :: rest) E (loopS b l s0 >>= k) := by
  have h := vs_forS (E := E) (pos := pos) F s0 hp hc hi hg hb hk h0 hs hn hf
  rw [M.ok_bind] at h
  exact h
/-- range(a, b, c), c above 0 -/
def rngN (a b c : Int) : Nat := if a < b then ((b - a - 1) / c + 1).toNat else 0
def rngC (a b c : Int) : List Int := (List.range (rngN a b c)).map fun i : Nat => a + (i : Int) * c
theorem rngN_size {a b c : Int} (hc : 0 < c) : Builtin.Range.rangeSize a b c = (rngN a b c : Int) := by
  unfold Builtin.Range.rangeSize rngN
  rw [if_pos hc]
  split
  · have : 0 ≤ (b - a - 1) / c := Int.ediv_nonneg (by omega) (by omega)
    omega
  · rfl
theorem rngC_ok {a b c : Int} (ha : rOk a) (hb : rOk b) (hc : 0 < c) (hc2 : c < 1073741824) : RgC a b c (rngN a b c) := by
  have hs := rngN_size (a := a) (b := b) hc
  have h0 : 0 ≤ Builtin.Range.rangeSize a b c := by rw [hs]; omega
  have h1 : Builtin.Range.rangeSize a b c ≤ 2 ^ 63 - 1 := by
    unfold Builtin.Range.rangeSize
    rw [if_pos hc]
    split
    · have : (b - a - 1) / c ≤ b - a - 1 := Int.ediv_le_self _ (by omega)
      obtain ⟨a1, a2⟩ := ha
      obtain ⟨b1, b2⟩ := hb
      omega
    · decide
  obtain ⟨a1, a2⟩ := ha
  obtain ⟨b1, b2⟩ := hb
  refine ⟨by omega, by omega, ?_, hs⟩
  unfold Builtin.Range.small
  simp only [Builtin.Range.rangeFitsLong, Bool.and_eq_true, Bool.or_eq_true, decide_eq_true_eq, beq_iff_eq, if_pos hc]
  refine ⟨⟨⟨⟨⟨by omega, by omega⟩, by omega, by omega⟩, by omega, by omega⟩, by omega, by omega⟩, .inr ⟨by omega, by omega⟩⟩
theorem rngC_get {a b c : Int} {i : Nat} {x : Int} (h : (rngC a b c)[i]? = some x) : i < rngN a b c ∧ x = a + (i : Int) * c := by
  unfold rngC at h
  rw [List.getElem?_map] at h
  by_cases hi : i < rngN a b c
  · rw [List.getElem?_range hi] at h
    exact ⟨hi, (Option.some.inj h).symm⟩
  · rw [List.getElem?_eq_none (by rw [List.length_range]; omega)] at h
    cases h
theorem rngC_length (a b c : Int) : (rngC a b c).length = rngN a b c := by unfold rngC; rw [List.length_map, List.length_range]
theorem vi_rangeC {tg : Expr} {m1 m2 m3 : M Int} (hm : X.mg "range" = none) (h : VX true X Γ a m1) (h2 : VX true X Γ b m2) (h3 : VX true X Γ c m3) (hg : Gl X "range" := by rfl)
    (hs : starEach [a, b, c] X.env = (false, eval a X.env) :: starEach [b, c] X.env := by rfl) (hs2 : starEach [b, c] X.env = (false, eval b X.env) :: starEach [c] X.env := by rfl) (hs3 : starEach [c] X.env = (false, eval c X.env) :: starEach [] X.env := by rfl) (hpl : (backTo pos (starEach [b, c] X.env)).any (·.1) = false := by rfl) :
    VI X Γ tg (.Call (.Name "range" p) [a, b, c] [] pos) (m1 >>= fun x => m2 >>= fun y => m3 >>= fun z => Vc.chk (rOk x ∧ rOk y ∧ 0 < z ∧ z < 1073741824) >>= fun _ => M.ok (rngC x y z)) := fun W tk σ I H T mw R o => by
  refine to_i (pi_range3 hg hm (pa_cons pe_of (pa_cons pe_of (pa_cons pe_of pa_nil hs3) hs2) hs) hs hpl) (h.ap tk mw o.bind (fun x _ o1 v I1 H1 g1 r1 => ?_) fun _ z => z)
  refine h2.ap tk (mw.gr g1) o1.bind (fun y _ o2 u I2 H2 g2 r2 => ?_) fun _ z => z.gr g1
  refine h3.ap tk ((mw.gr g1).gr g2) o2.bind (fun z _ o3 t I3 H3 g3 r3 => ?_) fun _ z => z.gr (g1.trans g2)
  cases r1; cases r2; cases r3
  obtain ⟨⟨h1, h2, h3, h4⟩, o4⟩ := o3.chk
  refine ⟨x, y, z, rngN x y z, rfl, rngC_ok h1 h2 h3 h4, o4 _ I3 H3 ((g1.trans g2).trans g3) fun i I4 H4 s1 s2 => ⟨fun q hq => ?_, fun h => by rw [rngC_length] at h; exact h⟩⟩
  obtain ⟨hi, rfl⟩ := rngC_get hq
  refine ⟨hi, fun v H5 e => ?_⟩
  obtain ⟨rfl, rfl⟩ := e
  exact ⟨I4, .refl s2, .int _⟩
theorem pt_chain3 {d : Expr} {ta tb tc td : TE} {op op' op2 : CmpOp} {r r' r2 : R2} (ho : OpR X (compareOp op) r) (ho' : OpR X (compareOp op') r') (ho2 : OpR X (compareOp op2) r2) (ha : PE X a ta) (hb : PE X b tb) (hc : PE X c tc) (hd : PE X d td)
    (hm : lastMarks [op, op', op2] [b, c, d] = false) : PT X (.Compare a [op, op', op2] [b, c, d] pos) (tTest (tChain3 r r' r2 ta tb tc td)) := by
  refine ⟨fun pins s σ H Q I h => ?_⟩
  refine isTrue_chain (thn (ha.run pins s σ H _ I h) fun v s1 ⟨x, H1, I1, r1, q1⟩ => test_link (thn (hb.run pins s1 σ H1 _ I1 q1) fun u s2 ⟨y, H2, I2, r2, q2⟩ =>
    thn (ho pins s2 σ H2 x y v u _ I2 r1 r2 q2) fun dv s3 ⟨z, H3, I3, r3, k, e, q3⟩ => ?_)) hm
  subst e
  cases r3
  refine wpAny_truthy_bool ?_
  cases k with
  | false =>
    obtain ⟨k', e', q'⟩ := q3
    cases e'
    exact ite_ff ⟨H3, I3, q'⟩
  | true =>
    refine ite_tt (test_link (thn (hc.run pins s3 σ H3 _ I3 q3) fun w' s4 ⟨z', H4, I4, r4, q4⟩ => thn (ho' pins s4 σ H4 y z' u w' _ I4 r2 r4 q4) fun dv2 s5 ⟨z5, H5, I5, r5, k2, e2, q5⟩ => ?_))
    subst e2
    cases r5
    refine wpAny_truthy_bool ?_
    cases k2 with
    | false =>
      obtain ⟨k', e', q'⟩ := q5
      cases e'
      exact ite_ff ⟨H5, I5, q'⟩
    | true =>
      refine ite_tt (test_last (thn (hd.run pins s5 σ H5 _ I5 q5) fun w2 s6 ⟨z6, H6, I6, r6, q6⟩ => thn (ho2 pins s6 σ H6 z' z6 w' w2 _ I6 r4 r6 q6) fun dv3 s7 ⟨z7, H7, I7, r7, k3, e3, q7⟩ => ?_))
      subst e3
      cases r7
      exact wpAny_truthy_bool ⟨H7, I7, q7⟩
theorem vt_chain3p {d : Expr} {op op' op2 : CmpOp} {p1 p2 p3 : Int → Int → Bool} {x y z t : Int} (ho : OpR X (compareOp op) (rI0 fun i j => .bl (p1 i j))) (ho' : OpR X (compareOp op') (rI0 fun i j => .bl (p2 i j))) (ho2 : OpR X (compareOp op2) (rI0 fun i j => .bl (p3 i j))) (ha : VX true X Γ a (M.ok x)) (hb : VX true X Γ b (M.ok y)) (hc : VX true X Γ c (M.ok z)) (hd : VX true X Γ d (M.ok t))
    (h1 : lastMarks [op, op', op2] [b, c, d] = false := by with_unfolding_all rfl) : VT X Γ (.Compare a [op, op', op2] [b, c, d] pos) (M.ok (p1 x y && (p2 y z && p3 z t))) := fun W tk σ I H T mw Q o => by
  refine to_k (pt_chain3 ho ho' ho2 pe_of pe_of pe_of pe_of h1) ?_
  refine ha.ap tk mw (P := fun _ => True) (E := fun _ => False) trivial (fun x' q1 _ v I1 H1 g1 r1 => ?_) fun _ z => z.elim
  cases q1
  refine hb.ap tk (mw.gr g1) (P := fun _ => True) (E := fun _ => False) trivial (fun y' q2 _ u I2 H2 g2 r2 => ?_) fun _ z => z.elim
  cases q2; cases r1; cases r2
  refine ⟨x, y, rfl, rfl, p1 x y, rfl, ?_⟩
  cases q : p1 x y with
  | false =>
    have o : Q (p1 x y && (p2 y z && p3 z t)) H2 := o I2 H2 (g1.trans g2)
    rw [q] at o
    exact iteF ⟨false, rfl, o⟩
  | true =>
    refine iteT ?_
    refine hc.ap tk ((mw.gr g1).gr g2) (P := fun _ => True) (E := fun _ => False) trivial (fun z' q3 _ t3 I3 H3 g3 r3 => ?_) fun _ z => z.elim
    cases q3; cases r3
    refine ⟨y, z, rfl, rfl, p2 y z, rfl, ?_⟩
    cases q2 : p2 y z with
    | false =>
      have o : Q (p1 x y && (p2 y z && p3 z t)) H3 := o I3 H3 ((g1.trans g2).trans g3)
      rw [q, q2] at o
      exact iteF ⟨false, rfl, o⟩
    | true =>
      refine iteT ?_
      refine hd.ap tk (((mw.gr g1).gr g2).gr g3) (P := fun _ => True) (E := fun _ => False) trivial (fun t' q4 _ t4 I4 H4 g4 r4 => ?_) fun _ z => z.elim
      cases q4; cases r4
      have o : Q (p1 x y && (p2 y z && p3 z t)) H4 := o I4 H4 (((g1.trans g2).trans g3).trans g4)
      rw [q, q2] at o
      exact ⟨z, t, rfl, rfl, p3 z t, rfl, o⟩
end
end Vc

set_option Elab.async false
set_option linter.all false
set_option maxRecDepth 100000
namespace Vc
open PySem PySem.Spec PyProof.Rows L2
open Enc (enc)
section
variable {X : Cx} {Γ Γx : List SL} {e a b c ob : Expr} {es : List Expr} {rest : List Stmt} {pos p apos : Pos} {α β γ : Type} [Enc α] [Enc β] [Enc γ] {w w' : Bool} {τ : Type} {E : Eds τ}
/-- x[j], x[k] = a pair -/
theorem vs_setII2 (i : Nat) {x : Str} {px ps px2 ps2 pt : Pos} {kt : Nat} {l : List α} {m : M (α × α)} {mb mc : M Int} {k : List α → M τ} (hcm : X.calm = true) (he : VX false X Γ e m) (hb : VX true X Γ b mb) (hc : ∀ l1 : List α, VX true X (Γ.set i (sO l1)) c mc) (hk : ∀ l', VS X (Γ.set i (sO l')) Γx rest E (k l')) (hs : Sub Γ Γx) (hs2 : ∀ l1 : List α, Sub (Γ.set i (sO l1)) Γx) (hΓ : Γ[i]? = some (sO l) := by rfl) (hN : X.N[i]? = some x := by rfl)
    (hv : Vis X.env.scope x := by first | exact Or.inl rfl | exact Or.inr (Or.inl rfl) | exact Or.inr (Or.inr rfl)) (hd : (x == ("__debug__" : Str)) = false := by decide) (hcd : (x == ("__classdict__" : Str)) = false := by decide)
    (hst : ∀ v, assign (.Subscript (.Name x px) b ps) X.env v = (do
      let ov ← holding [v] (eval (.Name x px) X.env)
      let iv ← holding [v, ov] (eval b X.env)
      standAt ps
      holding [v, ov, iv] (setItem ov iv v)
      release [v, ov, iv] []) := by intro _; rfl)
    (hst2 : ∀ v, assign (.Subscript (.Name x px2) c ps2) X.env v = (do
      let ov ← holding [v] (eval (.Name x px2) X.env)
      let iv ← holding [v, ov] (eval c X.env)
      standAt ps2
      holding [v, ov, iv] (setItem ov iv v)
      release [v, ov, iv] []) := by intro _; rfl)
    (hq1 : (assignEach [.Subscript (.Name x px) b ps, .Subscript (.Name x px2) c ps2] X.env).map (·.2) = assign (.Subscript (.Name x px) b ps) X.env :: (assignEach [.Subscript (.Name x px2) c ps2] X.env).map (·.2) := by rfl)
    (hq2 : (assignEach [.Subscript (.Name x px2) c ps2] X.env).map (·.2) = assign (.Subscript (.Name x px2) c ps2) X.env :: (assignEach [] X.env).map (·.2) := by rfl)
    (hn : (assignEach [.Subscript (.Name x px) b ps, .Subscript (.Name x px2) c ps2] X.env).length = 2 := by rfl) (hns : (assignEach [.Subscript (.Name x px) b ps, .Subscript (.Name x px2) c ps2] X.env).findIdx? (·.1) = none := by rfl)
    (hs1 : swapsWithSole [.Tuple [.Subscript (.Name x px) b ps, .Subscript (.Name x px2) c ps2] kt pt] e pos.line X.env = pure false := by rfl) (hw : swappedStores [.Tuple [.Subscript (.Name x px) b ps, .Subscript (.Name x px2) c ps2] kt pt] e X.env = pure none := by rfl) (hm1 : (assignEach [.Tuple [.Subscript (.Name x px) b ps, .Subscript (.Name x px2) c ps2] kt pt] X.env).map (·.2) = [assign (.Tuple [.Subscript (.Name x px) b ps, .Subscript (.Name x px2) c ps2] kt pt) X.env] := by rfl) :
    VS X Γ Γx (.Assign [.Tuple [.Subscript (.Name x px) b ps, .Subscript (.Name x px2) c ps2] kt pt] e pos :: rest) E (m >>= fun r => mb >>= fun j => setL l j r.1 >>= fun l1 => mc >>= fun j2 => setL l1 j2 r.2 >>= k) := fun W tk I0 H0 σ I H T mt D o => by
  refine seq_s (to_s1 (ps_asg pe_of (pg_tup hcm (pgs_cons (pg_sub (pe_var hN hv hd hcd) pe_of set_list hst) (pgs_cons (pg_sub (pe_var hN hv hd hcd) pe_of set_list hst2) pgs_nil hq2) hq1) hn hns) hs1 hw hm1) ?_)
  refine he.ap tk mt.mw o.bind (fun r _ o1 v I1 H1 g1 r1 => ?_) fun _ z => z.xo mt hs
  obtain ⟨a1, a2⟩ := r
  change Vc.R X.K X.mg I1 v (.tup [enc a1, enc a2]) at r1
  cases r1 with
  | tup hsq r1 =>
  rename_i q0 xs0
  have hsq := hsq.sq
  have mt1 := mt.gr g1
  refine ⟨_, _, rfl, Same.seqT mt1.mw.ih hsq, by rw [r1.length]; rfl, ?_⟩
  cases r1 with
  | cons ra r2 =>
  cases r2 with
  | cons rb r3 =>
  cases r3
  obtain ⟨q, xs, h1, h3, rs, up⟩ := own_at mt1 hΓ
  refine ⟨_, _, rfl, .ref q, h1, ?_⟩
  refine hb.ap tk mt1.mw o1.bind (fun j _ o2 u I2 H2 g2 r2 => ?_) fun _ z => (z.xo mt hs).gr g1
  cases r2
  obtain ⟨n, hn, o3⟩ := setL_out o2.bind
  obtain ⟨h3', up'⟩ := up I2 H2 g2
  refine ⟨q, xs, j, n, rfl, rfl, h3', by rw [rs.length, List.length_map]; exact hn, ?_⟩
  have mt2 := up' (xs.set n _) (l.set n a1) (by rw [List.map_set]; exact Rs.set (ra.mono g2.i0) n (rs.mono g2.i0))
  have hΓ2 : (Γ.set i (sO (l.set n a1)))[i]? = some (sO (l.set n a1)) := by
    rw [List.getElem?_set_self]
    exact (List.getElem?_eq_some_iff.mp hΓ).1
  obtain ⟨q', xs', h1', h3'', rs', up2⟩ := own_at mt2 hΓ2
  refine ⟨_, _, rfl, .ref q', h1', ?_⟩
  refine (hc (l.set n a1)).ap tk mt2.mw o3.bind (fun j2 _ o4 u2 I3 H3 g3 r4 => ?_) fun _ z => ?_
  · cases r4
    obtain ⟨n2, hn2, o5⟩ := setL_out o4.bind
    obtain ⟨h4', up2'⟩ := up2 I3 H3 g3
    refine ⟨q', xs', j2, n2, rfl, rfl, h4', by rw [rs'.length, List.length_map]; exact hn2, ?_⟩
    have mt3 := up2' (xs'.set n2 _) ((l.set n a1).set n2 a2) (by rw [List.map_set]; exact Rs.set ((rb.mono g2.i0).mono g3.i0) n2 (rs'.mono g3.i0))
    rw [List.set_set] at mt3
    exact ⟨rfl, rest_s (hk _) tk mt3 o5⟩
  · exact z.xo mt2 (hs2 _)
end
end Vc

set_option Elab.async false
set_option linter.all false
set_option maxRecDepth 100000
set_option maxHeartbeats 1000000
/-! zip of any number of lists -/
namespace ZN
open PySem PySem.Spec PyProof.Rows L2
open PySem.Sem (wp)
abbrev IsZ (h : Heap) (z TI TO : Addr) (f0 : Value) (f1 : Bool) : Prop :=
  h.get? z = some { cls := .type "zip", dict := none, data := .fields #[f0, .bool f1, .bool false, .ref TI, .ref TO], slots := #[] }
abbrev IsT (h : Heap) (T : Addr) (vs : Array Value) : Prop := h.get? T = some { cls := .type "tuple", data := .seq vs }
/-- iterators and their lists -/
structure Ap (z TI TO : Addr) (ps : List (Addr × Addr)) : Prop where
  nd : (z :: TI :: TO :: ps.map (·.1)).Nodup
  ap : ∀ p ∈ ps, p.2 ∉ z :: TI :: TO :: ps.map (·.1)
section
variable {prog : Program} {w : World} {A : Around} {E : Value → Shared → Prop} {s : Shared}
theorem alive_any {a : Addr} {Q : Option Obj → Shared → Prop} (h : Q (s.heap.get? a) s) : wpAny (model prog w) A (loadIfAlive a) Q E s := fun _ _ _ => h
/-- the owned tuple is free or not -/
theorem free_any {z TI TO : Addr} {f0 : Value} {f1 : Bool} {Q : Bool → Shared → Prop} (hz : IsZ s.heap z TI TO f0 f1) (h0 : f0 = .none ∨ ∃ T, f0 = rawInt T)
    (h : ∀ b h' g0 g1, IsZ h' z TI TO g0 g1 → (g0 = .none ∨ ∃ T, g0 = rawInt T) → Heap.SameBut z s.heap h' → Q b { s with heap := h' }) : wpAny (model prog w) A (Builtin.SmallTypes.ownedTupleIsFree (.ref z)) Q E s := by
  unfold Builtin.SmallTypes.ownedTupleIsFree
  refine wpAny_bind (wpAny_field hz rfl (x := f0) rfl ?_)
  rcases h0 with rfl | ⟨T, rfl⟩
  · exact wpAny_pure (h true s.heap _ _ hz (.inl rfl) (Heap.SameBut.refl _ _))
  · show wpAny _ _ (loadIfAlive ((T : Int).toNat) >>= _) _ _ _
    refine wpAny_bind (alive_any ?_)
    cases s.heap.get? ((T : Int).toNat) with
    | none =>
      simp only [Option.isNone_none, if_true]
      exact wpAny_pure (h true s.heap _ _ hz (.inr ⟨T, rfl⟩) (Heap.SameBut.refl _ _))
    | some oT =>
      simp only [Option.isNone_some, Bool.false_eq_true, if_false]
      refine wpAny_bind (wpAny_field hz rfl (x := .bool f1) rfl ?_)
      cases f1 with
      | true =>
        rw [if_neg (show ¬ ((Value.bool true != Value.bool true) = true) from Bool.false_ne_true)]
        exact wpAny_pure (h false s.heap _ _ hz (.inr ⟨T, rfl⟩) (Heap.SameBut.refl _ _))
      | false =>
        rw [if_pos (show (Value.bool false != Value.bool true) = true from rfl)]
        exact wpAny_bind (wpAny_setField_rec hz (by simp) fun h₁ hz₁ hs₁ => wpAny_pure (h false h₁ (rawInt T) true hz₁ (.inr ⟨T, rfl⟩) hs₁))
theorem wpAny_updateSeqT {T : Addr} {vs : Array Value} {x : Value} {k : Nat} {Q : Unit → Shared → Prop} (hT : IsT s.heap T vs) (hsz : vs.size ≤ sizeLine)
    (h : ∀ h', IsT h' T (vs.setIfInBounds k x) → Heap.SameBut T s.heap h' → Q () { s with heap := h' }) :
    wpAny (model prog w) A (updateSeq T (·.setIfInBounds k x)) Q E s := by
  refine wpAny_updateSeq hT rfl (h _ ?_ (Heap.SameBut.update ..)) hsz (by rw [Array.size_setIfInBounds]; omega)
  rw [IsT, Heap.get?_update_self _ hT rfl]
  simp [Obj.mapSeq]
/-- one turn: all have an item -/
theorem zip_next_item {z TI TO : Addr} {ps : List (Addr × Addr)} {k : Nat} {f0 : Value} {f1 : Bool} {old : Array Value} {vs : List Value} {Q : Value → Shared → Prop} (D : Ap z TI TO ps) (hne : ps ≠ [])
    (hz : IsZ s.heap z TI TO f0 f1) (h0 : f0 = .none ∨ ∃ T, f0 = rawInt T) (hTI : IsT s.heap TI (ps.map fun p => Value.ref p.1).toArray) (hTO : IsT s.heap TO old) (hol : old.size = ps.length)
    (hi : ∀ p ∈ ps, s.heap.IsListIter p.1 p.2 k) (hvl : vs.length = ps.length) (hn : ps.length ≤ sizeLine) (hv : ∀ (i : Nat) (p : Addr × Addr), ps[i]? = some p → ∃ items, s.heap.IsList p.2 items ∧ items[k]? = vs[i]?)
    (hQ : ∀ h' g0 g1 new, IsZ h' z TI TO g0 g1 → (g0 = .none ∨ ∃ T, g0 = rawInt T) → IsT h' TO new → new.size = ps.length → (∀ p ∈ ps, h'.IsListIter p.1 p.2 (k + 1)) → IsT h' s.heap.objs.size vs.toArray → h'.objs.size = s.heap.objs.size + 1 →
      (∀ c o, c ≠ z → c ≠ TO → c ∉ ps.map (·.1) → s.heap.get? c = some o → h'.get? c = some o) → Q (.ref s.heap.objs.size) { s with heap := h' }) :
    wpAny (model prog w) A (Builtin.«zip.__next__» ⟨[.ref z], []⟩) (fun fin s' => ∃ v, fin = .done (.ret v) ∧ Q v s') E s := by
  show wpAny _ _ (field (.ref z) 2 >>= _) _ _ _
  refine wpAny_bind (wpAny_field hz rfl (x := .bool false) rfl ?_)
  show wpAny _ _ (field (.ref z) 3 >>= _) _ _ _
  refine wpAny_bind (wpAny_field hz rfl (x := .ref TI) rfl ?_)
  refine wpAny_bind (wpAny_seqItems hTI rfl ?_)
  simp only
  have he : (ps.map fun p => Value.ref p.1).toArray.isEmpty = false := by
    cases ps with
    | nil => exact absurd rfl hne
    | cons p ps => rfl
  rw [he]
  show wpAny _ _ (Builtin.SmallTypes.ownedTupleIsFree (.ref z) >>= _) _ _ _
  refine wpAny_bind (free_any hz h0 fun b h₁ g0 g1 hz₁ hg hs₁ => ?_)
  cases b with
  | true =>
    simp only [if_true]
    refine wpAny_bind (wpAny_rule ?_)
    refine wpAny_bind (wpAny_field hz₁ rfl (x := .ref TO) rfl ?_)
    refine wpAny_bind (wpAny_setField_rec hz₁ (by simp) fun h₂ hz₂ hs₂ => ?_)
    refine wpAny_bind ?_
    replace hz₂ : IsZ h₂ z TI TO .ellipsis g1 := hz₂
    replace hs₂ : Heap.SameBut z h₁ h₂ := hs₂
    have nd := D.nd
    rw [List.nodup_cons, List.nodup_cons, List.nodup_cons] at nd
    obtain ⟨nz, nTI, nTO, nits⟩ := nd
    have zTO : TO ≠ z := fun e => nz (by simp [e])
    have itz : ∀ p ∈ ps, p.1 ≠ z := fun p hp e => nz (by rw [← e]; exact List.mem_cons_of_mem _ (List.mem_cons_of_mem _ (List.mem_map_of_mem hp)))
    have itTO : ∀ p ∈ ps, p.1 ≠ TO := fun p hp e => nTO (by rw [← e]; exact List.mem_map_of_mem hp)
    have up₂ : ∀ c o, c ≠ z → s.heap.get? c = some o → h₂.get? c = some o := fun c o c1 e => hs₂.extBut _ _ c1 (hs₁.extBut _ _ c1 e)
    refine wpAny_forIn_list _ (fun rest b s' => b = (none, ()) ∧ ∃ (done todo : List (Addr × Addr)) (h : Heap) (arr : Array Value), ps = done ++ todo ∧ rest = (todo.map fun p => Value.ref p.1).zipIdx done.length ∧ s' = { s with heap := h } ∧ IsZ h z TI TO .ellipsis g1 ∧ IsT h TO arr ∧ arr.size = ps.length ∧ (∀ j, j < done.length → arr[j]? = vs[j]?) ∧ (∀ p ∈ done, h.IsListIter p.1 p.2 (k + 1)) ∧ (∀ p ∈ todo, h.IsListIter p.1 p.2 k) ∧ h.objs.size = s.heap.objs.size ∧ ∀ c o, c ≠ z → c ≠ TO → c ∉ ps.map (·.1) → s.heap.get? c = some o → h.get? c = some o) _ ?turn ?fin _ _ ?init
    case init =>
      exact ⟨rfl, [], ps, h₂, old, rfl, rfl, rfl, hz₂, up₂ _ _ zTO hTO, hol, fun j h => absurd h (Nat.not_lt_zero _), fun p h => (nomatch h), fun p hp => (hi p hp).at fun o e => up₂ _ o (itz p hp) e, by rw [hs₂.1, hs₁.1], fun c o c1 _ _ e => up₂ c o c1 e⟩
    case turn =>
      rintro x rest b s' ⟨rfl, dn, td, h, arr, e1, e2, rfl, iz, it, ia, iv, id1, it1, isz, iup⟩
      cases td with
      | nil => cases e2
      | cons p td =>
        rw [List.map_cons, List.zipIdx_cons] at e2
        obtain ⟨rfl, rfl⟩ := List.cons.inj e2
        have hp : p ∈ ps := by rw [e1]; simp
        have hpi : ps[dn.length]? = some p := by rw [e1, List.getElem?_append_right (Nat.le_refl _), Nat.sub_self]; rfl
        obtain ⟨items, hl, hx⟩ := hv _ _ hpi
        have hlt : dn.length < vs.length := by rw [hvl, e1, List.length_append, List.length_cons]; omega
        rw [List.getElem?_eq_getElem hlt] at hx
        have nl := D.ap p hp
        have hl' : h.IsList p.2 items := hl.at fun o e => iup _ o (fun z => nl (by simp [z])) (fun z => nl (by simp [z])) (fun z => nl (by simp at z ⊢; exact .inr (.inr (.inr z)))) e
        dsimp only
        refine wpAny_bind (wpAny_onRaise ?_)
        show wpAny _ _ (Builtin.SmallTypes.nextOf (.ref p.1) >>= _) _ _ _
        refine wpAny_bind (wpAny_nextOf_list_item (s := { s with heap := h }) (it1 p (by simp)) hl' hx fun h3 hi3 hs3 => wpAny_pure ?_)
        replace hs3 : Heap.SameBut p.1 h h3 := hs3
        have it3 : IsT h3 TO arr := hs3.extBut _ _ (Ne.symm (itTO p hp)) it
        refine wpAny_bind (wpAny_seqItems it3 rfl ?_)
        simp only
        refine wpAny_bind (wpAny_updateSeqT (s := { s with heap := h3 }) it3 (by omega) fun h4 it4 hs4 => ?_)
        replace hs4 : Heap.SameBut TO h3 h4 := hs4
        refine wpAny_bind (wpAny_letGo (wpAny_pure ?_))
        refine ⟨rfl, dn ++ [p], td, h4, _, by rw [e1, List.append_assoc]; rfl, by rw [List.length_append]; rfl, rfl, hs4.extBut _ _ (Ne.symm zTO) (hs3.extBut _ _ (Ne.symm (itz p hp)) iz), it4, by rw [Array.size_setIfInBounds]; exact ia, fun j hj => ?_, fun q hq => ?_, fun q hq => ?_, by rw [hs4.1, hs3.1]; exact isz, fun c o c1 c2 c3 e => hs4.extBut _ _ c2 (hs3.extBut _ _ (fun z => c3 (by rw [z]; exact List.mem_map_of_mem hp)) (iup c o c1 c2 c3 e))⟩
        · rw [List.length_append, List.length_singleton] at hj
          rw [Array.getElem?_setIfInBounds]
          by_cases e : dn.length = j
          · rw [if_pos e, if_pos (by omega), ← e, List.getElem?_eq_getElem hlt]
          · rw [if_neg e]
            exact iv j (by omega)
        · have nx := nits
          rw [e1, List.map_append, List.map_cons, List.nodup_append] at nx
          rcases List.mem_append.mp hq with hq | hq
          · have hqp : q ∈ ps := by rw [e1]; exact List.mem_append.mpr (.inl hq)
            have ne : q.1 ≠ p.1 := fun z => nx.2.2 q.1 (List.mem_map_of_mem hq) p.1 (by simp) z
            exact ((id1 q hq).extBut hs3.extBut ne).extBut hs4.extBut (itTO q hqp)
          · rw [List.mem_singleton.mp hq]
            exact hi3.extBut hs4.extBut (itTO p hp)
        · have nx := nits
          rw [e1, List.map_append, List.map_cons, List.nodup_append, List.nodup_cons] at nx
          have hqp : q ∈ ps := by rw [e1]; simp [hq]
          have ne : q.1 ≠ p.1 := fun z => nx.2.1.1 (by rw [← z]; exact List.mem_map_of_mem hq)
          exact ((it1 q (by simp [hq])).extBut hs3.extBut ne).extBut hs4.extBut (itTO q hqp)
    case fin =>
      rintro b s' ⟨rfl, dn, td, h, arr, e1, e2, rfl, iz, it, ia, iv, id1, it1, isz, iup⟩
      cases td with
      | cons p td => rw [List.map_cons, List.zipIdx_cons] at e2; cases e2
      | nil =>
        rw [List.append_nil] at e1
        subst e1
        have ev : arr = vs.toArray := by
          apply Array.ext_getElem?
          intro j
          by_cases hj : j < ps.length
          · rw [iv j hj, List.getElem?_toArray]
          · rw [Array.getElem?_eq_none (by omega), List.getElem?_toArray, List.getElem?_eq_none (by omega)]
        subst ev
        dsimp only
        refine wpAny_bind (wpAny_seqItems it rfl ?_)
        simp only
        refine wpAny_bind (wpAny_newTuple ?_ (by show vs.toArray.toList.length ≤ sizeLine; rw [List.toList_toArray]; omega))
        show wpAny _ _ (Builtin.SmallTypes.ownedTupleHandOut (.ref z) (.ref h.objs.size) >>= _) _ _ { s with heap := h.push { cls := .type "tuple", data := .seq vs.toArray } }
        refine wpAny_bind ?_
        unfold Builtin.SmallTypes.ownedTupleHandOut
        have hz₆ : IsZ (h.push { cls := .type "tuple", data := .seq vs.toArray }) z TI TO .ellipsis g1 := Heap.get?_push_of_some _ iz
        refine wpAny_bind (wpAny_setField_rec hz₆ (by simp) fun h₇ hz₇ hs₇ => ?_)
        replace hz₇ : IsZ h₇ z TI TO (rawInt h.objs.size) g1 := hz₇
        replace hs₇ : Heap.SameBut z (h.push { cls := .type "tuple", data := .seq vs.toArray }) h₇ := hs₇
        refine wpAny_setField_rec hz₇ (by simp) fun h₈ hz₈ hs₈ => ?_
        replace hz₈ : IsZ h₈ z TI TO (rawInt h.objs.size) false := hz₈
        replace hs₈ : Heap.SameBut z h₇ h₈ := hs₈
        have up : ∀ c o, c ≠ z → h.get? c = some o → h₈.get? c = some o := fun c o c1 e => hs₈.extBut _ _ c1 (hs₇.extBut _ _ c1 (Heap.get?_push_of_some _ e))
        have hzlt : z < h.objs.size := Heap.lt_size iz
        have hT₈ : IsT h₈ h.objs.size vs.toArray := hs₈.extBut _ _ (Nat.ne_of_gt hzlt) (hs₇.extBut _ _ (Nat.ne_of_gt hzlt) (Heap.get?_push_size _ rfl))
        have hz8 : h₈.objs.size = h.objs.size + 1 := by rw [hs₈.1, hs₇.1, Heap.size_push]
        refine wpAny_pure ⟨_, rfl, ?_⟩
        rw [isz] at hz₈ hT₈ hz8 ⊢
        exact hQ h₈ _ _ _ hz₈ (.inr ⟨_, rfl⟩) (up _ _ zTO it) ia (fun p hp => (id1 p hp).at fun o e => up _ o (itz p hp) e) hT₈ hz8 fun c o c1 c2 c3 e => up c o c1 (iup c o c1 c2 c3 e)
  | false =>
    simp only [Bool.false_eq_true, if_false]
    have nd := D.nd
    rw [List.nodup_cons, List.nodup_cons, List.nodup_cons] at nd
    obtain ⟨nz, nTI, nTO, nits⟩ := nd
    have zTO : TO ≠ z := fun e => nz (by simp [e])
    have itz : ∀ p ∈ ps, p.1 ≠ z := fun p hp e => nz (by rw [← e]; exact List.mem_cons_of_mem _ (List.mem_cons_of_mem _ (List.mem_map_of_mem hp)))
    have up₂ : ∀ c o, c ≠ z → s.heap.get? c = some o → h₁.get? c = some o := fun c o c1 e => hs₁.extBut _ _ c1 e
    refine wpAny_bind ?_
    rw [← Array.forIn_toList]
    refine wpAny_forIn_list _ (fun rest b s' => ∃ (done todo : List (Addr × Addr)) (h : Heap), b = (none, (vs.take done.length).toArray) ∧ ps = done ++ todo ∧ rest = (todo.map fun p => Value.ref p.1) ∧ s' = { s with heap := h } ∧ IsZ h z TI TO g0 g1 ∧ IsT h TO old ∧ (∀ p ∈ done, h.IsListIter p.1 p.2 (k + 1)) ∧ (∀ p ∈ todo, h.IsListIter p.1 p.2 k) ∧ h.objs.size = s.heap.objs.size ∧ ∀ c o, c ≠ z → c ∉ ps.map (·.1) → s.heap.get? c = some o → h.get? c = some o) _ ?turn ?fin _ _ ?init
    case init =>
      exact ⟨[], ps, h₁, rfl, rfl, rfl, rfl, hz₁, up₂ _ _ zTO hTO, fun p h => (nomatch h), fun p hp => (hi p hp).at fun o e => up₂ _ o (itz p hp) e, by rw [hs₁.1], fun c o c1 _ e => up₂ c o c1 e⟩
    case turn =>
      rintro x rest b s' ⟨dn, td, h, rfl, e1, e2, rfl, iz, it, id1, it1, isz, iup⟩
      cases td with
      | nil => cases e2
      | cons p td =>
        rw [List.map_cons] at e2
        obtain ⟨rfl, rfl⟩ := List.cons.inj e2
        have hp : p ∈ ps := by rw [e1]; simp
        have hpi : ps[dn.length]? = some p := by rw [e1, List.getElem?_append_right (Nat.le_refl _), Nat.sub_self]; rfl
        obtain ⟨items, hl, hx⟩ := hv _ _ hpi
        have hlt : dn.length < vs.length := by rw [hvl, e1, List.length_append, List.length_cons]; omega
        rw [List.getElem?_eq_getElem hlt] at hx
        have nl := D.ap p hp
        have hl' : h.IsList p.2 items := hl.at fun o e => iup _ o (fun z => nl (by simp [z])) (fun z => nl (by simp at z ⊢; exact .inr (.inr (.inr z)))) e
        dsimp only
        refine wpAny_bind (wpAny_holding ?_)
        show wpAny _ _ (Builtin.SmallTypes.nextOf (.ref p.1) >>= _) _ _ _
        refine wpAny_bind (wpAny_nextOf_list_item (s := { s with heap := h }) (it1 p (by simp)) hl' hx fun h3 hi3 hs3 => wpAny_pure ?_)
        replace hs3 : Heap.SameBut p.1 h h3 := hs3
        refine wpAny_pure ?_
        refine ⟨dn ++ [p], td, h3, ?_, by rw [e1, List.append_assoc]; rfl, rfl, rfl, hs3.extBut _ _ (Ne.symm (itz p hp)) iz, hs3.extBut _ _ (fun z => nTO (by rw [z]; exact List.mem_map_of_mem hp)) it, fun q hq => ?_, fun q hq => ?_, by rw [hs3.1]; exact isz, fun c o c1 c3 e => hs3.extBut _ _ (fun z => c3 (by rw [z]; exact List.mem_map_of_mem hp)) (iup c o c1 c3 e)⟩
        · have : vs.take (dn.length + 1) = vs.take dn.length ++ [vs[dn.length]] := by rw [List.take_succ, List.getElem?_eq_getElem hlt]; rfl
          rw [List.length_append, List.length_singleton, this, List.push_toArray]
        · have nx := nits
          rw [e1, List.map_append, List.map_cons, List.nodup_append] at nx
          rcases List.mem_append.mp hq with hq | hq
          · have ne : q.1 ≠ p.1 := fun z => nx.2.2 q.1 (List.mem_map_of_mem hq) p.1 (by simp) z
            exact (id1 q hq).extBut hs3.extBut ne
          · rw [List.mem_singleton.mp hq]
            exact hi3
        · have nx := nits
          rw [e1, List.map_append, List.map_cons, List.nodup_append, List.nodup_cons] at nx
          have ne : q.1 ≠ p.1 := fun z => nx.2.1.1 (by rw [← z]; exact List.mem_map_of_mem hq)
          exact (it1 q (by simp [hq])).extBut hs3.extBut ne
    case fin =>
      rintro b s' ⟨dn, td, h, rfl, e1, e2, rfl, iz, it, id1, it1, isz, iup⟩
      cases td with
      | cons p td => rw [List.map_cons] at e2; cases e2
      | nil =>
        rw [List.append_nil] at e1
        subst e1
        rw [← hvl, List.take_length]
        dsimp only
        refine wpAny_bind (wpAny_newTuple ?_ (by show vs.toArray.toList.length ≤ sizeLine; rw [List.toList_toArray]; omega))
        refine wpAny_pure ⟨_, rfl, ?_⟩
        have hT₈ : IsT (h.push { cls := .type "tuple", data := .seq vs.toArray }) h.objs.size vs.toArray := Heap.get?_push_size _ rfl
        have hz8 : (h.push { cls := .type "tuple", data := .seq vs.toArray }).objs.size = h.objs.size + 1 := Heap.size_push ..
        have up : ∀ c o, h.get? c = some o → (h.push { cls := .type "tuple", data := .seq vs.toArray }).get? c = some o := fun c o e => Heap.get?_push_of_some _ e
        show Q (.ref h.objs.size) { s with heap := h.push { cls := .type "tuple", data := .seq vs.toArray } }
        rw [isz] at hT₈ hz8 ⊢
        exact hQ _ _ _ _ (up _ _ iz) hg (up _ _ it) hol (fun p hp => (id1 p hp).at fun o e => up _ o e) hT₈ hz8 fun c o c1 c2 c3 e => up c o (iup c o c1 c3 e)
/-- one turn: row m has none left -/
theorem zip_next_end {z TI TO : Addr} {ps : List (Addr × Addr)} {k m : Nat} {f0 : Value} {f1 : Bool} {old : Array Value} {Q : Fin → Shared → Prop} (hh : A.handled = none) (D : Ap z TI TO ps)
    (hz : IsZ s.heap z TI TO f0 f1) (h0 : f0 = .none ∨ ∃ T, f0 = rawInt T) (hTI : IsT s.heap TI (ps.map fun p => Value.ref p.1).toArray) (hTO : IsT s.heap TO old) (hol : old.size = ps.length)
    (hi : ∀ p ∈ ps, s.heap.IsListIter p.1 p.2 k) (hn : ps.length ≤ sizeLine) (hm : m < ps.length) (hv : ∀ (i : Nat) (p : Addr × Addr), i < m → ps[i]? = some p → ∃ items x, s.heap.IsList p.2 items ∧ items[k]? = some x) (hw : ∀ p : Addr × Addr, ps[m]? = some p → ∃ items, s.heap.IsList p.2 items ∧ items[k]? = none)
    (hE : ∀ h' e, (∀ c o, c ≠ z → c ≠ TO → c ∉ ps.map (·.1) → s.heap.get? c = some o → h'.get? c = some o) → (∃ o, h'.get? e = some o ∧ o.cls = .type "StopIteration") → E (.ref e) { s with heap := h' }) :
    wpAny (model prog w) A (Builtin.«zip.__next__» ⟨[.ref z], []⟩) Q E s := by
  show wpAny _ _ (field (.ref z) 2 >>= _) _ _ _
  refine wpAny_bind (wpAny_field hz rfl (x := .bool false) rfl ?_)
  show wpAny _ _ (field (.ref z) 3 >>= _) _ _ _
  refine wpAny_bind (wpAny_field hz rfl (x := .ref TI) rfl ?_)
  refine wpAny_bind (wpAny_seqItems hTI rfl ?_)
  simp only
  have he : (ps.map fun p => Value.ref p.1).toArray.isEmpty = false := by
    cases ps with
    | nil => cases hm
    | cons p ps => rfl
  rw [he]
  show wpAny _ _ (Builtin.SmallTypes.ownedTupleIsFree (.ref z) >>= _) _ _ _
  have nd := D.nd
  rw [List.nodup_cons, List.nodup_cons, List.nodup_cons] at nd
  obtain ⟨nz, nTI, nTO, nits⟩ := nd
  have zTO : TO ≠ z := fun e => nz (by simp [e])
  have itz : ∀ p ∈ ps, p.1 ≠ z := fun p hp e => nz (by rw [← e]; exact List.mem_cons_of_mem _ (List.mem_cons_of_mem _ (List.mem_map_of_mem hp)))
  have itTO : ∀ p ∈ ps, p.1 ≠ TO := fun p hp e => nTO (by rw [← e]; exact List.mem_map_of_mem hp)
  refine wpAny_bind (free_any hz h0 fun b h₁ g0 g1 hz₁ hg hs₁ => ?_)
  cases b with
  | true =>
    simp only [if_true]
    refine wpAny_bind (wpAny_rule ?_)
    refine wpAny_bind (wpAny_field hz₁ rfl (x := .ref TO) rfl ?_)
    refine wpAny_bind (wpAny_setField_rec hz₁ (by simp) fun h₂ hz₂ hs₂ => ?_)
    refine wpAny_bind ?_
    replace hz₂ : IsZ h₂ z TI TO .ellipsis g1 := hz₂
    replace hs₂ : Heap.SameBut z h₁ h₂ := hs₂
    have up₂ : ∀ c o, c ≠ z → s.heap.get? c = some o → h₂.get? c = some o := fun c o c1 e => hs₂.extBut _ _ c1 (hs₁.extBut _ _ c1 e)
    refine wpAny_forIn_list _ (fun rest b s' => b = (none, ()) ∧ ∃ (done todo : List (Addr × Addr)) (h : Heap) (arr : Array Value), ps = done ++ todo ∧ done.length ≤ m ∧ rest = (todo.map fun p => Value.ref p.1).zipIdx done.length ∧ s' = { s with heap := h } ∧ IsZ h z TI TO .ellipsis g1 ∧ IsT h TO arr ∧ arr.size = ps.length ∧ (∀ p ∈ todo, h.IsListIter p.1 p.2 k) ∧ ∀ c o, c ≠ z → c ≠ TO → c ∉ ps.map (·.1) → s.heap.get? c = some o → h.get? c = some o) _ ?turn ?fin _ _ ?init
    case init =>
      exact ⟨rfl, [], ps, h₂, old, rfl, Nat.zero_le _, rfl, rfl, hz₂, up₂ _ _ zTO hTO, hol, fun p hp => (hi p hp).at fun o e => up₂ _ o (itz p hp) e, fun c o c1 _ _ e => up₂ c o c1 e⟩
    case turn =>
      rintro x rest b s' ⟨rfl, dn, td, h, arr, e1, ed, e2, rfl, iz, it, ia, it1, iup⟩
      cases td with
      | nil => cases e2
      | cons p td =>
        rw [List.map_cons, List.zipIdx_cons] at e2
        obtain ⟨rfl, rfl⟩ := List.cons.inj e2
        have hp : p ∈ ps := by rw [e1]; simp
        have hpi : ps[dn.length]? = some p := by rw [e1, List.getElem?_append_right (Nat.le_refl _), Nat.sub_self]; rfl
        have nl := D.ap p hp
        have keepL : ∀ {items}, s.heap.IsList p.2 items → h.IsList p.2 items := fun hl => hl.at fun o e => iup _ o (fun z => nl (by simp [z])) (fun z => nl (by simp [z])) (fun z => nl (by simp at z ⊢; exact .inr (.inr (.inr z)))) e
        dsimp only
        refine wpAny_bind (wpAny_onRaise ?_)
        show wpAny _ _ (Builtin.SmallTypes.nextOf (.ref p.1) >>= _) _ _ _
        by_cases hd : dn.length = m
        · obtain ⟨items, hl, hx⟩ := hw p (by rw [← hd]; exact hpi)
          refine wpAny_bind (wpAny_nextOf_list_end (s := { s with heap := h }) hh (it1 p (by simp)) (keepL hl) hx fun h3 e hs3 he => ?_)
          obtain ⟨oe, hoe, hce⟩ := he
          have hz3 : IsZ h3 z TI TO .ellipsis g1 := hs3 _ _ (Ne.symm (itz p hp)) iz
          have hez : e ≠ z := fun x => by subst x; rw [hz3] at hoe; cases hoe; simp at hce
          refine wpAny_setField_rec hz3 (by simp) fun h4 _ hs4 => hE h4 e (fun c o c1 c2 c3 x => hs4.extBut _ _ c1 (hs3 _ _ (fun z => c3 (by rw [z]; exact List.mem_map_of_mem hp)) (iup c o c1 c2 c3 x))) ⟨oe, hs4.extBut _ _ hez hoe, hce⟩
        · obtain ⟨items, x, hl, hx⟩ := hv _ _ (by omega) hpi
          refine wpAny_bind (wpAny_nextOf_list_item (s := { s with heap := h }) (it1 p (by simp)) (keepL hl) hx fun h3 hi3 hs3 => wpAny_pure ?_)
          replace hs3 : Heap.SameBut p.1 h h3 := hs3
          have it3 : IsT h3 TO arr := hs3.extBut _ _ (Ne.symm (itTO p hp)) it
          refine wpAny_bind (wpAny_seqItems it3 rfl ?_)
          simp only
          refine wpAny_bind (wpAny_updateSeqT (s := { s with heap := h3 }) it3 (by omega) fun h4 it4 hs4 => ?_)
          replace hs4 : Heap.SameBut TO h3 h4 := hs4
          refine wpAny_bind (wpAny_letGo (wpAny_pure ?_))
          refine ⟨rfl, dn ++ [p], td, h4, _, by rw [e1, List.append_assoc]; rfl, by rw [List.length_append]; simp; omega, by rw [List.length_append]; rfl, rfl, hs4.extBut _ _ (Ne.symm zTO) (hs3.extBut _ _ (Ne.symm (itz p hp)) iz), it4, by rw [Array.size_setIfInBounds]; exact ia, fun q hq => ?_, fun c o c1 c2 c3 e => hs4.extBut _ _ c2 (hs3.extBut _ _ (fun z => c3 (by rw [z]; exact List.mem_map_of_mem hp)) (iup c o c1 c2 c3 e))⟩
          have nx := nits
          rw [e1, List.map_append, List.map_cons, List.nodup_append, List.nodup_cons] at nx
          have hqp : q ∈ ps := by rw [e1]; simp [hq]
          have ne : q.1 ≠ p.1 := fun z => nx.2.1.1 (by rw [← z]; exact List.mem_map_of_mem hq)
          exact ((it1 q (by simp [hq])).extBut hs3.extBut ne).extBut hs4.extBut (itTO q hqp)
    case fin =>
      rintro b s' ⟨rfl, dn, td, h, arr, e1, ed, e2, rfl, iz, it, ia, it1, iup⟩
      exfalso
      cases td with
      | cons p td => rw [List.map_cons, List.zipIdx_cons] at e2; cases e2
      | nil =>
        rw [List.append_nil] at e1
        subst e1
        omega
  | false =>
    simp only [Bool.false_eq_true, if_false]
    have up₂ : ∀ c o, c ≠ z → s.heap.get? c = some o → h₁.get? c = some o := fun c o c1 e => hs₁.extBut _ _ c1 e
    refine wpAny_bind ?_
    rw [← Array.forIn_toList]
    refine wpAny_forIn_list _ (fun rest b s' => b.1 = none ∧ ∃ (done todo : List (Addr × Addr)) (h : Heap), ps = done ++ todo ∧ done.length ≤ m ∧ rest = (todo.map fun p => Value.ref p.1) ∧ s' = { s with heap := h } ∧ (∀ p ∈ todo, h.IsListIter p.1 p.2 k) ∧ ∀ c o, c ≠ z → c ∉ ps.map (·.1) → s.heap.get? c = some o → h.get? c = some o) _ ?turn ?fin _ _ ?init
    case init =>
      exact ⟨rfl, [], ps, h₁, rfl, Nat.zero_le _, rfl, rfl, fun p hp => (hi p hp).at fun o e => up₂ _ o (itz p hp) e, fun c o c1 _ e => up₂ c o c1 e⟩
    case turn =>
      rintro x rest b s' ⟨hb, dn, td, h, e1, ed, e2, rfl, it1, iup⟩
      cases td with
      | nil => cases e2
      | cons p td =>
        rw [List.map_cons] at e2
        obtain ⟨rfl, rfl⟩ := List.cons.inj e2
        have hp : p ∈ ps := by rw [e1]; simp
        have hpi : ps[dn.length]? = some p := by rw [e1, List.getElem?_append_right (Nat.le_refl _), Nat.sub_self]; rfl
        have nl := D.ap p hp
        have keepL : ∀ {items}, s.heap.IsList p.2 items → h.IsList p.2 items := fun hl => hl.at fun o e => iup _ o (fun z => nl (by simp [z])) (fun z => nl (by simp at z ⊢; exact .inr (.inr (.inr z)))) e
        refine wpAny_bind (wpAny_holding ?_)
        show wpAny _ _ (Builtin.SmallTypes.nextOf (.ref p.1) >>= _) _ _ _
        by_cases hd : dn.length = m
        · obtain ⟨items, hl, hx⟩ := hw p (by rw [← hd]; exact hpi)
          refine wpAny_bind (wpAny_nextOf_list_end (s := { s with heap := h }) hh (it1 p (by simp)) (keepL hl) hx fun h3 e hs3 he => ?_)
          exact hE h3 e (fun c o c1 c2 c3 x => hs3 _ _ (fun z => c3 (by rw [z]; exact List.mem_map_of_mem hp)) (iup c o c1 c3 x)) he
        · obtain ⟨items, x, hl, hx⟩ := hv _ _ (by omega) hpi
          refine wpAny_bind (wpAny_nextOf_list_item (s := { s with heap := h }) (it1 p (by simp)) (keepL hl) hx fun h3 hi3 hs3 => wpAny_pure ?_)
          replace hs3 : Heap.SameBut p.1 h h3 := hs3
          refine wpAny_pure ?_
          refine ⟨rfl, dn ++ [p], td, h3, by rw [e1, List.append_assoc]; rfl, by rw [List.length_append]; simp; omega, rfl, rfl, fun q hq => ?_, fun c o c1 c3 e => hs3.extBut _ _ (fun z => c3 (by rw [z]; exact List.mem_map_of_mem hp)) (iup c o c1 c3 e)⟩
          have nx := nits
          rw [e1, List.map_append, List.map_cons, List.nodup_append, List.nodup_cons] at nx
          have ne : q.1 ≠ p.1 := fun z => nx.2.1.1 (by rw [← z]; exact List.mem_map_of_mem hq)
          exact (it1 q (by simp [hq])).extBut hs3.extBut ne
    case fin =>
      rintro b s' ⟨hb, dn, td, h, e1, ed, e2, rfl, it1, iup⟩
      exfalso
      cases td with
      | cons p td => rw [List.map_cons] at e2; cases e2
      | nil =>
        rw [List.append_nil] at e1
        subst e1
        omega
/-- no rows at all -/
theorem zip_next_none {z TI TO : Addr} {f0 : Value} {f1 : Bool} {Q : Fin → Shared → Prop} (hh : A.handled = none) (hz : IsZ s.heap z TI TO f0 f1) (hTI : IsT s.heap TI #[])
    (hE : ∀ h' e, (∀ c o, s.heap.get? c = some o → h'.get? c = some o) → (∃ o, h'.get? e = some o ∧ o.cls = .type "StopIteration") → E (.ref e) { s with heap := h' }) :
    wpAny (model prog w) A (Builtin.«zip.__next__» ⟨[.ref z], []⟩) Q E s := by
  show wpAny _ _ (field (.ref z) 2 >>= _) _ _ _
  refine wpAny_bind (wpAny_field hz rfl (x := .bool false) rfl ?_)
  show wpAny _ _ (field (.ref z) 3 >>= _) _ _ _
  refine wpAny_bind (wpAny_field hz rfl (x := .ref TI) rfl ?_)
  refine wpAny_bind (wpAny_seqItems hTI rfl ?_)
  simp only
  rw [show (#[] : Array Value).isEmpty = true from rfl, if_pos rfl]
  refine wpAny_bind (wpAny_rule ?_)
  refine wpAny_bind ?_
  unfold Builtin.SmallTypes.stopIteration
  show wpAny _ _ (newExc (.type "StopIteration") [] >>= _) _ _ _
  refine wpAny_bind ?_
  simp only [newExc, newTuple]
  refine wpAny_bind (wpAny_newObj_type ?_ (by size_fits))
  refine wpAny_bind (m := firstArgMember _ _) (wpAny_of_eq (a := Value.none) (by first | rfl | (simp only [firstArgMember]; rfl)) ?_)
  refine wpAny_newObj_type ?_ (by size_fits)
  simp only [raiseNew]
  refine wpAny_bind (wpAny_handled ?_)
  first | rw [show A.in1.handled = none from hh] | rw [hh]
  refine wpAny_bind (wpAny_pure (wpAny_throw ?_))
  exact hE _ _ (fun c o e => Heap.get?_push_of_some _ (Heap.get?_push_of_some _ e)) ⟨_, Heap.get?_push_size _ rfl, rfl⟩
theorem pyNext_item {z TI TO : Addr} {ps : List (Addr × Addr)} {k : Nat} {f0 : Value} {f1 : Bool} {old : Array Value} {vs : List Value} {Q : Option Value → Shared → Prop} (D : Ap z TI TO ps) (hne : ps ≠ [])
    (hz : IsZ s.heap z TI TO f0 f1) (h0 : f0 = .none ∨ ∃ T, f0 = rawInt T) (hTI : IsT s.heap TI (ps.map fun p => Value.ref p.1).toArray) (hTO : IsT s.heap TO old) (hol : old.size = ps.length)
    (hi : ∀ p ∈ ps, s.heap.IsListIter p.1 p.2 k) (hvl : vs.length = ps.length) (hn : ps.length ≤ sizeLine) (hv : ∀ (i : Nat) (p : Addr × Addr), ps[i]? = some p → ∃ items, s.heap.IsList p.2 items ∧ items[k]? = vs[i]?)
    (hQ : ∀ h' g0 g1 new, IsZ h' z TI TO g0 g1 → (g0 = .none ∨ ∃ T, g0 = rawInt T) → IsT h' TO new → new.size = ps.length → (∀ p ∈ ps, h'.IsListIter p.1 p.2 (k + 1)) → IsT h' s.heap.objs.size vs.toArray → h'.objs.size = s.heap.objs.size + 1 →
      (∀ c o, c ≠ z → c ≠ TO → c ∉ ps.map (·.1) → s.heap.get? c = some o → h'.get? c = some o) → Q (some (.ref s.heap.objs.size)) { s with heap := h' }) :
    wpAny (model prog w) A (pyNext (.ref z)) Q E s := by
  have hT : s.TypeIs (.ref z) "zip" := ⟨_, hz, rfl⟩
  unfold pyNext
  exact wpAny_bind (wpAny_attempt (wpAny_callSpecial?_slot (name := Str.ofString "__next__") hT F.slot_zip_next
    (wpAny_call_entry F.slot_zip_next hT F.entry_zip_next
      (zip_next_item D hne hz h0 hTI hTO hol hi hvl hn hv fun h' g0 g1 new a1 a2 a3 a4 a5 a6 a7 a8 => wpAny_pure (hQ h' g0 g1 new a1 a2 a3 a4 a5 a6 a7 a8)) (F.args_zip_next_1 _))))
theorem pyNext_end {z TI TO : Addr} {ps : List (Addr × Addr)} {k m : Nat} {f0 : Value} {f1 : Bool} {old : Array Value} {Q : Option Value → Shared → Prop} (hh : A.handled = none) (D : Ap z TI TO ps)
    (hz : IsZ s.heap z TI TO f0 f1) (h0 : f0 = .none ∨ ∃ T, f0 = rawInt T) (hTI : IsT s.heap TI (ps.map fun p => Value.ref p.1).toArray) (hTO : IsT s.heap TO old) (hol : old.size = ps.length)
    (hi : ∀ p ∈ ps, s.heap.IsListIter p.1 p.2 k) (hn : ps.length ≤ sizeLine) (hm : m < ps.length) (hv : ∀ (i : Nat) (p : Addr × Addr), i < m → ps[i]? = some p → ∃ items x, s.heap.IsList p.2 items ∧ items[k]? = some x) (hw : ∀ p : Addr × Addr, ps[m]? = some p → ∃ items, s.heap.IsList p.2 items ∧ items[k]? = none)
    (hQ : ∀ h', (∀ c o, c ≠ z → c ≠ TO → c ∉ ps.map (·.1) → s.heap.get? c = some o → h'.get? c = some o) → Q none { s with heap := h' }) : wpAny (model prog w) A (pyNext (.ref z)) Q E s := by
  have hT : s.TypeIs (.ref z) "zip" := ⟨_, hz, rfl⟩
  unfold pyNext
  refine wpAny_bind (wpAny_attempt (wpAny_callSpecial?_slot (name := Str.ofString "__next__") hT F.slot_zip_next
    (wpAny_call_entry F.slot_zip_next hT F.entry_zip_next (zip_next_end hh D hz h0 hTI hTO hol hi hn hm hv hw fun h' e hk he => ?_) (F.args_zip_next_1 _))))
  obtain ⟨o, ho, hc⟩ := he
  refine wpAny_bind (wpAny_isInstance (T := "StopIteration") (b := true) ⟨o, ho, hc⟩ isSubtype_stop ?_)
  exact wpAny_pure (hQ _ hk)
theorem pyNext_none {z TI TO : Addr} {f0 : Value} {f1 : Bool} {Q : Option Value → Shared → Prop} (hh : A.handled = none) (hz : IsZ s.heap z TI TO f0 f1) (hTI : IsT s.heap TI #[])
    (hQ : ∀ h', (∀ c o, s.heap.get? c = some o → h'.get? c = some o) → Q none { s with heap := h' }) : wpAny (model prog w) A (pyNext (.ref z)) Q E s := by
  have hT : s.TypeIs (.ref z) "zip" := ⟨_, hz, rfl⟩
  unfold pyNext
  refine wpAny_bind (wpAny_attempt (wpAny_callSpecial?_slot (name := Str.ofString "__next__") hT F.slot_zip_next
    (wpAny_call_entry F.slot_zip_next hT F.entry_zip_next (zip_next_none hh hz hTI fun h' e hk he => ?_) (F.args_zip_next_1 _))))
  obtain ⟨o, ho, hc⟩ := he
  refine wpAny_bind (wpAny_isInstance (T := "StopIteration") (b := true) ⟨o, ho, hc⟩ isSubtype_stop ?_)
  exact wpAny_pure (hQ _ hk)
theorem pyIter_zip {z TI TO : Addr} {f0 : Value} {f1 : Bool} {Q : Value → Shared → Prop} (hz : IsZ s.heap z TI TO f0 f1) (h : Q (.ref z) s) : wpAny (model prog w) A (pyIter (.ref z)) Q E s := by
  have hT : s.TypeIs (.ref z) "zip" := ⟨_, hz, rfl⟩
  refine wpAny_pyIter_slot hT F.slot_zip_iter (wpAny_call_entry F.slot_zip_iter hT F.entry_zip_iter ?_ (F.args_zip_iter_1 _))
  show wpAny _ _ (ret (.ref z)) _ _ s
  exact wpAny_pure ⟨_, rfl, "zip", _, hT, F.slot_zip_next.lookup, h⟩
end
theorem typeCall_zip (us : List Value) : checkTypeCall "zip" ⟨us, []⟩ = pure () := by kernel_rfl
theorem newCall_zip : ∀ us : List Value, checkBuiltinCall "zip.__new__" ⟨.type "zip" :: us, []⟩ = pure ()
  | [] => by kernel_rfl
  | a :: us => by kernel_rfl
theorem args_object_init (a : Value) (us : List Value) : argsOk "object.__init__" ⟨a :: us, []⟩ := by
  unfold argsOk; rw [signature?_of (id := "object.__init__") (n := ['_', '_', 't', 'i', 'n', 'i', '_', '_']) (o := ['t', 'c', 'e', 'j', 'b', 'o']) (by kernel_rfl) F.owner_object]; kernel_rfl
def zipHs (h : Heap) : List Addr → Heap
  | [] => h
  | l :: ls => zipHs (h.push { cls := .type "list_iterator", data := .fields #[.ref l, .int 0 0] }) ls
theorem zipHs_size (h : Heap) (ls : List Addr) : (zipHs h ls).objs.size = h.objs.size + ls.length := by
  induction ls generalizing h with
  | nil => rfl
  | cons l ls ih =>
    show (zipHs _ ls).objs.size = _
    rw [ih, Heap.size_push, List.length_cons]
    omega
theorem zipHs_keep {h : Heap} {ls : List Addr} {c : Addr} {o : Obj} (e : h.get? c = some o) : (zipHs h ls).get? c = some o := by
  induction ls generalizing h with
  | nil => exact e
  | cons l ls ih => exact ih (Heap.get?_push_of_some _ e)
theorem zipHs_it {h : Heap} {ls : List Addr} {i : Nat} {l : Addr} (e : ls[i]? = some l) : (zipHs h ls).IsListIter (h.objs.size + i) l 0 := by
  induction ls generalizing h i with
  | nil => cases e
  | cons a ls ih =>
    cases i with
    | zero =>
      cases e
      exact ⟨_, zipHs_keep (h := h.push { cls := .type "list_iterator", data := .fields #[.ref l, .int 0 0] }) (Heap.get?_push_size _ rfl), rfl, rfl⟩
    | succ i =>
      have := ih (h := h.push { cls := .type "list_iterator", data := .fields #[.ref a, .int 0 0] }) (i := i) e
      rw [Heap.size_push] at this
      rw [show h.objs.size + (i + 1) = h.objs.size + 1 + i by omega]
      exact this
def zipEnd (h : Heap) (ls : List Addr) : Heap :=
  let a := (zipHs h ls).push { cls := .type "tuple", data := .seq ((List.range ls.length).map fun i => Value.ref (h.objs.size + i)).toArray }
  let b := a.push { cls := .type "tuple", data := .seq (ls.map fun _ => Value.none).toArray }
  b.push { cls := .type "zip", data := .fields #[.none, .bool false, .bool false, .ref (h.objs.size + ls.length), .ref (h.objs.size + ls.length + 1)] }
theorem iterAll_ok {prog : Program} {w : World} {A : Around} {E : Value → Shared → Prop} {s : Shared} {ls : List Addr} {Q : List Value → Shared → Prop} (hl : ∀ l ∈ ls, ∃ xs, s.heap.IsList l xs)
    (h : Q ((List.range ls.length).map fun i => Value.ref (s.heap.objs.size + i)) { s with heap := zipHs s.heap ls }) : wpAny (model prog w) A (Builtin.SmallTypes.iterAll (ls.map Value.ref)) Q E s := by
  unfold Builtin.SmallTypes.iterAll
  refine wpAny_bind (wpAny_forIn_list _ (fun rest b s' => ∃ dn td, ls = dn ++ td ∧ rest = td.map Value.ref ∧ b.toList = (List.range dn.length).map (fun i => Value.ref (s.heap.objs.size + i)) ∧ s' = { s with heap := zipHs s.heap dn }) _ ?turn ?fin _ _ ?init)
  case init => exact ⟨[], ls, rfl, rfl, rfl, rfl⟩
  case turn =>
    rintro x rest b s' ⟨dn, td, e1, e2, e3, rfl⟩
    cases td with
    | nil => cases e2
    | cons l td =>
      rw [List.map_cons] at e2
      obtain ⟨rfl, rfl⟩ := List.cons.inj e2
      obtain ⟨xs, hx⟩ := hl l (by rw [e1]; simp)
      have hx' : (zipHs s.heap dn).IsList l xs := hx.at fun o e => zipHs_keep e
      refine wpAny_bind (wpAny_holding (wpAny_pyIter_list (s := { s with heap := zipHs s.heap dn }) hx' ?_))
      refine wpAny_pure ⟨dn ++ [l], td, by rw [e1, List.append_assoc]; rfl, rfl, ?_, ?_⟩
      · rw [Array.toList_push, e3, List.length_append, List.length_singleton, List.range_succ, List.map_append]
        show _ ++ [Value.ref (zipHs s.heap dn).objs.size] = _
        rw [zipHs_size]
        rfl
      · have : ∀ (h : Heap) (dn : List Addr), zipHs h (dn ++ [l]) = (zipHs h dn).push { cls := .type "list_iterator", data := .fields #[.ref l, .int 0 0] } := by
          intro h dn
          induction dn generalizing h with
          | nil => rfl
          | cons a dn ih => exact ih _
        rw [this]
  case fin =>
    rintro b s' ⟨dn, td, e1, e2, e3, rfl⟩
    cases td with
    | cons p td => cases e2
    | nil =>
      rw [List.append_nil] at e1
      subst e1
      refine wpAny_pure ?_
      rw [e3]
      exact h
theorem meets_new (ls : List Addr) (hn : ls.length ≤ sizeLine) :
    Meets (Builtin.«zip.__new__» ⟨.type "zip" :: ls.map Value.ref, []⟩) (fun _ R s => (∀ l ∈ ls, ∃ xs, s.heap.IsList l xs) ∧
      R (.ok (.ret (.ref (s.heap.objs.size + ls.length + 2)))) { s with heap := zipEnd s.heap ls }) :=
  .of_wp fun prog w A R s h => by
    obtain ⟨hp, g, d, tk, os⟩ := s; obtain ⟨hl, h⟩ := h
    have hsub := sub_zip
    wp_walk using iterAll_ok hl
    refine ⟨_, rfl, ?_⟩
    have e1 : List.map (fun _ => Value.none) ((List.range ls.length).map fun i => Value.ref (hp.objs.size + i)) = ls.map fun _ => Value.none := by
      rw [List.map_map, show (ls.map fun _ => Value.none) = List.replicate ls.length Value.none from List.map_const']
      show List.map (fun _ => Value.none) _ = _
      rw [List.map_const', List.length_range]
    unfold zipEnd at h
    simp only [Heap.size_push, zipHs_size] at h ⊢
    rw [e1]
    exact h
section
variable {prog : Program} {w : World} {A : Around} {E : Value → Shared → Prop} {s : Shared}
theorem call_zip {ls : List Addr} {Q : Value → Shared → Prop} (hn : ls.length ≤ sizeLine) (hl : ∀ l ∈ ls, ∃ xs, s.heap.IsList l xs)
    (h : ∀ h' ps z TI TO, ps.map (·.2) = ls → (∀ c ∈ z :: TI :: TO :: ps.map (·.1), s.heap.objs.size ≤ c) → Ap z TI TO ps → IsZ h' z TI TO .none false → IsT h' TI (ps.map fun p => Value.ref p.1).toArray → (∃ old, IsT h' TO old ∧ old.size = ps.length) → (∀ p ∈ ps, h'.IsListIter p.1 p.2 0) →
      (∀ c o, s.heap.get? c = some o → h'.get? c = some o) → Q (.ref z) { s with heap := h' }) :
    wpAny (model prog w) A (call (.type "zip") (ls.map Value.ref)) Q E s := by
  refine callType_new F.called_zip (by decide) (typeCall_zip _) (newCall_zip _) (fun obj => args_object_init obj _) F.entry_zip_new (meets_new ls hn) ⟨hl, ?_⟩
  have g1 : (zipEnd s.heap ls).get? (s.heap.objs.size + ls.length + 2) = some { cls := .type "zip", data := .fields #[.none, .bool false, .bool false, .ref (s.heap.objs.size + ls.length), .ref (s.heap.objs.size + ls.length + 1)] } := by
    unfold zipEnd
    have : (((zipHs s.heap ls).push { cls := .type "tuple", data := .seq ((List.range ls.length).map fun i => Value.ref (s.heap.objs.size + i)).toArray }).push { cls := .type "tuple", data := .seq (ls.map fun _ => Value.none).toArray }).objs.size = s.heap.objs.size + ls.length + 2 := by
      rw [Heap.size_push, Heap.size_push, zipHs_size]
    rw [← this]
    exact Heap.get?_push_size _ rfl
  have g2 : IsT (zipEnd s.heap ls) (s.heap.objs.size + ls.length) ((List.range ls.length).map fun i => Value.ref (s.heap.objs.size + i)).toArray := by
    unfold zipEnd
    refine Heap.get?_push_of_some _ (Heap.get?_push_of_some _ ?_)
    rw [← zipHs_size]
    exact Heap.get?_push_size _ rfl
  have g3 : IsT (zipEnd s.heap ls) (s.heap.objs.size + ls.length + 1) (ls.map fun _ => Value.none).toArray := by
    unfold zipEnd
    refine Heap.get?_push_of_some _ ?_
    have : ((zipHs s.heap ls).push { cls := .type "tuple", data := .seq ((List.range ls.length).map fun i => Value.ref (s.heap.objs.size + i)).toArray }).objs.size = s.heap.objs.size + ls.length + 1 := by
      rw [Heap.size_push, zipHs_size]
    rw [← this]
    exact Heap.get?_push_size _ rfl
  have gk : ∀ c o, (zipHs s.heap ls).get? c = some o → (zipEnd s.heap ls).get? c = some o := fun c o e => Heap.get?_push_of_some _ (Heap.get?_push_of_some _ (Heap.get?_push_of_some _ e))
  have hll : ∀ l ∈ ls, l < s.heap.objs.size := fun l hl' => by obtain ⟨xs, o, ho, _⟩ := hl l hl'; exact Heap.lt_size ho
  have nn : ∀ a b : Nat, a ≠ b → ¬ ((a : Addr) = b) := fun _ _ h => h
  have m1 : ((List.range ls.length).map fun i => (s.heap.objs.size + i, ls.getD i 0)).map (·.2) = ls := by
    rw [List.map_map]
    refine List.ext_getElem (by simp) fun i h1 h2 => ?_
    simp only [List.getElem_map, List.getElem_range, Function.comp, List.getD_eq_getElem?_getD]
    rw [List.getElem?_eq_getElem h2]
    rfl
  have m2 : ((List.range ls.length).map fun i => (s.heap.objs.size + i, ls.getD i 0)).map (·.1) = (List.range ls.length).map fun i => s.heap.objs.size + i := by
    rw [List.map_map]; rfl
  refine ⟨⟨_, g1, rfl⟩, h _ ((List.range ls.length).map fun i => (s.heap.objs.size + i, ls.getD i 0)) _ _ _ m1 ?_ ⟨?_, ?_⟩ g1 ?_ ⟨_, g3, by simp⟩ ?_ fun c o e => gk c o (zipHs_keep e)⟩
  · intro c hc
    rw [m2] at hc
    simp only [List.mem_cons, List.mem_map, List.mem_range] at hc
    rcases hc with rfl | rfl | rfl | ⟨i, _, rfl⟩ <;> omega
  · rw [m2, List.nodup_cons, List.nodup_cons, List.nodup_cons]
    refine ⟨?_, ?_, ?_, ?_⟩
    · simp only [List.mem_cons, List.mem_map, List.mem_range, not_or, not_exists, not_and]
      exact ⟨nn _ _ (by omega), nn _ _ (by omega), fun i hi => nn _ _ (by omega)⟩
    · simp only [List.mem_cons, List.mem_map, List.mem_range, not_or, not_exists, not_and]
      exact ⟨nn _ _ (by omega), fun i hi => nn _ _ (by omega)⟩
    · simp only [List.mem_map, List.mem_range, not_exists, not_and]
      exact fun i hi => nn _ _ (by omega)
    · exact List.pairwise_map.mpr (List.nodup_range.imp fun h z => h (Nat.add_left_cancel z))
  · intro p hp hc
    have hpl : p.2 ∈ ls := by rw [← m1]; exact List.mem_map_of_mem hp
    have := hll _ hpl
    rw [m2] at hc
    simp only [List.mem_cons, List.mem_map, List.mem_range] at hc
    rcases hc with e | e | e | ⟨i, _, e⟩
    · exact nn _ _ (Nat.ne_of_lt (Nat.lt_of_lt_of_le this (by omega))) e
    · exact nn _ _ (Nat.ne_of_lt (Nat.lt_of_lt_of_le this (by omega))) e
    · exact nn _ _ (Nat.ne_of_lt (Nat.lt_of_lt_of_le this (by omega))) e
    · exact nn _ _ (Nat.ne_of_lt (Nat.lt_of_lt_of_le this (Nat.le_add_right _ _))) e.symm
  · rw [List.map_map]
    exact g2
  · intro p hp
    obtain ⟨i, hi, rfl⟩ := List.mem_map.mp hp
    have hi := List.mem_range.mp hi
    have : ls[i]? = some (ls.getD i 0) := by rw [List.getD_eq_getElem?_getD, List.getElem?_eq_getElem hi]; rfl
    exact (zipHs_it this).at fun o e => gk _ o e
end
end ZN

set_option Elab.async false
set_option linter.all false
set_option maxRecDepth 100000
set_option maxHeartbeats 1000000
/-! zip(*rows) walked by a name -/
namespace ZN
open PySem PySem.Spec PyProof.Rows L2
/-- the lists at as as they stand at each turn, the items in a new tuple -/
def ItN (K : PySem.W.Frag) (as : List Addr) : It :=
  ⟨fun i H => as ≠ [] ∧ ∀ a ∈ as, ∃ (xs : List V) (x : V), SqL K H a xs ∧ xs[i]? = some x,
    fun i H v H' => ∃ (T : Addr) (ys : List V), v = .ref T ∧ H T = none ∧ H' = upd H T (.tup ys) ∧ ys.length = as.length ∧ ∀ (j : Nat) (a : Addr), as[j]? = some a → ∀ xs : List V, SqL K H a xs → xs[i]? = ys[j]?,
    fun i H => as = [] ∨ ((∀ a ∈ as, ∃ xs : List V, SqL K H a xs) ∧ ∃ a ∈ as, ∃ xs : List V, SqL K H a xs ∧ xs.length ≤ i)⟩
theorem least {P : Nat → Prop} {m : Nat} (h : P m) : ∃ m, P m ∧ ∀ i, i < m → ¬ P i := by
  induction m using Nat.strongRecOn with
  | _ m ih =>
    by_cases c : ∃ i, i < m ∧ P i
    · obtain ⟨i, hi, hp⟩ := c
      exact ih i hi hp
    · exact ⟨m, h, fun i hi hp => c ⟨i, hi, hp⟩⟩
theorem rows_of {X : Cx} {pins : List (Addr × Obj)} {σ : L2.St} {H : Hp} {s : Shared} {i : Nat} (I : Inv X pins σ H s) : ∀ as : List Addr, (∀ a ∈ as, ∃ (xs : List V) (x : V), SqL X.K H a xs ∧ xs[i]? = some x) →
    ∃ (ys : List V) (vs : List Value), ys.length = as.length ∧ vs.length = as.length ∧ Vals ys vs ∧ (∀ (j : Nat) (a : Addr), as[j]? = some a → ∃ items, s.heap.IsList a items ∧ items[i]? = vs[j]?) ∧ ∀ (j : Nat) (a : Addr), as[j]? = some a → ∀ xs : List V, SqL X.K H a xs → xs[i]? = ys[j]?
  | [], _ => ⟨[], [], rfl, rfl, .nil, fun j a e => (nomatch e), fun j a e => (nomatch e)⟩
  | a :: as, h => by
    obtain ⟨ys, vs, h1, h2, h3, h4, h5⟩ := rows_of I as fun b hb => h b (by simp [hb])
    obtain ⟨xs, x, hq, hx⟩ := h a (by simp)
    obtain ⟨its, rv, p, hz⟩ := I.list hq
    obtain ⟨u, hu, ru⟩ := rv.get hx
    refine ⟨x :: ys, u :: vs, by simp [h1], by simp [h2], .cons ru h3, fun j b e => ?_, fun j b e xs' hq' => ?_⟩
    · cases j with
      | zero => cases e; exact ⟨_, p.isList, by simpa using hu⟩
      | succ j => exact h4 j b e
    · cases j with
      | zero => cases e; rw [I.list_inj hq' hq]; exact hx
      | succ j => exact h5 j b e xs' hq'
theorem turn_zipN {P : Program} {w : World} {K : PySem.W.Frag} {nm : Str} {tpos : Pos} {z TI TO : Addr} {ps : List (Addr × Addr)} (D : Ap z TI TO ps) (hn : ps.length ≤ sizeLine) :
    Turn P w K (.Name nm tpos) (ItN K (ps.map (·.2))) (z :: TI :: TO :: ps.map (·.1)) z (fun i h => ∃ f0 f1, IsZ h z TI TO f0 f1 ∧ (f0 = .none ∨ ∃ T, f0 = rawInt T) ∧ IsT h TI (ps.map fun p => Value.ref p.1).toArray ∧ (∃ old, IsT h TO old ∧ old.size = ps.length) ∧ ∀ p ∈ ps, h.IsListIter p.1 p.2 i) where
  mem := List.mem_cons_self
  obj := fun i h st c hc => by
    obtain ⟨f0, f1, hz, h0, hTI, ⟨old, hTO, ho⟩, hi⟩ := st
    rcases List.mem_cons.mp hc with rfl | hc
    · exact ⟨_, hz, fun v q => nomatch q⟩
    rcases List.mem_cons.mp hc with rfl | hc
    · exact ⟨_, hTI, fun v q => nomatch q⟩
    rcases List.mem_cons.mp hc with rfl | hc
    · exact ⟨_, hTO, fun v q => nomatch q⟩
    obtain ⟨p, hp, rfl⟩ := List.mem_map.mp hc
    obtain ⟨o, e, _, d⟩ := hi p hp
    exact ⟨o, e, fun v q => by rw [d] at q; cases q⟩
  keep := fun i h h' st k => by
    obtain ⟨f0, f1, hz, h0, hTI, ⟨old, hTO, ho⟩, hi⟩ := st
    exact ⟨f0, f1, k z (by simp) _ hz, h0, k TI (by simp) _ hTI, ⟨old, k TO (by simp) _ hTO, ho⟩, fun p hp => (hi p hp).at fun o q => k p.1 (by simp only [List.mem_cons]; exact .inr (.inr (.inr (List.mem_map_of_mem hp)))) o q⟩
  item := by
    intro X hP hw hK hc i pins s σ H E I hf st hg
    subst hP hw hK
    obtain ⟨f0, f1, hz, h0, hTI, ⟨old, hTO, ho⟩, hi⟩ := st
    obtain ⟨hne, hg⟩ := hg
    obtain ⟨ys, vs, l1, l2, rv, hv, hy⟩ := rows_of I _ hg
    rw [List.length_map] at l1 l2
    refine pyNext_item D (fun e => hne (by rw [e]; rfl)) hz h0 hTI hTO ho hi l2 hn (fun j p e => hv j p.2 (by rw [List.getElem?_map, e]; rfl)) fun h' g0 g1 new a1 a2 a3 a4 a5 a6 a7 a8 => ?_
    refine ⟨_, rfl, ?_⟩
    show wpAny _ _ (pure ()) _ _ _
    refine wpAny_pure ?_
    have hxx : ObjOk X.prog X.w (upd H s.heap.objs.size (.tup ys)) h' s.heap.objs.size (.tup ys) :=
      ⟨by rw [l1]; exact hn, vs, rv, ⟨_, a6, rfl, _, rfl⟩⟩
    have I1 : Inv X pins σ (upd H s.heap.objs.size (.tup ys)) { s with heap := h' } :=
      I.turnedNew (t' := s.toks) (ch := z :: TI :: TO :: ps.map (·.1)) (fun c o hb q => a8 c o (fun e => hb (by simp [e])) (fun e => hb (by simp [e])) (fun e => hb (by simp only [List.mem_cons]; exact .inr (.inr (.inr e)))) q) hf (Nat.le_refl _) hxx
    have nd := D.nd
    rw [List.nodup_cons, List.nodup_cons, List.nodup_cons] at nd
    obtain ⟨nz, nTI, nTO, nits⟩ := nd
    refine ⟨.ref s.heap.objs.size, _, I1, rfl, ⟨_, ys, rfl, I.hok.fresh (Nat.le_refl _), rfl, by rw [List.length_map]; exact l1, hy⟩, ⟨g0, g1, a1, a2, a8 _ _ (fun e => nz (by simp [e])) (fun e => nTI (by simp [e])) (fun e => nTI (List.mem_cons_of_mem _ e)) hTI, ⟨new, a3, a4⟩, a5⟩, fun c hcm => ?_⟩
    have hlt : c < s.heap.objs.size := by
      rcases List.mem_cons.mp hcm with rfl | hc
      · exact Heap.lt_size hz
      rcases List.mem_cons.mp hc with rfl | hc
      · exact Heap.lt_size hTI
      rcases List.mem_cons.mp hc with rfl | hc
      · exact Heap.lt_size hTO
      obtain ⟨p, hp, rfl⟩ := List.mem_map.mp hc
      obtain ⟨o, e, _⟩ := hi p hp
      exact Heap.lt_size e
    rw [upd_ne (Nat.ne_of_lt hlt)]
    exact (hf c hcm).1
  done := by
    intro X hP hw hK hc i pins s σ H E I hf st hg
    subst hP hw hK
    obtain ⟨f0, f1, hz, h0, hTI, ⟨old, hTO, ho⟩, hi⟩ := st
    rcases hg with hg | ⟨hall, a, ha, xs, hq, hx⟩
    · have e : ps = [] := List.map_eq_nil_iff.mp hg
      subst e
      exact pyNext_none (I.ok.hd hc) hz hTI fun h' hk => ⟨rfl, I.turnedL (t' := s.toks) (ch := z :: TI :: TO :: []) (fun c o hb q => hk c o q) hf⟩
    · obtain ⟨j, hj, ej⟩ := List.getElem_of_mem ha
      rw [List.length_map] at hj
      obtain ⟨m, ⟨p, xs', hp, hq', hx'⟩, hmin⟩ := least (P := fun m => ∃ (p : Addr × Addr) (xs : List V), ps[m]? = some p ∧ SqL X.K H p.2 xs ∧ xs.length ≤ i) (m := j) ⟨ps[j], xs, List.getElem?_eq_getElem hj, by rw [List.getElem_map] at ej; rw [ej]; exact hq, hx⟩
      have hm : m < ps.length := (List.getElem?_eq_some_iff.mp hp).1
      refine pyNext_end (I.ok.hd hc) D hz h0 hTI hTO ho hi hn hm (fun k q hk hq => ?_) (fun q hq => ?_) fun h' hk => ⟨rfl, I.turnedL (t' := s.toks) (ch := z :: TI :: TO :: ps.map (·.1)) (fun c o hb q => hk c o (fun e => hb (by simp [e])) (fun e => hb (by simp [e])) (fun e => hb (by simp only [List.mem_cons]; exact .inr (.inr (.inr e)))) q) hf⟩
      · obtain ⟨zs, hzs⟩ := hall q.2 (List.mem_map_of_mem (List.mem_of_getElem? hq))
        obtain ⟨its, rv, p1, _⟩ := I.list hzs
        have := rv.length
        have hlt : i < zs.length := Nat.lt_of_not_le fun c => hmin k hk ⟨q, zs, hq, hzs, c⟩
        exact ⟨_, its[i]'(by omega), p1.isList, by rw [List.getElem?_toArray, List.getElem?_eq_getElem]⟩
      · rw [hp] at hq
        cases hq
        obtain ⟨its, rv, p1, _⟩ := I.list hq'
        have := rv.length
        exact ⟨_, p1.isList, by rw [List.getElem?_toArray, List.getElem?_eq_none (by omega)]⟩
  self := fun A i s Q E st h => by
    obtain ⟨f0, f1, hz, _⟩ := st
    exact pyIter_zip hz h
def iZipS (K : PySem.W.Frag) (te : TE) : TI := fun σ H R => te σ H fun v H1 => ∃ (a : Addr) (as : List Addr), v = .ref a ∧ (SqT K H1 a (as.map V.ref) ∨ SqL K H1 a (as.map V.ref)) ∧ (∀ b ∈ as, ∃ ys : List V, SqL K H1 b ys) ∧ R (ItN K as) H1
theorem pi_zipS {X : Cx} {e : Expr} {te : TE} {nm : Str} {p p2 pos tpos : Pos} (hg : Gl X "zip") (hm : X.mg "zip" = none) (he : PE X e te) (hs : starEach [.Starred e p2] X.env = [(true, eval e X.env)] := by rfl) :
    PI X (.Name nm tpos) (.Call (.Name "zip" p) [.Starred e p2] [] pos) (iZipS X.K te) := by
  refine ⟨fun pins s σ H R I h => ?_⟩
  refine Call_ (ld_blt I hg hm PyProof.Rows.boot_zip ?_)
  rw [hs]
  refine PySem.W.ks_call (P := fun _ => True) rfl (fun h _ => ⟨.machine, .inr (.inl rfl), PySem.W.Looks.of_pure rfl⟩) (PySem.W.ks_lone ?_)
  refine thn (he.run pins s σ H _ I h) fun v s1 ⟨y, H1, I1, ry, a, as, ey, hxs, hls, q⟩ => ?_
  subst ey
  obtain rfl : v = Value.ref a := ry
  have hz : as.length ≤ sizeLine := by
    rcases hxs with hx | hx
    · obtain ⟨its, _, _, hz⟩ := I1.tuple hx
      rwa [List.length_map] at hz
    · obtain ⟨its, _, _, hz⟩ := I1.list hx
      rwa [List.length_map] at hz
  refine StX.star_any I1 hxs fun us s2 I2 rv => ⟨trivial, ?_⟩
  have eu : us = as.map Value.ref := by
    clear hxs hls q hz
    induction as generalizing us with
    | nil => cases rv; rfl
    | cons b as ih =>
      cases rv with
      | cons r rr =>
        cases r
        rw [ih _ rr]
        rfl
  subst eu
  show wpAny _ _ (call (.type "zip") (as.map Value.ref)) _ _ _
  refine call_zip hz (fun l hl => ?_) fun h' ps z TI TO e1 e2 D hz' hTI hTO hi hk => pyIter_zip hz' ?_
  · obtain ⟨ys, hy⟩ := hls l hl
    obtain ⟨its, _, p1, _⟩ := I2.list hy
    exact ⟨_, p1.isList⟩
  · have I3 : Inv X pins σ H1 { s2 with heap := h' } := I2.kept (t' := s2.toks) hk
    have el : ps.length = as.length := by rw [← e1, List.length_map]
    refine ⟨z, z :: TI :: TO :: ps.map (·.1), _, _, H1, rfl, I3, turn_zipN D (by rw [el]; exact hz), ⟨_, _, hz', .inl rfl, hTI, hTO, hi⟩, fun c hc => I2.fpOk (e2 c hc) (I2.hok.fresh (e2 c hc)), ?_⟩
    rw [e1]
    exact q
end ZN

set_option Elab.async false
set_option linter.all false
set_option maxRecDepth 100000
namespace Vc
open PySem PySem.Spec PyProof.Rows L2
open Enc (enc)
def minLen {α : Type} : List (List α) → Nat
  | [] => 0
  | [r] => r.length
  | r :: s :: rs => min r.length (minLen (s :: rs))
/-- the columns -/
def zipC {α : Type} (l : List (List α)) : List (Tup α) := (List.range (minLen l)).map fun k => ⟨l.filterMap fun r => r[k]?⟩
theorem minLen_lt {α : Type} : ∀ {l : List (List α)} {k : Nat}, k < minLen l → l ≠ [] ∧ ∀ r ∈ l, k < r.length
  | [], k, h => absurd h (Nat.not_lt_zero _)
  | [r], k, h => ⟨by simp, fun s hs => by rw [List.mem_singleton.mp hs]; exact h⟩
  | r :: s :: rs, k, h => by
    have h' : k < min r.length (minLen (s :: rs)) := h
    have := (minLen_lt (l := s :: rs) (k := k) (by omega)).2
    refine ⟨by simp, fun q hq => ?_⟩
    rcases List.mem_cons.mp hq with rfl | hq
    · omega
    · exact this q hq
theorem minLen_ge {α : Type} : ∀ {l : List (List α)} {k : Nat}, minLen l ≤ k → l = [] ∨ ∃ r ∈ l, r.length ≤ k
  | [], k, h => .inl rfl
  | [r], k, h => .inr ⟨r, by simp, h⟩
  | r :: s :: rs, k, h => by
    have h' : min r.length (minLen (s :: rs)) ≤ k := h
    right
    by_cases c : r.length ≤ k
    · exact ⟨r, by simp, c⟩
    · rcases minLen_ge (l := s :: rs) (k := k) (by omega) with e | ⟨q, hq, e⟩
      · cases e
      · exact ⟨q, List.mem_cons_of_mem _ hq, e⟩
section
variable {X : Cx} {Γ Γx : List SL} {e a b c ob : Expr} {es : List Expr} {rest : List Stmt} {pos p apos : Pos} {α β γ : Type} [Enc α] [Enc β] [Enc γ] {w w' : Bool} {τ : Type} {E : Eds τ}
theorem refs_of {K : PySem.W.Frag} {mg : Str → Option Value} {I : Hp} : ∀ {xs : List V} {l : List (List α)}, Rs K mg I xs (l.map enc) → ∃ as : List Addr, xs = as.map V.ref ∧ as.length = l.length ∧ ∀ (j : Nat) (a : Addr) (r : List α), as[j]? = some a → l[j]? = some r → ∃ ys, SqL K I a ys ∧ Rs K mg I ys (r.map enc)
  | _, [], h => by
    cases h
    exact ⟨[], rfl, rfl, fun j a r e => (nomatch e)⟩
  | _, r :: l, h => by
    cases h with
    | cons h1 h2 =>
    obtain ⟨q, ys, rfl, hq, hr⟩ := Vc.R.lst_inv h1
    obtain ⟨as, rfl, hl, hh⟩ := refs_of h2
    refine ⟨q :: as, rfl, by simp [hl], fun j a s e1 e2 => ?_⟩
    cases j with
    | zero => cases e1; cases e2; exact ⟨ys, hq, hr⟩
    | succ j => exact hh j a s e1 e2
theorem zrow {K : PySem.W.Frag} {mg : Str → Option Value} {I H : Hp} {i : Nat} : ∀ {l : List (List α)} {as : List Addr} {ys : List V}, as.length = l.length → ys.length = as.length → (∀ (j : Nat) (a : Addr) (r : List α), as[j]? = some a → l[j]? = some r → ∃ xs, SqL K H a xs ∧ Rs K mg I xs (r.map enc)) → (∀ (j : Nat) (a : Addr), as[j]? = some a → ∀ xs : List V, SqL K H a xs → xs[i]? = ys[j]?) → (∀ r ∈ l, i < r.length) → Rs K mg I ys ((l.filterMap fun r => r[i]?).map enc)
  | [], [], [], _, _, _, _, _ => .nil
  | r :: l, a :: as, y :: ys, h1, h2, h3, h4, h5 => by
    have hi := h5 r (by simp)
    rw [List.filterMap_cons, List.getElem?_eq_getElem hi, List.map_cons]
    obtain ⟨xs, hq, rs⟩ := h3 0 a r rfl rfl
    obtain ⟨v, ev, rv⟩ := rs.get (i := i) (x := enc r[i]) (by rw [List.getElem?_map, List.getElem?_eq_getElem hi]; rfl)
    have := h4 0 a rfl xs hq
    rw [ev] at this
    cases this
    exact .cons rv (zrow (by simpa using h1) (by simpa using h2) (fun j b s e1 e2 => h3 (j + 1) b s e1 e2) (fun j b e1 => h4 (j + 1) b e1) fun s hs => h5 s (by simp [hs]))
  | [], _ :: _, _, h, _, _, _, _ => by cases h
  | _ :: _, [], _, h, _, _, _, _ => by cases h
  | [], [], _ :: _, _, h, _, _, _ => by cases h
  | _ :: _, _ :: _, [], _, h, _, _, _ => by cases h
theorem yl_zip {K : PySem.W.Frag} {mg : Str → Option Value} {I H : Hp} {l : List (List α)} {as : List Addr} (hl : as.length = l.length) (h : ∀ (j : Nat) (a : Addr) (r : List α), as[j]? = some a → l[j]? = some r → ∃ ys, SqL K I a ys ∧ Rs K mg I ys (r.map enc)) (hs : Same I H) : Yl K mg (ZN.ItN K as) I H (zipC l) := fun i I2 H2 s1 s2 => by
  have s3 := s1.trans s2
  have h2 : ∀ (j : Nat) (a : Addr) (r : List α), as[j]? = some a → l[j]? = some r → ∃ ys, SqL K H2 a ys ∧ Rs K mg I2 ys (r.map enc) := fun j a r e1 e2 => by
    obtain ⟨ys, hq, hr⟩ := h j a r e1 e2
    exact ⟨ys, s3.seq hq, hr.mono s1⟩
  refine ⟨fun t ht => ?_, fun hi => ?_⟩
  · have hi : i < minLen l := by
      have := (List.getElem?_eq_some_iff.mp ht).1
      unfold zipC at this
      rwa [List.length_map, List.length_range] at this
    have et : t = ⟨l.filterMap fun r => r[i]?⟩ := by
      unfold zipC at ht
      rw [List.getElem?_map, List.getElem?_range hi] at ht
      exact (Option.some.inj ht).symm
    obtain ⟨hne, hall⟩ := minLen_lt hi
    refine ⟨⟨fun e => hne (List.length_eq_zero_iff.mp (by rw [← hl, e]; rfl)), fun a ha => ?_⟩, fun x H3 y => ?_⟩
    · obtain ⟨j, hj, ej⟩ := List.getElem_of_mem ha
      have hjl : j < l.length := by omega
      obtain ⟨ys, hq, hr⟩ := h2 j a l[j] (by rw [List.getElem?_eq_getElem hj, ej]) (List.getElem?_eq_getElem hjl)
      have hil := hall l[j] (List.getElem_mem hjl)
      obtain ⟨v, ev, _⟩ := hr.get (i := i) (x := enc l[j][i]) (by rw [List.getElem?_map, List.getElem?_eq_getElem hil]; rfl)
      exact ⟨ys, v, hq, ev⟩
    · obtain ⟨T2, ys, rfl, hT, rfl, hyl, hy⟩ := y
      have g := Gr.new (o := .tup ys) s2 hT
      have := zrow (I := I2) hl hyl h2 hy hall
      rw [et]
      exact ⟨_, g, .tup (.of upd_same) (this.mono g.i0)⟩
  · unfold zipC at hi
    rw [List.length_map, List.length_range] at hi
    rcases minLen_ge hi with e | ⟨r, hr, e⟩
    · exact .inl (List.length_eq_zero_iff.mp (by rw [hl, e]; rfl))
    · refine .inr ⟨fun a ha => ?_, ?_⟩
      · obtain ⟨j, hj, ej⟩ := List.getElem_of_mem ha
        obtain ⟨ys, hq, _⟩ := h2 j a (l[j]'(by omega)) (by rw [List.getElem?_eq_getElem hj, ej]) (List.getElem?_eq_getElem _)
        exact ⟨ys, hq⟩
      · obtain ⟨j, hj, ej⟩ := List.getElem_of_mem hr
        have hja : j < as.length := by omega
        obtain ⟨ys, hq, hrs⟩ := h2 j as[j] r (List.getElem?_eq_getElem hja) (by rw [List.getElem?_eq_getElem hj, ej])
        exact ⟨as[j], List.getElem_mem hja, ys, hq, by rw [hrs.length, List.length_map]; exact e⟩
/-- for name in zip(*rows) -/
theorem vi_zipS {nm : Str} {tpos p2 : Pos} {m : M (List (List α))} (hm : X.mg "zip" = none) (h : VX false X Γ e m) (hg : Gl X "zip" := by rfl) (hs : starEach [.Starred e p2] X.env = [(true, eval e X.env)] := by rfl) :
    VI X Γ (.Name nm tpos) (.Call (.Name "zip" p) [.Starred e p2] [] pos) (m >>= fun l => M.ok (zipC l)) := fun W tk σ I H T mw R o => by
  refine to_i (ZN.pi_zipS hg hm pe_of hs) (h.ap tk mw o.bind (fun l _ k v I1 H1 g1 r1 => ?_) fun _ z => z)
  obtain ⟨p, xs, rfl, hq, rs⟩ := Vc.R.lst_inv r1
  obtain ⟨as, rfl, hl, hh⟩ := refs_of rs
  refine ⟨p, as, rfl, .inr (g1.ih.seq hq), fun b hb => ?_, k _ I1 H1 g1 (yl_zip hl hh g1.ih)⟩
  obtain ⟨j, hj, ej⟩ := List.getElem_of_mem hb
  obtain ⟨ys, hq2, _⟩ := hh j b (l[j]'(by omega)) (by rw [List.getElem?_eq_getElem hj, ej]) (List.getElem?_eq_getElem _)
  exact ⟨ys, g1.ih.seq hq2⟩
/-- for name in zip(*tuple of rows) -/
theorem vi_zipST {nm : Str} {tpos p2 : Pos} {m : M (Tup (List α))} (hm : X.mg "zip" = none) (h : VX false X Γ e m) (hg : Gl X "zip" := by rfl) (hs : starEach [.Starred e p2] X.env = [(true, eval e X.env)] := by rfl) :
    VI X Γ (.Name nm tpos) (.Call (.Name "zip" p) [.Starred e p2] [] pos) (m >>= fun l => M.ok (zipC l.l)) := fun W tk σ I H T mw R o => by
  refine to_i (ZN.pi_zipS hg hm pe_of hs) (h.ap tk mw o.bind (fun l _ k v I1 H1 g1 r1 => ?_) fun _ z => z)
  obtain ⟨l⟩ := l
  obtain ⟨p, xs, rfl, hq, rs⟩ := Vc.R.tup_inv r1
  obtain ⟨as, rfl, hl, hh⟩ := refs_of rs
  change as.length = l.length at hl
  refine ⟨p, as, rfl, .inl (Same.seqT g1.ih hq), fun b hb => ?_, k _ I1 H1 g1 (yl_zip hl hh g1.ih)⟩
  obtain ⟨j, hj, ej⟩ := List.getElem_of_mem hb
  obtain ⟨ys, hq2, _⟩ := hh j b (l[j]'(by omega)) (by rw [List.getElem?_eq_getElem hj, ej]) (List.getElem?_eq_getElem _)
  exact ⟨ys, g1.ih.seq hq2⟩
end
end Vc

set_option Elab.async false
set_option linter.all false
set_option maxRecDepth 100000
namespace Vc
open PySem PySem.Spec PyProof.Rows L2
open Enc (enc)
section
variable {X : Cx} {Γ Γx : List SL} {e a b c ob : Expr} {es : List Expr} {rest : List Stmt} {pos p apos : Pos} {α β γ : Type} [Enc α] [Enc β] [Enc γ] {w w' : Bool} {τ : Type} {E : Eds τ}
def lmin (l : List Int) : Int := l.min?.getD 0
def lmax (l : List Int) : Int := l.max?.getD 0
theorem lmin_of {l : List Int} {m : Int} (h1 : m ∈ l) (h2 : ∀ y, y ∈ l → m ≤ y) : lmin l = m := by
  unfold lmin
  rw [List.min?_eq_some_iff.mpr ⟨h1, h2⟩]
  rfl
theorem lmax_of {l : List Int} {m : Int} (h1 : m ∈ l) (h2 : ∀ y, y ∈ l → y ≤ m) : lmax l = m := by
  unfold lmax
  rw [List.max?_eq_some_iff.mpr ⟨h1, h2⟩]
  rfl
theorem ve_minL {m : M (List Int)} (hc : X.calm = true) (hm : X.mg "min" = none) (h : VX true X Γ e m) (hg : Gl X "min" := by rfl) (hs : starEach [e] X.env = (false, eval e X.env) :: starEach [] X.env := by rfl) : VX w X Γ (.Call (.Name "min" p) [e] [] pos) (m >>= fun l => chk (0 < l.length) >>= fun _ => M.ok (lmin l)) := by
  have q := ve_bcall (w := w) (f := fun a : List Int × Unit => chk (0 < a.1.length) >>= fun _ => M.ok (lmin a.1)) (p := p) (pos := pos) (cr_min hc) hg hm (by decide +kernel) (va_cons h va_nil hs) (fun a vs I H s rs Q o => by
    obtain ⟨v, rfl, r⟩ := rs.one
    obtain ⟨p, xs, rfl, hq, rs⟩ := r.lst_inv
    have e := rs.ints
    subst e
    obtain ⟨hz, o2⟩ := o.chk
    exact ⟨p, a.1, rfl, hq, hz, fun k h1 h2 => o2 _ I H (.refl s) (by rw [lmin_of h1 h2]; exact .int _)⟩) (fun a ex z => by
      unfold chk at z
      split at z <;> cases z) (he := hs)
  refine q.congr ?_
  cases m <;> rfl
theorem ve_maxL {m : M (List Int)} (hc : X.calm = true) (hm : X.mg "max" = none) (h : VX true X Γ e m) (hg : Gl X "max" := by rfl) (hs : starEach [e] X.env = (false, eval e X.env) :: starEach [] X.env := by rfl) : VX w X Γ (.Call (.Name "max" p) [e] [] pos) (m >>= fun l => chk (0 < l.length) >>= fun _ => M.ok (lmax l)) := by
  have q := ve_bcall (w := w) (f := fun a : List Int × Unit => chk (0 < a.1.length) >>= fun _ => M.ok (lmax a.1)) (p := p) (pos := pos) (cr_max hc) hg hm (by decide +kernel) (va_cons h va_nil hs) (fun a vs I H s rs Q o => by
    obtain ⟨v, rfl, r⟩ := rs.one
    obtain ⟨p, xs, rfl, hq, rs⟩ := r.lst_inv
    have e := rs.ints
    subst e
    obtain ⟨hz, o2⟩ := o.chk
    exact ⟨p, a.1, rfl, hq, hz, fun k h1 h2 => o2 _ I H (.refl s) (by rw [lmax_of h1 h2]; exact .int _)⟩) (fun a ex z => by
      unfold chk at z
      split at z <;> cases z) (he := hs)
  refine q.congr ?_
  cases m <;> rfl
end
end Vc

set_option Elab.async false
set_option linter.all false
set_option maxRecDepth 100000
namespace Vc
open PySem PySem.Spec PyProof.Rows L2
open Enc (enc)
section
variable {X : Cx} {Γ Γx : List SL} {e a b c ob : Expr} {es : List Expr} {rest : List Stmt} {pos p apos : Pos} {α β γ : Type} [Enc α] [Enc β] [Enc γ] {w w' : Bool} {τ : Type} {E : Eds τ}
/-- l.count(k), ints -/
theorem ve_count {m : M (List Int)} {mk : M Int} (h : VX true X Γ ob m) (hk : VX true X Γ e mk) (hst : starEach [e] X.env = (false, eval e X.env) :: starEach [] X.env := by rfl) (hbase : attributeBase ob "count" X.env (eval ob X.env) = eval ob X.env := by rfl)
    (hfew : ((backTo pos (starEach [e] X.env)).all (fun x => !x.1) && (backToKw pos (keywordEach [] X.env)).all (fun x => x.1.isSome) && decide (([e] : List Expr).length + ([] : List Keyword).length + (if ([] : List Keyword).isEmpty then 0 else 1) < 30)) = true := by rfl)
    (hline : (apos.endLine == pos.line) = true := by rfl) (hpl : (backTo pos (starEach [] X.env)).any (·.1) = false := by rfl) : VX w X Γ (.Call (.Attribute ob "count" apos) [e] [] pos) (m >>= fun l => mk >>= fun k => M.ok ((l.count k : Nat) : Int)) := VX.le fun W tk σ I H T mw Q o => by
  refine to_t (pe_bm PySem.F.plainAttrs_list PySem.F.slot_list_count PySem.F.type_list_count mt_lcount pe_of (pa_cons pe_of pa_nil hst) hbase hfew hline hst hpl) (h.ap tk mw o.bind (fun l _ o1 v I1 H1 g1 r1 => ?_) fun _ z => z)
  obtain ⟨q, xs, rfl, hq, rs⟩ := Vc.R.lst_inv r1
  refine ⟨.inl ⟨rfl, xs, hq⟩, ?_⟩
  refine hk.ap tk (mw.gr g1) o1.bind (fun k _ o2 u I2 H2 g2 r2 => ?_) fun _ z => z.gr g1
  cases r2
  have e := rs.ints
  subst e
  exact ⟨q, l, k, rfl, rfl, (g2.h0.seq hq), o2 _ I2 H2 (g1.trans g2) (.int _)⟩
theorem eqInt (x y : Int) : eqV (.int x) (.int y) = (x == y) := rfl
/-- l.index(k), ints -/
theorem ve_index {m : M (List Int)} {mk : M Int} (h : VX true X Γ ob m) (hk : VX true X Γ e mk) (hst : starEach [e] X.env = (false, eval e X.env) :: starEach [] X.env := by rfl) (hbase : attributeBase ob "index" X.env (eval ob X.env) = eval ob X.env := by rfl)
    (hfew : ((backTo pos (starEach [e] X.env)).all (fun x => !x.1) && (backToKw pos (keywordEach [] X.env)).all (fun x => x.1.isSome) && decide (([e] : List Expr).length + ([] : List Keyword).length + (if ([] : List Keyword).isEmpty then 0 else 1) < 30)) = true := by rfl)
    (hline : (apos.endLine == pos.line) = true := by rfl) (hpl : (backTo pos (starEach [] X.env)).any (·.1) = false := by rfl) : VX w X Γ (.Call (.Attribute ob "index" apos) [e] [] pos) (m >>= fun l => mk >>= fun k => chk (k ∈ l) >>= fun _ => M.ok ((l.idxOf k : Nat) : Int)) := VX.le fun W tk σ I H T mw Q o => by
  refine to_t (pe_bm PySem.F.plainAttrs_list PySem.F.slot_list_index PySem.F.type_list_index mt_index pe_of (pa_cons pe_of pa_nil hst) hbase hfew hline hst hpl) (h.ap tk mw o.bind (fun l _ o1 v I1 H1 g1 r1 => ?_) fun _ z => z)
  obtain ⟨q, xs, rfl, hq, rs⟩ := Vc.R.lst_inv r1
  refine ⟨.inl ⟨rfl, xs, hq⟩, ?_⟩
  refine hk.ap tk (mw.gr g1) o1.bind (fun k _ o2 u I2 H2 g2 r2 => ?_) fun _ z => z.gr g1
  cases r2
  have e := rs.ints
  subst e
  obtain ⟨hm, o3⟩ := o2.chk
  have hlt : l.idxOf k < l.length := List.idxOf_lt_length_of_mem hm
  refine ⟨q, _, .int k, l.idxOf k, .int k, rfl, rfl, g2.h0.seq hq, rfl, ?_, ?_, by rw [eqInt]; exact beq_self_eq_true k, fun j z' hj hz => ?_, o3 _ I2 H2 (g1.trans g2) (.int _)⟩
  · rw [List.all_map, List.all_eq_true]
    exact fun _ _ => rfl
  · rw [List.getElem?_map, List.getElem?_eq_getElem hlt, List.getElem_idxOf hlt]
    rfl
  · rw [List.getElem?_map] at hz
    have hjl : j < l.length := by omega
    rw [List.getElem?_eq_getElem hjl] at hz
    cases hz
    rw [eqInt]
    exact beq_eq_false_iff_ne.mpr fun z => (by
      have := List.not_of_lt_findIdx (p := fun x => x == k) (xs := l) (i := j) hj
      simp [z] at this)
/-- sorted(l), few ints -/
def isort (l : List Int) : List Int := l.mergeSort
theorem isort_of {l s : List Int} (h1 : s.Perm l) (h2 : s.Pairwise (· ≤ ·)) : s = isort l := by
  unfold isort
  refine List.Perm.eq_of_pairwise (le := fun a b : Int => a ≤ b) (fun a b _ _ h1 h2 => Int.le_antisymm h1 h2) h2 ?_ (h1.trans (List.mergeSort_perm l _).symm)
  have := List.pairwise_mergeSort (le := fun a b : Int => decide (a ≤ b)) (fun a b c h1 h2 => by simp at *; omega) (fun a b => by simp; omega) l
  exact this.imp fun h => by simpa using h
theorem vo_bcall {x : Str} {id : String} {p : Pos} {A G : Type} {ea : A → List D} {m : M A} {ow : G → O} {f : A → M G} {r : List V → Hp → L2.VK → Prop} (hc : CallR X (.builtin id) r) (hg : Gl X x) (hm : X.mg x = none) (hv : bootBuiltins x = some (.builtin id)) (h : VA w X Γ (e :: es) ea m)
    (hr : ∀ a vs I H, Same I H → Rs X.K X.mg (wsel w I H) vs (ea a) → ∀ Q : L2.VK, Out (f a) (fun z => ∀ t I' H' T', Wd I H I' H' T' → Ow X.K X.mg I' H' t (ow z) T' → Q t H') (fun _ => False) → r vs H Q) (hx : ∀ a e, f a ≠ .exc e)
    (hn : x ≠ "__name__" := by decide) (hdb : (x == ("__debug__" : Str)) = false := by decide) (he : starEach (e :: es) X.env = (false, eval e X.env) :: starEach es X.env := by rfl) (hpl : (backTo pos (starEach es X.env)).any (·.1) = false := by rfl) : VO X Γ (.Call (.Name x p) (e :: es) [] pos) ow (m >>= f) := fun W tk σ I H T mw Q o => by
  refine to_t (pe_callB hc hg hm hv pa_of hn hdb he hpl) (h.ap tk mw o.bind (fun a _ o1 vs I1 H1 g1 r1 => ?_) fun _ z => z)
  exact hr a vs I1 H1 g1.ih r1 Q (o1.mono (fun z _ k t I' H' T' g rr => k t I' H' T' (by have := Wd.ow g1 (fun _ z => nomatch z) g; simpa using this) rr) fun e q _ => hx a e q)
theorem vo_sorted {m : M (List Int)} (hm : X.mg "sorted" = none) (h : VX true X Γ e m) (hg : Gl X "sorted" := by rfl) (hs : starEach [e] X.env = (false, eval e X.env) :: starEach [] X.env := by rfl) : VO X Γ (.Call (.Name "sorted" p) [e] [] pos) ow1 (m >>= fun l => chk (l.length < 64) >>= fun _ => M.ok (isort l)) := by
  have q := vo_bcall (w := true) (ow := ow1) (f := fun a : List Int × Unit => chk (a.1.length < 64) >>= fun _ => M.ok (isort a.1)) (p := p) (pos := pos) cr_sorted hg hm (by decide +kernel) (va_cons h va_nil hs) (fun a vs I H s rs Q o => by
    obtain ⟨v, rfl, r⟩ := rs.one
    obtain ⟨p, xs, rfl, hq, rs⟩ := r.lst_inv
    have e := rs.ints
    subst e
    obtain ⟨hz, o2⟩ := o.chk
    refine ⟨p, a.1, rfl, hq, hz, fun ns' l h1 h2 hl => ?_⟩
    rw [isort_of h1 h2] at *
    exact o2 _ I _ [l] (Wd.new s hl) (ow1_new Rs.of_ints)) (fun a ex z => by
      unfold chk at z
      split at z <;> cases z) (he := hs)
  have e : (m >>= fun x => M.ok () >>= fun y => M.ok (x, y)) >>= (fun a : List Int × Unit => chk (a.1.length < 64) >>= fun _ => M.ok (isort a.1)) = m >>= fun l => chk (l.length < 64) >>= fun _ => M.ok (isort l) := by cases m <;> rfl
  rw [← e]
  exact q
end
end Vc

set_option Elab.async false
set_option linter.all false
set_option maxRecDepth 100000
namespace Vc
open PySem PySem.Spec PyProof.Rows L2
open Enc (enc)
/-! ### lists of owned lists, or None -/
def o3 {α : Type} [Enc α] : Option (List α) → O
  | none => .imm (enc (none : Option (List α)))
  | some l => ow1 l
def ow3 {α : Type} [Enc α] (l : List (Option (List α))) : O := .lst (l.map o3)
theorem ow3_toD {α : Type} [Enc α] (l : List (Option (List α))) : (ow3 l).toD = enc l := by
  unfold ow3
  rw [O.toD_lst, List.map_map]
  show D.lst (l.map fun a => (o3 a).toD) = D.lst (l.map enc)
  congr 1
  apply List.map_congr_left
  intro a _
  cases a with
  | none => exact O.toD_imm _
  | some a => exact ow1_toD a
/-- the same items, all there -/
def unS {α : Type} (l : List (Option α)) : M (List α) := if l.all (fun o => o.isSome) then .ok (l.filterMap id) else .stuck
theorem unS_map {α : Type} (l : List α) : unS (l.map some) = .ok l := by
  unfold unS
  rw [if_pos (by simp), List.filterMap_map]
  exact congrArg M.ok (List.filterMap_some)
/-- an address as data -/
structure Ad where
  a : Addr
instance : Enc Ad := ⟨fun x => .adr x.a⟩
instance : NN Ad := ⟨fun K mg H v a r => by cases r; intro h; cases h⟩
section
variable {K : PySem.W.Frag} {mg : Str → Option Value} {I H : Hp}
theorem Ows.pin : ∀ {xs : List V} {os : List O} {T : List Addr} {n : Nat} {v : V} {o : O}, Ows K mg I H xs os T → xs[n]? = some v → os[n]? = some o → Ows K mg I H xs (os.set n (.pin v o)) T
  | _, _, _, n, _, _, .nil, h, _ => by simp at h
  | _, _, _, 0, _, _, .cons h r, h1, h2 => by
    simp only [List.getElem?_cons_zero, Option.some.injEq] at h1 h2
    subst h1; subst h2
    exact .cons (.pin h) r
  | _, _, _, n + 1, _, _, .cons h r, h1, h2 => by
    rw [List.getElem?_cons_succ] at h1 h2
    exact .cons h (Ows.pin r h1 h2)
theorem Ows.unpin : ∀ {os : List O} {xs : List V} {T : List Addr} {n : Nat} {v : V} {o : O}, Ows K mg I H xs (os.set n (.pin v o)) T → n < os.length → Ows K mg I H xs (os.set n o) T
  | [], _, _, n, _, _, _, h => by simp at h
  | q :: os, _, _, 0, v, o, h, _ => by
    rw [List.set_cons_zero] at h ⊢
    cases h with
    | cons h r =>
      cases h with
      | pin h => exact .cons h r
  | q :: os, _, _, n + 1, v, o, h, hn => by
    rw [List.set_cons_succ] at h ⊢
    cases h with
    | cons h r => exact .cons h (Ows.unpin r (by simpa using hn))
theorem Ows.nth : ∀ {xs : List V} {os : List O} {T : List Addr} {n : Nat} {v : V} {o : O}, Ows K mg I H xs os T → xs[n]? = some v → os[n]? = some o → ∃ T1, Ow K mg I H v o T1
  | _, _, _, n, _, _, .nil, h, _ => by simp at h
  | _, _, _, 0, _, _, .cons h r, h1, h2 => by
    simp only [List.getElem?_cons_zero, Option.some.injEq] at h1 h2
    subst h1; subst h2
    exact ⟨_, h⟩
  | _, _, _, n + 1, _, _, .cons h r, h1, h2 => by
    rw [List.getElem?_cons_succ] at h1 h2
    exact Ows.nth r h1 h2
end
section
variable {X : Cx} {Γ Γx : List SL} {e a b c ob : Expr} {es : List Expr} {rest : List Stmt} {pos p apos : Pos} {α β γ : Type} [Enc α] [Enc β] [Enc γ] {w w' : Bool} {τ : Type} {E : Eds τ}
theorem vs_freeze3 (i : Nat) {l : List (Option (List α))} {m : M τ} (h : VS X (Γ.set i (sI l)) Γx rest E m) (hΓ : Γ[i]? = some (.val (ow3 l)) := by rfl) : VS X Γ Γx rest E m := vs_freeze i (ow := ow3 l) (by rw [ow3_toD]; exact h) hΓ
theorem VO.ve3 {m : M (List (Option (List α)))} (h : VO X Γ e ow3 m) : VX w X Γ e m := h.ve ow3_toD
theorem vo_lc3 {n : Nat} {tg : Expr} {ifs : List Expr} {elt : Expr} {scope : Scope} (own : List (Str × Nat)) {u : α → List SL → List SL} {m : M (List α)} {t : α → M Bool} {f : α → M (Option (List β))} (hc : X.calm = true) (hN : X.N.Nodup) (hi : VI X Γ tg e m) (ok : BlkOk X.N X.env.scope scope own)
    (hg : BLK X scope fun Y => VG Y n tg (own.map (·.2)) u) (ht : ∀ a, BLK X scope fun Y => VK Y (u a (wipeG Γ (own.map (·.2)))) ifs (t a)) (he : ∀ a, BLK X scope fun Y => VO Y (u a (wipeG Γ (own.map (·.2)))) elt o3 (f a)) (hn : Γ.length = n := by rfl) (hs : ∀ x, foldedSetIterable e X.env x = pure x := by intro _; rfl) :
    VO X Γ (.ListComp elt [⟨tg, e, ifs, 0⟩] scope pos) ow3 (m >>= fun l => lcM t f l) := vo_lcO own hc hN hi ok hg ht he hn hs
/-- lists, as lists or None -/
theorem VO.to3 {m : M (List (List α))} (h : VO X Γ e ow2 m) : VO X Γ e ow3 (m >>= fun l => M.ok (l.map some)) := h.to (fun a b q => by
  cases q
  unfold ow3 ow2
  rw [List.map_map]
  rfl) fun a e q => by cases q
theorem VO.some3 {m : M (List α)} (h : VO X Γ e ow1 m) : VO X Γ e o3 (m >>= fun l => M.ok (some l)) := h.to (fun a b q => by cases q; rfl) fun a e q => by cases q
theorem VO.none3 (h : VX false X Γ e (M.ok (none : Option (List α)))) : VO X Γ e o3 (M.ok (none : Option (List α))) := fun W tk σ I H T mw Q o =>
  h W tk σ I H T mw Q (show Out (M.ok (none : Option (List α))) _ _ from fun v I' H' g r => o v I' H' [] g (.imm r))
theorem vo_ite {ow : α → O} {m : M Bool} {m1 m2 : M α} (h : VT X Γ c m) (h1 : VO X Γ a ow m1) (h2 : VO X Γ b ow m2) : VO X Γ (.IfExp c a b pos) ow (m >>= fun x => if x then m1 else m2) := fun W tk σ I H T mw Q o => by
  have tr : ∀ {I1 H1 I2 H2 T2}, Gr I H I1 H1 → Wd I1 H1 I2 H2 T2 → Wd I H I2 H2 T2 := fun g w => by
    have := Wd.ow g (fun _ z => nomatch z) w
    rwa [List.append_nil] at this
  refine to_t (pe_ifExp pt_of pe_of pe_of) (h.ap tk mw o.bind (fun x _ o1 I1 H1 g1 => ?_) fun _ z => z)
  cases x with
  | true => exact iteT (h1.ap tk (mw.gr g1) o1 (fun y _ k u I2 H2 T2 g2 r2 => k u I2 H2 T2 (tr g1 g2) r2) fun _ z => z.gr g1)
  | false => exact iteF (h2.ap tk (mw.gr g1) o1 (fun y _ k u I2 H2 T2 g2 r2 => k u I2 H2 T2 (tr g1 g2) r2) fun _ z => z.gr g1)
theorem enc_fm : ∀ {l : List (Option α)}, l.all (fun o => o.isSome) = true → (l.filterMap id).map enc = l.map (enc : Option α → D)
  | [], _ => rfl
  | none :: l, h => by simp at h
  | some a :: l, h => by
    rw [List.all_cons, Bool.and_eq_true] at h
    show enc a :: _ = enc a :: _
    exact congrArg _ (enc_fm h.2)
theorem VX.unS {m : M (List (Option α))} (h : VX w X Γ e m) : VX w X Γ e (m >>= Vc.unS) := h.to (fun a b q => by
  unfold Vc.unS at q
  split at q
  · rename_i h
    cases q
    exact congrArg D.lst (enc_fm h)
  · cases q) fun a e q => by
  unfold Vc.unS at q
  split at q <;> cases q
/-! ### a loop over the lists of an own list -/
def alStep (m : List α → M (List α)) (L : List (Option (List α))) (n : Nat) : M (List (Option (List α))) := match L[n]? with
  | some (some r) => m r >>= fun r' => .ok (L.set n (some r'))
  | _ => .ok L
def alM (m : List α → M (List α)) (L : List (Option (List α))) : M (List (Option (List α))) := loopS (alStep m) (List.range L.length) L
theorem alStep_len {m : List α → M (List α)} {L : List (Option (List α))} {n : Nat} {L' : List (Option (List α))} (h : alStep m L n = .ok L') : L'.length = L.length := by
  unfold alStep at h
  split at h
  · rename_i r _
    cases hm : m r with
    | ok r' => rw [hm] at h; cases h; rw [List.length_set]
    | stuck => rw [hm] at h; cases h
    | exc ex => rw [hm] at h; cases h
  · cases h; rfl
theorem vq_ad {i j : Nat} {os : List O} {n : Nat} {ad : Addr} {v0 : V} {o : O} {x : Str} (hi : Γ[i]? = some (.val (.pin v0 (.lst (os.set n (.pin (.ref ad) o)))))) (hn : n < os.length) (hj : Γ[j]? = some (sI (some (⟨ad⟩ : Ad)))) (hN : X.N[j]? = some x) (hv : Vis X.env.scope x) (hd : (x == ("__debug__" : Str)) = false) (hcd : (x == ("__classdict__" : Str)) = false) :
    VQ X Γ i [.pin, .idx n, .pin] (.Name x p) := fun σ I H T mw v u hv' hs Q q => by
  obtain ⟨y, hy, ry⟩ := mw.sl.imm hj
  have ry : R X.K X.mg I y (.adr ad) := ry
  cases ry
  obtain ⟨v2, u2, T1, hv2, s2, ow⟩ := mw_at (π := [.pin, .idx n]) (o1 := .pin (.ref ad) o) mw hi (by
    show ((os.set n (.pin (.ref ad) o))[n]?).bind (fun o => getO [] o) = _
    rw [List.getElem?_set_self hn]
    rfl)
  rw [hv'] at hv2; cases hv2
  have hs' : subV H [.pin, .idx n] v u := hs
  obtain rfl := subV_fun hs' s2
  cases ow
  exact to_t (pe_var hN hv hd hcd) ⟨_, hy, q⟩
theorem sub_set : ∀ (Γ : List SL) (j : Nat), Sub Γ (Γ.set j .any)
  | [], _ => .nil
  | a :: Γ, 0 => .any (Sub.refl Γ)
  | a :: Γ, j + 1 => .eq (sub_set Γ j)
/-- another view of what is owned -/
theorem mt_swap {K : PySem.W.Frag} {mg : Str → Option Value} {I0 H0 : Hp} {Γ : List SL} {σ : L2.St} {I H : Hp} {T : List Addr} {i : Nat} {o1 o2 : O} (mt : Mt K mg I0 H0 Γ σ I H T) (hΓ : Γ[i]? = some (.val o1)) (sw : ∀ v T1, Ow K mg I H v o1 T1 → Ow K mg I H v o2 T1) : ∃ T', Mt K mg I0 H0 (Γ.set i (.val o2)) σ I H T' := by
  obtain ⟨v, u, T1, hv, s, ow, inT, nd1, up⟩ := mt_put (π := []) mt hΓ rfl
  obtain ⟨_, _, up2⟩ := up I H [] (Gr.refl mt.wd.ih)
  exact up2 H o2 T1 (fun _ _ => rfl) (sw u T1 ow) (fun p hp => .inl hp) nd1
theorem vs_forAl {i j n : Nat} {bn ln : Str} {pb pl : Pos} {L0 : List (Option (List α))} {body : List Stmt} {m : List α → M (List α)} {k : List (Option (List α)) → M τ}
    (hp : PassesOwn (model X.prog X.w) X.A X.env X.xe) (hc : X.calm = true) (hΓ : Γ[i]? = some (.val (ow3 L0))) (hn : Γ.length = n) (hij : i ≠ j) (hjn : j < n)
    (hil : VQ X Γ i [] (.Name ln pl)) (hg : VG X n (.Name bn pb) [j] (fun a Γ => Γ.set j (sI a) : Option Ad → List SL → List SL))
    (hbN : ∀ (v0 : V) (L : List (Option (List α))), VS X ((Γ.set i (.val (.pin v0 (ow3 L)))).set j (sI (none : Option Ad))) Γx body (eLp fun _ : Unit => (Γ.set i (.val (.pin v0 (ow3 L)))).set j .any) (M.ok ()))
    (hbS : ∀ (v0 : V) (os : List O) q r ad, q < os.length → VS X ((Γ.set i (.val (.pin v0 (.lst (os.set q (.pin (.ref ad) (ow1 r))))))).set j (sI (some (⟨ad⟩ : Ad)))) Γx body (eLp fun r' : List α => (Γ.set i (.val (.pin v0 (.lst (os.set q (.pin (.ref ad) (ow1 r'))))))).set j .any) (m r))
    (hk : ∀ L : List (Option (List α)), VS X ((Γ.set i (.val (ow3 L))).set j .any) Γx rest E (k L)) (hs : Sub Γ Γx) (hf : ∀ x, foldedSetIterable (.Name ln pl) X.env x = pure x := by intro _; rfl) :
    VS X Γ Γx (.For (.Name bn pb) (.Name ln pl) body [] pos :: rest) E (alM m L0 >>= k) := fun W tk I0 H0 σ I H T mt D o => by
  have hin : i < Γ.length := by
    rcases Nat.lt_or_ge i Γ.length with h | h
    · exact h
    · rw [List.getElem?_eq_none h] at hΓ; cases hΓ
  obtain ⟨v, q, xs, T3, hv, s, h3, rs, up⟩ := lst_pl (π := []) mt hΓ (os := L0.map o3) rfl
  refine seq_s (to_s1 (ps_for hp hc pi_of pg_of pss_of hf) ?_)
  refine to_i (pi_list pe_of) (hil σ I H T mt.mw v _ hv s _ ?_)
  refine ⟨q, rfl, ⟨xs, .of h3⟩, ?_⟩
  obtain rfl : V.ref q = v := s
  have hset : ∀ (a b : SL), ((Γ.set i a).set j b)[i]? = some a := fun a b => by
    rw [List.getElem?_set_ne (Ne.symm hij), List.getElem?_set_self hin]
  have hre : ∀ (a b c : SL), ((Γ.set i a).set j b).set i c = (Γ.set i c).set j b := fun a b c => by
    rw [List.set_comm _ _ (Ne.symm hij), List.set_set]
  -- the start
  obtain ⟨Ta, mta⟩ : ∃ T', Mt X.K X.mg I0 H0 ((Γ.set i (.val (.pin (.ref q) (ow3 L0)))).set j .any) σ I H T' := by
    obtain ⟨v1, u1, T1, hv1, s1, ow, inT, nd1, up⟩ := mt_put (π := []) mt hΓ rfl
    rw [hv] at hv1; cases hv1
    obtain rfl : u1 = V.ref q := s1
    obtain ⟨_, _, up2⟩ := up I H [] (Gr.refl mt.wd.ih)
    obtain ⟨T2, m2⟩ := up2 H (.pin (.ref q) (ow3 L0)) T1 (fun _ _ => rfl) (.pin ow) (fun p hp => .inl hp) nd1
    exact m2.sub (sub_set _ j)
  have hxs : xs.length = L0.length := by rw [rs.len, List.length_map]
  refine ⟨fun c mm σ' H' => mm = L0.length - c ∧ c ≤ L0.length ∧ ∃ L I' T', L.length = L0.length ∧ Mt X.K X.mg I0 H0 ((Γ.set i (.val (.pin (.ref q) (ow3 L)))).set j .any) σ' I' H' T' ∧ Same I I' ∧ Out (loopS (alStep m) ((List.range L0.length).drop c) L >>= k) (DO X I0 H0 E D) (XS X W I0 H0 Γx), ⟨L0.length, rfl, Nat.zero_le _, L0, I, Ta, rfl, mta, .refl _, o⟩, ?_⟩
  rintro c _ σ' H' ⟨rfl, hi, L, I', T', hL, mt', s1, o'⟩
  have hΓ' := hset (.val (.pin (.ref q) (ow3 L))) .any
  obtain ⟨v', q', xs', T3', hv', s', h3', rs', up'⟩ := lst_pl (π := [.pin]) mt' hΓ' (os := L.map o3) rfl
  obtain rfl : V.ref q' = v' := s'
  obtain rfl : q' = q := by
    obtain ⟨v2, u2, T2, hv2, s2, ow2⟩ := mw_at (π := []) (o1 := .pin (.ref q) (ow3 L)) mt'.mw hΓ' rfl
    rw [hv'] at hv2; cases hv2
    obtain rfl : u2 = V.ref q' := s2
    cases ow2
    rfl
  have hxs' : xs'.length = L0.length := by rw [rs'.len, List.length_map, hL]
  by_cases hlt : c < L0.length
  · have hcx : c < xs'.length := by omega
    have hcL : c < L.length := by omega
    have hx : xs'[c]? = some xs'[c] := List.getElem?_eq_getElem hcx
    have hos : (L.map o3)[c]? = some (o3 L[c]) := by rw [List.getElem?_map, List.getElem?_eq_getElem hcL]; rfl
    refine .inr ⟨⟨xs', xs'[c], .of h3', hx⟩, fun σ2 H2 => ∃ L I' T', L.length = L0.length ∧ Mt X.K X.mg I0 H0 ((Γ.set i (.val (.pin (.ref q') (ow3 L)))).set j .any) σ2 I' H2 T' ∧ Same I I' ∧ Out (loopS (alStep m) ((List.range L0.length).drop (c + 1)) L >>= k) (DO X I0 H0 E D) (XS X W I0 H0 Γx), fun σ2 H2 h => ⟨L0.length - (c + 1), by omega, rfl, hlt, h⟩, fun x H2 y => ?_⟩
    obtain ⟨rfl, y⟩ := y
    have ex : xs'[c] = x := by
      have := y xs' (.of h3')
      rw [hx] at this
      exact Option.some.inj this
    obtain ⟨T1x, owx⟩ := rs'.nth hx hos
    rw [ex] at owx
    have hlen : ((Γ.set i (.val (.pin (.ref q') (ow3 L)))).set j .any).length = n := by rw [List.length_set, List.length_set, hn]
    have hdrop : (List.range L0.length).drop c = c :: (List.range L0.length).drop (c + 1) := by
      rw [List.drop_eq_getElem_cons (by rw [List.length_range]; exact hlt), List.getElem_range]
    rw [hdrop, loopS_cons, M.bind_assoc] at o'
    cases hLc : L[c] with
    | none =>
      rw [hLc] at owx
      cases owx with
      | imm r =>
        refine hg _ hlen x (none : Option Ad) σ' I' H2 T' mt'.mw r _ fun σ3 T3 _ _ s3 c3 d3 => ?_
        have mt4 : Mt X.K X.mg I0 H0 (((Γ.set i (.val (.pin (.ref q') (ow3 L)))).set j .any).set j (sI (none : Option Ad))) σ3 I' H2 T3 := ⟨⟨mt'.wd.ih, mt'.wd.i0, mt'.wd.h0, fun p hp => mt'.wd.fr p (c3 p hp), d3, mt'.wd.sep⟩, s3⟩
        rw [List.set_set] at mt4
        have w0 := mt4.wd
        have e : alStep m L c = .ok L := by
          unfold alStep
          rw [List.getElem?_eq_getElem hcL, hLc]
        rw [e, M.ok_bind] at o'
        refine hbN (.ref q') L W tk I' H0 σ3 I' H2 T3 mt4.root _ ?_
        refine (show DO X I' H0 _ _ () from ⟨fun Γ' σ4 I4 H4 T4 z mt5 => ?_, fun Γ' σ4 I4 H4 T4 z mt5 => z.elim, fun Γ' σ4 I4 H4 T4 z mt5 => ?_, fun Γ' σ4 ow v I4 H4 T4 T4' z wd5 sl5 q => z.elim⟩)
        · obtain ⟨T5, mt6⟩ := (Mt.re w0 mt5).sub z
          exact ⟨L, I4, T5, hL, mt6, s1.trans mt5.wd.i0, o'⟩
        · obtain ⟨T5, mt6⟩ := (Mt.re w0 mt5).sub z
          exact ⟨L, I4, T5, hL, mt6, s1.trans mt5.wd.i0, o'⟩
    | some r =>
      rw [hLc] at owx hos
      have owx : Ow X.K X.mg I' H2 x (.lst (r.map fun a => O.imm (enc a))) T1x := owx
      cases owx with
      | @lst ad xs1 _ T1 hx1 hr1 =>
        have rad : R X.K X.mg I' (.ref ad) (enc (some (⟨ad⟩ : Ad))) := .adr ad
        refine hg _ hlen (.ref ad) (some ⟨ad⟩ : Option Ad) σ' I' H2 T' mt'.mw rad _ fun σ3 T3 _ _ s3 c3 d3 => ?_
        have mt4 : Mt X.K X.mg I0 H0 (((Γ.set i (.val (.pin (.ref q') (ow3 L)))).set j .any).set j (sI (some (⟨ad⟩ : Ad)))) σ3 I' H2 T3 := ⟨⟨mt'.wd.ih, mt'.wd.i0, mt'.wd.h0, fun p hp => mt'.wd.fr p (c3 p hp), d3, mt'.wd.sep⟩, s3⟩
        rw [List.set_set] at mt4
        obtain ⟨T4, mt5⟩ := mt_swap (o2 := .pin (.ref q') (.lst ((L.map o3).set c (.pin (.ref ad) (ow1 r))))) mt4 (hset _ _) fun v T1 h => by
          cases h with
          | pin h =>
            have h : Ow X.K X.mg I' H2 (.ref q') (.lst (L.map o3)) T1 := h
            cases h with
            | lst h5 r5 =>
              rw [h3'] at h5
              cases h5
              exact .pin (.lst h3' (r5.pin (by rw [hx, ex]) hos))
        rw [hre] at mt5
        have w0 := mt5.wd
        have e : alStep m L c = m r >>= fun r' => .ok (L.set c (some r')) := by
          unfold alStep
          rw [List.getElem?_eq_getElem hcL, hLc]
        rw [e, M.bind_assoc] at o'
        refine hbS (.ref q') (L.map o3) c r ad (by rw [List.length_map]; exact hcL) W tk I' H0 σ3 I' H2 _ mt5.root _ (o'.bind.mono (fun r' _ o2 => ?_) fun ex _ z => z.re w0)
        rw [M.ok_bind] at o2
        have fin : ∀ {σ4 I4 H4 T4}, Mt X.K X.mg I0 H0 ((Γ.set i (.val (.pin (.ref q') (.lst ((L.map o3).set c (.pin (.ref ad) (ow1 r'))))))).set j .any) σ4 I4 H4 T4 → ∃ T5, Mt X.K X.mg I0 H0 ((Γ.set i (.val (.pin (.ref q') (ow3 (L.set c (some r')))))).set j .any) σ4 I4 H4 T5 := fun mt6 => by
          obtain ⟨T7, mt7⟩ := mt_swap (o2 := .pin (.ref q') (ow3 (L.set c (some r')))) mt6 (hset _ _) fun v T1 h => by
            cases h with
            | pin h =>
              cases h with
              | lst h5 r5 =>
                refine .pin (.lst h5 ?_)
                rw [List.map_set]
                exact r5.unpin (by rw [List.length_map]; exact hcL)
          rw [hre] at mt7
          exact ⟨T7, mt7⟩
        refine ⟨fun Γ' σ4 I4 H4 T4 z mt6 => ?_, fun Γ' σ4 I4 H4 T4 z mt6 => z.elim, fun Γ' σ4 I4 H4 T4 z mt6 => ?_, fun Γ' σ4 ow v I4 H4 T4 T4' z wd5 sl5 q => z.elim⟩
        · obtain ⟨T5, mt7⟩ := (Mt.re w0 mt6).sub z
          obtain ⟨T8, mt8⟩ := fin mt7
          exact ⟨_, I4, T8, by rw [List.length_set]; exact hL, mt8, s1.trans mt6.wd.i0, o2⟩
        · obtain ⟨T5, mt7⟩ := (Mt.re w0 mt6).sub z
          obtain ⟨T8, mt8⟩ := fin mt7
          exact ⟨_, I4, T8, by rw [List.length_set]; exact hL, mt8, s1.trans mt6.wd.i0, o2⟩
  · have e : c = L0.length := by omega
    subst e
    have hd : (List.range L0.length).drop L0.length = [] := List.drop_eq_nil_of_le (by simp)
    rw [hd, loopS_nil, M.ok_bind] at o'
    obtain ⟨T5, mt5⟩ := mt_swap (o2 := ow3 L) mt' hΓ' fun v T1 h => by
      cases h with
      | pin h => exact h
    rw [hre] at mt5
    exact .inl ⟨⟨xs', .of h3', by omega⟩, rest_s (hk L) tk mt5 o'⟩
/-- for b in l: if b is not None: b.append(x) -/
theorem vs_forNN {n : Nat} (i j : Nat) {bn ln : Str} {pb pl pb2 pb3 pc p2 p3 p4 : Pos} {jj : Nat} {L0 : List (Option (List α))} {x : α} {k : List (Option (List α)) → M τ}
    (hp : PassesOwn (model X.prog X.w) X.A X.env X.xe) (hc : X.calm = true) (hND : X.N.Nodup) (he : ∀ Γ, VE X Γ e (M.ok x)) (hk : ∀ L : List (Option (List α)), VS X ((Γ.set i (.val (ow3 L))).set j .any) Γx rest E (k L)) (hs : ∀ Γ' : List SL, Γ'.length = n → Sub Γ' Γx)
    (hΓ : Γ[i]? = some (.val (ow3 L0)) := by rfl) (hn : Γ.length = n := by rfl) (hij : (i == j) = false := by rfl) (hjn : Nat.blt j n = true := by rfl)
    (hil : VQ X Γ i [] (.Name ln pl))
    (hj : X.N[j]? = some bn := by rfl) (hx : Loc X.env.scope bn := by first | exact .inl rfl | exact .inr rfl) (hfn : X.fn bn = true ∨ X.env.scope.names.lookup bn = some .local := by first | exact .inl rfl | exact .inr rfl)
    (hv : Vis X.env.scope bn := by first | exact Or.inl rfl | exact Or.inr (Or.inl rfl) | exact Or.inr (Or.inr rfl)) (hd : (bn == ("__debug__" : Str)) = false := by decide) (hcd : (bn == ("__classdict__" : Str)) = false := by decide)
    (hf : ∀ x, foldedSetIterable (.Name ln pl) X.env x = pure x := by intro _; rfl)
    (hbase : attributeBase (.Name bn pb3) "append" X.env (eval (.Name bn pb3) X.env) = eval (.Name bn pb3) X.env := by rfl)
    (hfew : ((backTo p (starEach [e] X.env)).all (fun x => !x.1) && (backToKw p (keywordEach [] X.env)).all (fun x => x.1.isSome) && decide (([e] : List Expr).length + ([] : List Keyword).length + (if ([] : List Keyword).isEmpty then 0 else 1) < 30)) = true := by rfl)
    (hline : (apos.endLine == p.line) = true := by rfl) (hst : starEach [e] X.env = (false, eval e X.env) :: starEach [] X.env := by rfl) (hpl : (backTo p (starEach [] X.env)).any (·.1) = false := by rfl)
    (hsw : swapsWith (.Call (.Attribute (.Name bn pb3) "append" apos) [e] [] p) none p3.line X.env = pure false := by rfl) :
    VS X Γ Γx (.For (.Name bn pb) (.Name ln pl) [.If (.Compare (.Name bn pb2) [.IsNot] [.Constant .none jj pc] p2) [.Expr (.Call (.Attribute (.Name bn pb3) "append" apos) [e] [] p) p3] [] p4] [] pos :: rest) E
      (alM (fun r => chk (r.length < sizeLine) >>= fun _ => .ok (r ++ [x])) L0 >>= k) := by
  have hij' : i ≠ j := by simpa using hij
  have hin : i < Γ.length := by
    rcases Nat.lt_or_ge i Γ.length with h | h
    · exact h
    · rw [List.getElem?_eq_none h] at hΓ; cases hΓ
  have hjn' : j < n := Nat.blt_eq.mp hjn
  have hjl : ∀ a : SL, j < (Γ.set i a).length := fun a => by rw [List.length_set, hn]; exact hjn'
  refine vs_forAl hp hc hΓ hn hij' hjn' hil (vg_name j hND hj hjn hx hfn) (fun v0 L => ?_) (fun v0 os q r ad hq => ?_) hk (hs _ hn) hf
  · have := vs_ifl (E := eLp fun _ : Unit => (Γ.set i (.val (.pin v0 (ow3 L)))).set j .any) (pos := p4) (a := [.Expr (.Call (.Attribute (.Name bn pb3) "append" apos) [e] [] p) p3]) (b := []) (Γx := Γx) (m1 := M.stuck) (m2 := M.ok ()) (vt_isNN (j := jj) (pc := pc) (pos := p2) (ve_var (p := pb2) (Γ := (Γ.set i (.val (.pin v0 (ow3 L)))).set j (sI (none : Option Ad))) (a := (none : Option Ad)) j (List.getElem?_set_self (hjl _)) hj hv hd hcd)) (fun W tk I0 H0 σ I H T mt D o => o.elim) (vs_nil (by
      show Sub _ _
      have := sub_set ((Γ.set i (.val (.pin v0 (ow3 L)))).set j (sI (none : Option Ad))) j
      rwa [List.set_set] at this)) (hs _ (by rw [List.length_set, List.length_set, hn]))
    exact this
  · have hΓ2 : ((Γ.set i (.val (.pin v0 (.lst (os.set q (.pin (.ref ad) (ow1 r))))))).set j (sI (some (⟨ad⟩ : Ad))))[i]? = some (.val (.pin v0 (.lst (os.set q (.pin (.ref ad) (ow1 r)))))) := by
      rw [List.getElem?_set_ne (Ne.symm hij'), List.getElem?_set_self hin]
    have hΓ3 : ((Γ.set i (.val (.pin v0 (.lst (os.set q (.pin (.ref ad) (ow1 r))))))).set j (sI (some (⟨ad⟩ : Ad))))[j]? = some (sI (some (⟨ad⟩ : Ad))) := List.getElem?_set_self (hjl _)
    have hgo : getO [.pin, .idx q, .pin] (.pin v0 (.lst (os.set q (.pin (.ref ad) (ow1 r))))) = some (ow1 r) := by
      show ((os.set q (.pin (.ref ad) (ow1 r)))[q]?).bind (fun o => getO [.pin] o) = _
      rw [List.getElem?_set_self hq]
      rfl
    have happ := vs_appP (X := X) (Γx := Γx) (rest := []) (E := eLp fun r' : List α => (Γ.set i (.val (.pin v0 (.lst (os.set q (.pin (.ref ad) (ow1 r'))))))).set j .any) (pos := p3) (p := p) (apos := apos) (m := M.ok x) (k := fun l' => M.ok l') (vq_ad (p := pb3) hΓ2 hq hΓ3 hj hv hd hcd) hΓ2 hgo (he _) (fun l' => vs_nil (by
      show Sub _ _
      have hput : putO [.pin, .idx q, .pin] (.pin v0 (.lst (os.set q (.pin (.ref ad) (ow1 r))))) (ow1 l') = .pin v0 (.lst (os.set q (.pin (.ref ad) (ow1 l')))) := by
        show O.pin v0 (.lst (match (os.set q (.pin (.ref ad) (ow1 r)))[q]? with | some o => (os.set q (.pin (.ref ad) (ow1 r))).set q (putO [.pin] o (ow1 l')) | none => _)) = _
        rw [List.getElem?_set_self hq]
        show O.pin v0 (.lst ((os.set q (.pin (.ref ad) (ow1 r))).set q (.pin (.ref ad) (ow1 l')))) = _
        rw [List.set_set]
      rw [hput, List.set_comm _ _ (Ne.symm hij'), List.set_set]
      have := sub_set ((Γ.set i (.val (.pin v0 (.lst (os.set q (.pin (.ref ad) (ow1 l'))))))).set j (sI (some (⟨ad⟩ : Ad)))) j
      rwa [List.set_set] at this)) (hs _ (by rw [List.length_set, List.length_set, hn])) hbase hfew hline hst hpl hsw
    have := vs_ifl (pos := p4) (b := []) (m2 := M.stuck) (vt_isNN (j := jj) (pc := pc) (pos := p2) (ve_var (p := pb2) (Γ := (Γ.set i (.val (.pin v0 (.lst (os.set q (.pin (.ref ad) (ow1 r))))))).set j (sI (some (⟨ad⟩ : Ad)))) (a := (some (⟨ad⟩ : Ad))) j hΓ3 hj hv hd hcd)) happ (fun W tk I0 H0 σ I H T mt D o => o.elim) (hs _ (by rw [List.length_set, List.length_set, hn]))
    exact this
end
end Vc

set_option Elab.async false
set_option linter.all false
set_option maxRecDepth 100000
namespace Vc
open PySem PySem.Spec PyProof.Rows L2
open Enc (enc)
section
variable {α β γ δ : Type} [Enc α] [Enc β] [Enc γ] [Enc δ] [DecidableEq α] [DecidableEq β] [DecidableEq γ] [DecidableEq δ]
instance [E : Eqv α] [F : Eqv β] [G : Eqv γ] [I : Eqv δ] : Eqv (T4 α β γ δ) := ⟨fun p => .tuple [Eqv.py p.a, Eqv.py p.b, Eqv.py p.c, Eqv.py p.d], fun K mg H v a r => by
    obtain ⟨p, xs, rfl, h, q⟩ := R.tup_inv r
    cases q with
    | cons h1 q => cases q with
      | cons h2 q => cases q with
        | cons h3 q => cases q with
          | cons h4 q =>
            cases q
            exact .tup h (.cons (Eqv.dp K mg H _ _ h1) (.cons (Eqv.dp K mg H _ _ h2) (.cons (Eqv.dp K mg H _ _ h3) (.cons (Eqv.dp K mg H _ _ h4) .nil)))), fun p => Eqv.lay p.a && (Eqv.lay p.b && (Eqv.lay p.c && Eqv.lay p.d)), fun p => by
    show (PyData.canLay0 (Eqv.py p.a) && (PyData.canLay0 (Eqv.py p.b) && (PyData.canLay0 (Eqv.py p.c) && (PyData.canLay0 (Eqv.py p.d) && true)))) = _
    rw [Eqv.lyq p.a, Eqv.lyq p.b, Eqv.lyq p.c, Eqv.lyq p.d, Bool.and_true], max E.dep (max F.dep (max G.dep I.dep)) + 1, fun p => by
    show max (PyData.depth (Eqv.py p.a)) (max (PyData.depth (Eqv.py p.b)) (max (PyData.depth (Eqv.py p.c)) (max (PyData.depth (Eqv.py p.d)) 0))) + 1 ≤ _
    have h1 := Eqv.dle p.a
    have h2 := Eqv.dle p.b
    have h3 := Eqv.dle p.c
    have h4 := Eqv.dle p.d
    omega, fun a b => by
    show (PyData.eqv (Eqv.py a.a) (Eqv.py b.a) && (PyData.eqv (Eqv.py a.b) (Eqv.py b.b) && (PyData.eqv (Eqv.py a.c) (Eqv.py b.c) && (PyData.eqv (Eqv.py a.d) (Eqv.py b.d) && true)))) = _
    rw [Eqv.eqv, Eqv.eqv, Eqv.eqv, Eqv.eqv]
    obtain ⟨a1, a2, a3, a4⟩ := a
    obtain ⟨b1, b2, b3, b4⟩ := b
    by_cases h : a1 = b1 <;> by_cases h2 : a2 = b2 <;> by_cases h3 : a3 = b3 <;> by_cases h4 : a4 = b4 <;> simp [h, h2, h3, h4]⟩
instance [Eqv α] [Eqv β] [Eqv γ] [Eqv δ] : Knd (T4 α β γ δ) := ⟨4, fun _ => rfl⟩
instance [Eqv α] [Eqv β] [Eqv γ] [Eqv δ] [LayT α] [LayT β] [LayT γ] [LayT δ] : LayT (T4 α β γ δ) := ⟨fun p => by show (Eqv.lay p.a && (Eqv.lay p.b && (Eqv.lay p.c && Eqv.lay p.d))) = true; rw [LayT.lt, LayT.lt, LayT.lt, LayT.lt]; rfl⟩
end
end Vc

set_option Elab.async false
set_option linter.all false
set_option maxRecDepth 100000
namespace Vc
open PySem PySem.Spec PyProof.Rows L2
open Enc (enc)
/-- three items of a list -/
structure L3 (α : Type) where
  a : α
  b : α
  c : α
instance {α : Type} [Enc α] : Enc (L3 α) := ⟨fun p => .lst [enc p.a, enc p.b, enc p.c]⟩
def unL3 {α : Type} : List α → M (L3 α)
  | [a, b, c] => .ok ⟨a, b, c⟩
  | _ => .stuck
@[simp] theorem unL3_ok {α : Type} (a b c : α) : unL3 [a, b, c] = .ok ⟨a, b, c⟩ := rfl
/-- the signs of a text -/
def chs (s : PySem.Str) : List PySem.Str := s.cps.toList.map fun c => ⟨#[c]⟩
section
variable {X : Cx} {Γ Γx : List SL} {e a b c ob : Expr} {es : List Expr} {rest : List Stmt} {pos p apos : Pos} {α β γ : Type} [Enc α] [Enc β] [Enc γ] {w w' : Bool} {τ : Type} {E : Eds τ} {n : Nat}
theorem VX.unL3 {m : M (List α)} (h : VX w X Γ e m) : VX w X Γ e (m >>= Vc.unL3) := h.to (fun a b q => by
  match a, q with
  | [x, y, z], q => cases q; rfl) fun a e q => by
  match a, q with
  | [], q => cases q
  | [_], q => cases q
  | [_, _], q => cases q
  | [_, _, _], q => cases q
  | _ :: _ :: _ :: _ :: _, q => cases q
theorem vg_unl3 {kk : Nat} {vs : List Nat} {u : α × (α × (α × Unit)) → List SL → List SL} (hc : X.calm = true) (h : VGs X n es vs (eCons (eCons (eCons eNil))) u)
    (hn : (assignEach es X.env).length = 3 := by rfl) (hst : (assignEach es X.env).findIdx? (·.1) = none := by rfl) : VG X n (.Tuple es kk pos) vs (fun (x : L3 α) Γ => u (x.a, (x.b, (x.c, ()))) Γ) := fun Γ hl v a σ I H T mw r Q k => by
  have r : R X.K X.mg I v (.lst [enc a.a, enc a.b, enc a.c]) := r
  obtain ⟨p, xs, rfl, hq, rs⟩ := Vc.R.lst_inv r
  refine to_g (pg_unl hc pgs_of hn hst) ⟨_, _, rfl, mw.ih.seq hq, by rw [rs.length]; rfl, ?_⟩
  exact h Γ hl _ (a.a, (a.b, (a.c, ()))) σ I H T mw rs Q k
theorem vi_strC {tg : Expr} {m : M PySem.Str} (h : VX false X Γ e m) : VI X Γ tg e (m >>= fun s => M.ok (chs s)) := fun W tk σ I H T mw R o => by
  refine to_i (pi_str pe_of) (h.ap tk mw o.bind (fun s _ k v I1 H1 g1 r1 => ?_) fun _ z => z)
  have r1 : Vc.R X.K X.mg I1 v (.str s) := r1
  cases r1
  refine ⟨s, rfl, k _ I1 H1 g1 fun i I2 H2 s1 s2 => ⟨fun a ha => ?_, fun hi => ?_⟩⟩
  · unfold chs at ha
    rw [List.getElem?_map] at ha
    cases hc : s.cps.toList[i]? with
    | none => rw [hc] at ha; cases ha
    | some c =>
      rw [hc] at ha
      cases ha
      rw [Array.getElem?_toList] at hc
      have hlt : i < s.cps.size := by
        rcases Nat.lt_or_ge i s.cps.size with h | h
        · exact h
        · rw [Array.getElem?_eq_none h] at hc; cases hc
      refine ⟨hlt, fun x H3 y => ?_⟩
      obtain ⟨rfl, c2, e2, rfl⟩ := y
      rw [hc] at e2
      cases e2
      exact ⟨I2, .refl s2, .str _⟩
  · unfold chs at hi
    rw [List.length_map, Array.length_toList] at hi
    exact hi
theorem vt_truStr {m : M PySem.Str} (h : VX true X Γ e m) (he : ∀ whole, isTrue e X.env whole = (do let v ← whole; standAt e.pos; holding [v] (truthy v)) := by intro _; rfl) : VT X Γ e (m >>= fun s => chk (s.length ≤ sizeLine) >>= fun _ => M.ok ((s.length : Int) != 0)) := fun W tk σ I H T mw Q o => by
  refine to_k (pt_truth pe_of he) (h.ap tk mw o.bind (fun s _ o1 v I1 H1 g1 r1 => ?_) fun _ z => z)
  obtain ⟨hz, o2⟩ := o1.chk
  have r1 : Vc.R X.K X.mg H1 v (.str s) := r1
  cases r1
  exact ⟨_, ⟨hz, rfl⟩, o2 I1 H1 g1⟩
/-- ob[b] = e, ob a place -/
theorem vs_setP {i : Nat} {π : List Pt} {oo : O} {l : List α} {ps : Pos} {m : M α} {mi : M Int} {k : List α → M τ} (h : VQ X Γ i π ob) (hΓ : Γ[i]? = some (.val oo)) (hg : getO π oo = some (ow1 l)) (he : VE X Γ e m) (hix : VX true X Γ b mi) (hk : ∀ l', VS X (Γ.set i (.val (putO π oo (ow1 l')))) Γx rest E (k l')) (hs : Sub Γ Γx)
    (hst : ∀ v, assign (.Subscript ob b ps) X.env v = (do
      let ov ← holding [v] (eval ob X.env)
      let iv ← holding [v, ov] (eval b X.env)
      standAt ps
      holding [v, ov, iv] (setItem ov iv v)
      release [v, ov, iv] []) := by intro _; rfl)
    (hs1 : swapsWithSole [.Subscript ob b ps] e pos.line X.env = pure false := by rfl) (hw : swappedStores [.Subscript ob b ps] e X.env = pure none := by rfl) (hm1 : (assignEach [.Subscript ob b ps] X.env).map (·.2) = [assign (.Subscript ob b ps) X.env] := by rfl) :
    VS X Γ Γx (.Assign [.Subscript ob b ps] e pos :: rest) E (m >>= fun a => mi >>= fun j => setL l j a >>= k) := fun W tk I0 H0 σ I H T mt D o => by
  obtain ⟨v0, q, xs, hv, s, h3, rs, up⟩ := own_pl mt hΓ hg
  refine seq_s (to_s1 (ps_asg pe_of (pg_sub pe_of pe_of set_list hst) hs1 hw hm1) ?_)
  refine he.ap tk mt.mw o.bind (fun a _ o1 v I1 H1 g1 r1 => ?_) fun _ z => z.xo mt hs
  obtain ⟨s1, _⟩ := up I1 H1 g1
  refine h σ I1 H1 T (mt.mw.gr g1) v0 _ hv s1 _ ?_
  refine hix.ap tk (mt.mw.gr g1) o1.bind (fun j _ o2 u I2 H2 g2 r2 => ?_) fun _ z => (z.xo mt hs).gr g1
  cases r2
  obtain ⟨n, hn, o3⟩ := setL_out o2.bind
  obtain ⟨_, h3', up'⟩ := up I2 H2 (g1.trans g2)
  refine ⟨q, xs, j, n, rfl, rfl, h3', by rw [rs.length, List.length_map]; exact hn, ?_⟩
  obtain ⟨T2, mt2⟩ := up' (xs.set n v) (l.set n a) (by rw [List.map_set]; exact Rs.set (r1.mono g2.i0) n (rs.mono (g1.trans g2).i0))
  exact rest_s (hk _) tk mt2 o3
/-- ob[b] = e, e changes slots -/
theorem vs_setPY {S : Type} {F : S → List SL} {m : M (Int × S)} {i : Nat} {π : List Pt} {ps : Pos} {oo : S → O} {l : S → List Int} {mi : S → M Int} {k : S → List Int → M τ} (h : VY X Γ Γx F e (fun r : Int => O.imm (enc r)) m) (hq : ∀ s, VQ X (F s) i π ob) (hΓ : ∀ s, (F s)[i]? = some (.val (oo s))) (hg : ∀ s, getO π (oo s) = some (ow1 (l s))) (hix : ∀ s, VX true X (F s) b (mi s)) (hk : ∀ s l', VS X ((F s).set i (.val (putO π (oo s) (ow1 l')))) Γx rest E (k s l')) (hs : ∀ s, Sub (F s) Γx)
    (hst : ∀ v, assign (.Subscript ob b ps) X.env v = (do
      let ov ← holding [v] (eval ob X.env)
      let iv ← holding [v, ov] (eval b X.env)
      standAt ps
      holding [v, ov, iv] (setItem ov iv v)
      release [v, ov, iv] []) := by intro _; rfl)
    (hs1 : swapsWithSole [.Subscript ob b ps] e pos.line X.env = pure false := by rfl) (hw : swappedStores [.Subscript ob b ps] e X.env = pure none := by rfl) (hm1 : (assignEach [.Subscript ob b ps] X.env).map (·.2) = [assign (.Subscript ob b ps) X.env] := by rfl) :
    VS X Γ Γx (.Assign [.Subscript ob b ps] e pos :: rest) E (m >>= fun r => mi r.2 >>= fun j => setL (l r.2) j r.1 >>= k r.2) := fun W tk I0 H0 σ I H T mt D o => by
  refine seq_s (to_s1 (ps_asg pe_of (pg_sub pe_of pe_of set_list hst) hs1 hw hm1) ?_)
  refine h W tk I0 H0 σ I H T mt _ (o.bind.mono (fun r _ o1 v I1 H1 T2 T1 wd sl q => ?_) fun _ _ z => z)
  have mt1 : Mt X.K X.mg I0 H0 (F r.2) σ I1 H1 T1 := ⟨wd.subl (List.sublist_append_right _ _), sl⟩
  cases q with
  | imm r1 =>
    obtain ⟨v0, q, xs, hv, s, h3, rs, up⟩ := own_pl mt1 (hΓ r.2) (hg r.2)
    refine hq r.2 σ I1 H1 T1 mt1.mw v0 _ hv s _ ?_
    refine (hix r.2).ap tk mt1.mw o1.bind (fun j _ o2 u I2 H2 g2 r2 => ?_) fun _ z => z.xo mt1 (hs r.2)
    cases r2
    obtain ⟨n, hn, o3⟩ := setL_out o2.bind
    obtain ⟨_, h3', up'⟩ := up I2 H2 g2
    refine ⟨q, xs, j, n, rfl, rfl, h3', by rw [rs.length, List.length_map]; exact hn, ?_⟩
    obtain ⟨T2, mt2⟩ := up' (xs.set n v) ((l r.2).set n r.1) (by rw [List.map_set]; exact Rs.set (r1.mono g2.i0) n (rs.mono g2.i0))
    exact rest_s (hk r.2 _) tk mt2 o3
/-- a sign of a text -/
def getS (s : PySem.Str) (i : Int) : M PySem.Str := chk (s.length ≤ sizeLine) >>= fun _ => getI (chs s) i
theorem ve_idxS {m1 : M PySem.Str} {m2 : M Int} (ha : VX true X Γ a m1) (hb : VX true X Γ b m2) (hs : PlainIx b := by exact fun _ _ => rfl) : VX w X Γ (.Subscript a b pos) (m1 >>= fun s => m2 >>= fun i => getS s i) := VX.le fun W tk σ I H T mw Q o => by
  refine to_t (pe_ix ix_str pe_of pe_of hs) (ha.ap tk mw o.bind (fun s _ o1 v I1 H1 g1 r1 => ?_) fun _ z => z)
  refine hb.ap tk (mw.gr g1) o1.bind (fun i _ o2 u I2 H2 g2 r2 => ?_) fun _ z => z.gr g1
  cases r2
  obtain ⟨hz, o2⟩ := o2.chk
  obtain ⟨a, e, o3⟩ := getI_out o2
  have r1 : Vc.R X.K X.mg H1 v (.str s) := r1
  cases r1
  unfold chs at e
  have e2 : ∃ c, L2.atI s.cps.toList i = some c ∧ a = ⟨#[c]⟩ := by
    unfold L2.atI at e ⊢
    rw [List.length_map] at e
    cases hx : L2.ixN s.cps.toList.length i with
    | none => rw [hx] at e; cases e
    | some j =>
      rw [hx] at e
      have e : (s.cps.toList.map fun c => (⟨#[c]⟩ : PySem.Str))[j]? = some a := e
      rw [List.getElem?_map] at e
      cases hc : s.cps.toList[j]? with
      | none => rw [hc] at e; cases e
      | some c => rw [hc] at e; cases e; exact ⟨c, hc, rfl⟩
  obtain ⟨c, e3, rfl⟩ := e2
  exact ⟨s, i, c, rfl, rfl, hz, e3, o3 _ I2 H2 (g1.trans g2) (.str _)⟩
/-- an own object becomes plain data -/
theorem vs_freezeK (os : α → O) (ho : ∀ a, (os a).toD = enc a) (i : Nat) {x : α} {m : M τ} (h : VS X (Γ.set i (sI x)) Γx rest E m) (hΓ : Γ[i]? = some (.val (os x)) := by rfl) : VS X Γ Γx rest E m := vs_freeze i (ow := os x) (by rw [ho]; exact h) hΓ
end
end Vc

set_option Elab.async false
set_option linter.all false
set_option maxRecDepth 100000
namespace Vc
open PySem PySem.Spec PyProof.Rows L2
open Enc (enc)
/-- row[lo:hi] = x -/
def slSet {α : Type} (row : List α) (lo hi : Option Int) (x : List α) : M (List α) := match lo, hi with
  | some a, some c => if 0 ≤ a ∧ a ≤ c ∧ c ≤ row.length ∧ row.length + x.length ≤ sizeLine then .ok (row.take a.toNat ++ x ++ row.drop c.toNat) else .stuck
  | _, _ => .stuck
theorem slSet_ok {α : Type} {row x : List α} {a c : Int} (h0 : 0 ≤ a) (h1 : a ≤ c) (h2 : c ≤ row.length) (h3 : row.length + x.length ≤ sizeLine) : slSet row (some a) (some c) x = .ok (row.take a.toNat ++ x ++ row.drop c.toNat) := if_pos ⟨h0, h1, h2, h3⟩
theorem slSet_out {α β : Type} {row x : List α} {lo hi : Option Int} {f : List α → M β} {P : β → Prop} {E : Exn → Prop} (h : Out (slSet row lo hi x >>= f) P E) :
    ∃ a c : Nat, lo = some (a : Int) ∧ hi = some (c : Int) ∧ a ≤ c ∧ c ≤ row.length ∧ row.length + x.length ≤ sizeLine ∧ Out (f (row.take a ++ x ++ row.drop c)) P E := by
  unfold slSet at h
  cases lo with
  | none => exact h.elim
  | some a =>
    cases hi with
    | none => exact h.elim
    | some c =>
      simp only at h
      split at h
      · next q =>
        obtain ⟨q1, q2, q3, q4⟩ := q
        obtain ⟨a', rfl⟩ := Int.eq_ofNat_of_zero_le q1
        obtain ⟨c', rfl⟩ := Int.eq_ofNat_of_zero_le (Int.le_trans q1 q2)
        refine ⟨a', c', rfl, rfl, by omega, by omega, q4, ?_⟩
        simpa using h
      · exact h.elim
section
variable {X : Cx} {Γ Γx : List SL} {e ob a : Expr} {lo hi : Option Expr} {rest : List Stmt} {pos p p1 p2 ps : Pos} {α β γ : Type} [Enc α] [Enc β] [Enc γ] {w : Bool} {τ : Type} {E : Eds τ} {x : Str}
/-- o[lo:hi] = a list -/
def gSl (to : TE) (tl th : TO) : TG := fun v σ H Q => to σ H fun o H1 => tl σ H1 fun l H2 => th σ H2 fun u H3 =>
  ∃ (p b : Addr) (xs ys : List V) (a c : Nat), o = .ref p ∧ v = .ref b ∧ l = some (a : Int) ∧ u = some (c : Int) ∧ H3 p = some (.lst xs) ∧ H3 b = some (.lst ys) ∧ p ≠ b ∧ a ≤ c ∧ c ≤ xs.length ∧ xs.length + ys.length ≤ sizeLine ∧ Q σ (upd H3 p (.lst (xs.take a ++ ys ++ xs.drop c)))
theorem pg_sl {o : Expr} {to : TE} {tl th : TO} (ho : PE X o to) (hl : PO X lo tl) (hu : PO X hi th)
    (ha : ∀ v, assign (.Subscript o (.Slice lo hi none p2) pos) X.env v = (do
      let ov ← holding [v] (eval o X.env)
      let iv ← holding [v, ov] (eval (.Slice lo hi none p2) X.env)
      standAt pos
      holding [v, ov, iv] (setItem ov iv v)
      release [iv, v, ov] []) := by intro _; rfl) : PG X (.Subscript o (.Slice lo hi none p2) pos) (gSl to tl th) := by
  refine ⟨fun pins s σ H v u Q I r h => ?_⟩
  rw [ha]
  refine wpAny_bind (wpAny_holding (thn (ho.run pins s σ H _ I h) fun ov s1 ⟨y, H1, I1, r1, q1⟩ => ?_))
  refine wpAny_bind (wpAny_holding (wpAny_Slice (thn (hl.run pins s1 σ H1 _ I1 q1) fun vl s2 ⟨l, H2, I2, pl, q2⟩ => thn (hu.run pins s2 σ H2 _ I2 q2) fun vu s3 ⟨u', H3, I3, pu, q3⟩ => ?_)))
  rw [evalPart_none]
  refine wpAny_pure ?_
  have I4 : Inv X pins σ H3 { s3 with heap := s3.heap.push { cls := .type "slice", data := .fields #[vl, vu, .none] } } := I3.kept (t' := s3.toks) fun b ob q => Heap.get?_push_of_some _ q
  obtain ⟨p, b, xs, ys, a, c, rfl, rfl, rfl, rfl, hp, hb, hne, hac, hc, hz, q⟩ := q3
  cases r1
  cases r
  obtain ⟨z, its, n, rr, hl1, e⟩ := I4.lstM hp
  obtain ⟨z2, its2, n2, rr2, hl2, e2⟩ := I4.lstM hb
  refine wpAny_bind (wpAny_standAt (wpAny_bind (wpAny_holding ?_)))
  refine setItem_slice (a := a) (c := c) e e2 hne (Heap.IsSliceOf.new ..) pl pu (by omega) (by rw [List.size_toArray]; omega) (by rw [List.size_toArray, List.size_toArray]; omega) ?_
  refine wpAny_release ⟨σ, _, ?_, q⟩
  refine I4.lset (its' := its.take a ++ its2 ++ its.drop c) (t' := s3.toks) hp e ?_ (Vals.append (Vals.append (rr.take _) rr2) (rr.drop _)) ?_
  · exact splice_eq its its2 a c
  · rw [List.length_append, List.length_append, List.length_take, List.length_drop]
    omega
theorem ow1_len {K : PySem.W.Frag} {mg : Str → Option Value} {H : Hp} {xs : List V} {l : List α} (r : Rs K mg H xs (l.map enc)) : xs.length = l.length := by rw [r.length, List.length_map]
/-- ob[a][lo:hi] = a new list -/
theorem vs_setIS {i : Nat} {π : List Pt} {oo : O} {L : List (List α)} {m : M (List α)} {ma : M Int} {ml mh : M (Option Int)} {k : List (List α) → M τ} (h : VQ X Γ i π ob) (hΓ : Γ[i]? = some (.val oo)) (hg : getO π oo = some (ow2 L)) (he : VO X Γ e ow1 m) (ha : VX true X Γ a ma) (hl : VP X Γ lo ml) (hh : VP X Γ hi mh) (hk : ∀ L', VS X (Γ.set i (.val (putO π oo (ow2 L')))) Γx rest E (k L')) (hs : Sub Γ Γx)
    (hpa : PlainIx a := by exact fun _ _ => rfl)
    (hst : ∀ v, assign (.Subscript (.Subscript ob a p1) (.Slice lo hi none p2) ps) X.env v = (do
      let ov ← holding [v] (eval (.Subscript ob a p1) X.env)
      let iv ← holding [v, ov] (eval (.Slice lo hi none p2) X.env)
      standAt ps
      holding [v, ov, iv] (setItem ov iv v)
      release [iv, v, ov] []) := by intro _; rfl)
    (hs1 : swapsWithSole [.Subscript (.Subscript ob a p1) (.Slice lo hi none p2) ps] e pos.line X.env = pure false := by rfl) (hw : swappedStores [.Subscript (.Subscript ob a p1) (.Slice lo hi none p2) ps] e X.env = pure none := by rfl) (hm1 : (assignEach [.Subscript (.Subscript ob a p1) (.Slice lo hi none p2) ps] X.env).map (·.2) = [assign (.Subscript (.Subscript ob a p1) (.Slice lo hi none p2) ps) X.env] := by rfl) :
    VS X Γ Γx (.Assign [.Subscript (.Subscript ob a p1) (.Slice lo hi none p2) ps] e pos :: rest) E (m >>= fun x => ma >>= fun j => getI L j >>= fun row => ml >>= fun l => mh >>= fun u => slSet row l u x >>= fun row' => setL L j row' >>= k) := fun W tk I0 H0 σ I H T mt D o => by
  refine seq_s (to_s1 (ps_asg pe_of (pg_sl (pe_ix ix_list pe_of pe_of hpa) po_of po_of hst) hs1 hw hm1) ?_)
  refine he.ap tk mt.mw o.bind (fun x _ o1 v I1 H1 Tn w1 r1 => ?_) fun _ z => z.xo mt hs
  have g1 : Gr I H I1 H1 := w1.subl (List.nil_sublist _)
  rw [ow1_inv] at r1
  cases r1 with
  | lst hb rr =>
    rename_i bn zs Tz
    obtain ⟨rfl, rz⟩ := rr.imm
    obtain ⟨v0, q, xs, T3, hv, s, h3, rs, up⟩ := lst_pl mt hΓ (os := L.map ow1) hg
    obtain ⟨s1, _⟩ := up I1 H1 [] g1
    refine h σ I1 H1 T (mt.mw.gr g1) v0 _ hv s1 _ ?_
    refine ha.ap tk (mt.mw.gr g1) o1.bind (fun j _ o2 u I2 H2 g2 r2 => ?_) fun _ z => (z.xo mt hs).gr g1
    cases r2
    obtain ⟨row, e2, o3⟩ := getI_out o2.bind
    obtain ⟨s2, h32, _⟩ := up I2 H2 [] (g1.trans g2)
    have hn : ∃ n, L2.ixN L.length j = some n ∧ L[n]? = some row := by
      unfold L2.atI at e2
      cases hx : L2.ixN L.length j with
      | none => rw [hx] at e2; cases e2
      | some n => rw [hx] at e2; exact ⟨n, rfl, e2⟩
    obtain ⟨n, hn1, hn2⟩ := hn
    have hg2 : getO (π ++ [.idx n]) oo = some (ow1 row) := by
      rw [getO_app, hg]
      show ((L.map ow1)[n]?).bind (fun o => getO [] o) = _
      rw [List.getElem?_map, hn2]
      rfl
    obtain ⟨v0', q2, ys, hv', sq, hq2, rs2, up2⟩ := own_pl mt hΓ hg2
    rw [hv] at hv'; cases hv'
    obtain ⟨sq2, hq22, _⟩ := up2 I2 H2 (g1.trans g2)
    obtain ⟨u', su, ⟨p', xs', z', eu, hp', hx', ez⟩⟩ := subV_split sq2
    obtain rfl := subV_fun su s2
    cases eu
    rw [h32] at hp'; cases hp'
    have ez : V.ref q2 = z' := ez
    subst ez
    have hlen : xs.length = L.length := by rw [rs.len, List.length_map]
    refine ⟨_, xs, j, .ref q2, rfl, rfl, .of h32, by unfold L2.atI; rw [hlen, hn1]; exact hx', ?_⟩
    refine hl.ap tk ((mt.mw.gr g1).gr g2) o3.bind (fun l _ o4 I3 H3 g3 => ?_) fun _ z => ((z.xo mt hs).gr g1).gr g2
    refine hh.ap tk (((mt.mw.gr g1).gr g2).gr g3) o4.bind (fun u _ o5 I4 H4 g4 => ?_) fun _ z => (((z.xo mt hs).gr g1).gr g2).gr g3
    obtain ⟨a', c', rfl, rfl, hac, hc, hz, o6⟩ := slSet_out o5
    have g14 := ((g1.trans g2).trans g3).trans g4
    obtain ⟨_, hq24, put⟩ := up2 I4 H4 g14
    have hb4 : H4 bn = some (.lst zs) := ((g2.trans g3).trans g4).h0 _ _ hb
    have hne : q2 ≠ bn := fun z => by
      have := (w1.fr bn (by simp)).2
      rw [← z, hq2] at this
      cases this
    have ely : ys.length = row.length := ow1_len rs2
    have elz : zs.length = x.length := ow1_len rz
    refine ⟨q2, bn, ys, zs, a', c', rfl, rfl, rfl, rfl, hq24, hb4, hne, hac, by omega, by omega, ?_⟩
    have g24 := (g2.trans g3).trans g4
    obtain ⟨T4, mt4⟩ := put (ys.take a' ++ zs ++ ys.drop c') (row.take a' ++ x ++ row.drop c') (by
      rw [List.map_append, List.map_append, List.map_take, List.map_drop]
      exact ((((rs2.mono g14.i0).take _).append (rz.mono g24.i0)).append ((rs2.mono g14.i0).drop _)))
    rw [putO_app _ _ _ _ _ hg] at mt4
    have e5 : putO [.idx n] (ow2 L) (ow1 (row.take a' ++ x ++ row.drop c')) = ow2 (L.set n (row.take a' ++ x ++ row.drop c')) := by
      unfold ow2
      show O.lst (match (L.map ow1)[n]? with | some o => (L.map ow1).set n (ow1 (row.take a' ++ x ++ row.drop c')) | none => L.map ow1) = _
      rw [List.getElem?_map, hn2]
      show O.lst ((L.map ow1).set n (ow1 (row.take a' ++ x ++ row.drop c'))) = _
      rw [List.map_set]
    rw [e5] at mt4
    have o7 : Out (k (L.set n (row.take a' ++ x ++ row.drop c'))) (DO X I0 H0 E D) (XS X W I0 H0 Γx) := by
      have := o6
      unfold setL at this
      rw [hn1] at this
      exact this
    exact rest_s (hk _) tk mt4 o7
end
end Vc

set_option Elab.async false
set_option linter.all false
set_option maxRecDepth 100000
namespace Vc
open PySem PySem.Spec PyProof.Rows L2
open Enc (enc)
section
variable {X : Cx} {Γ Γx : List SL} {e a b c : Expr} {es : List Expr} {rest : List Stmt} {pos p : Pos} {α β γ : Type} [Enc α] [Enc β] [Enc γ] {w w' : Bool} {τ : Type} {E : Eds τ}
/-- try: body / except x: suite, without a name -/
theorem vs_tryO {S : Type} (F : S → List SL) (tb : ETab) {xc : Str} {body suite : List Stmt} {b₀ : Stmt} {np pos' : Pos} {mb mh : M (Jn S τ)} {kk : S → M τ} (Γt : List SL) (hX : X.stack = X.env :: X.outer) (hf : X.env.frame = some X.env.locals) (hE : EEx X.K X.mg tb xc)
    (hb : ∀ (pn : List (Addr × Obj)) (xe : Value → Shared → Prop), PassesOwn (model X.prog X.w) X.A X.env xe → VS (X.tr pn xe) Γ Γt body (eJn F E) mb)
    (hsu : ∀ (a : Addr) (oe : Obj) (pn : List (Addr × Obj)), VS (X.suite a ((a, oe) :: pn)) Γt (anys Γt.length) (b₀ :: suite) (eJn F E) mh)
    (hk : ∀ s, VS X (F s) Γx rest E (kk s)) (hs : Sub Γt Γx) (hg : Gl X xc := by rfl) (hdb : (xc == ("__debug__" : Str)) = false := by decide) :
    VS X Γ Γx (.Try body [.ExceptHandler (some (.Name xc np)) none (b₀ :: suite) pos'] [] [] pos :: rest) E (tryM tb xc mb (fun _ => nox mh) >>= fun j => j.on kk) := fun W tk I0 H0 σ I H T mt D o => by
  obtain ⟨C, hC, hEo⟩ := hE.ex
  refine seq_s (to_s1 (L2N.ps_try_many (l := [(_, fun a cls d => fun D σ H => ∀ oe pn, L2N.Zn cls d oe → (∃ vs, oe.data = .fields vs) → sOf (X.suite a ((a, oe) :: pn)) (b₀ :: suite) D σ H)])
    (tb := fun W' => fun D σ H => ∀ pn xe, L2N.Takes (X.tr pn xe) W' → PassesOwn (model X.prog X.w) X.A X.env xe → sOf (X.tr pn xe) body D σ H)
    hX hf tk (fun W' pn xe tk' po => ⟨fun pins s σ H D In h => (h pn xe tk' po).run pins s In⟩) (.cons ⟨hg, hdb, .inl hC⟩ (fun a oe cls d pn hz hfl => ⟨fun pins s σ H D In h => (h oe pn hz hfl).run pins s In⟩) .nil)) ?_)
  intro pn xe tk' po
  have fin : ∀ (j : Jn S τ), Out (j.on kk) (DO X I0 H0 E D) (XS X W I0 H0 Γx) → DO X I0 H0 (eJn F E) { D with nx := sOf X rest D } j := fun j o => ⟨fun Γ' σ' I' H' T' z m => by
      obtain ⟨s, rfl, z⟩ := z
      obtain ⟨T2, m2⟩ := m.sub z
      exact rest_s (hk s) tk m2 o, fun Γ' σ' I' H' T' z m => by
      obtain ⟨t, rfl, z⟩ := z
      exact DO.bk (E := E) o Γ' σ' I' H' T' z m, fun Γ' σ' I' H' T' z m => by
      obtain ⟨t, rfl, z⟩ := z
      exact DO.ct (E := E) o Γ' σ' I' H' T' z m, fun Γ' σ' ow v I' H' T2 T' z m sl r => by
      obtain ⟨t, rfl, z⟩ := z
      exact DO.rt (E := E) o Γ' σ' ow v I' H' T2 T' z m sl r⟩
  refine hb pn xe po _ tk' I0 H0 σ I H T mt _ ?_
  cases mb with
  | stuck => exact o.elim
  | ok j => exact (let g := fin j o; ⟨g.nx, g.bk, g.ct, g.rt⟩ : DO (X.tr pn xe) I0 H0 (eJn F E) _ j)
  | exc ex =>
    intro cl d σ' I' H' T' mt' at'
    have o1 : Out ((isE tb ex xc >>= fun b => if b then nox mh else M.exc ex) >>= fun j => j.on kk) (DO X I0 H0 E D) (XS X W I0 H0 Γx) := o
    unfold isE at o1
    cases q : tb.lookup ex.nm with
    | none => rw [q] at o1; exact o1.elim
    | some up =>
      rw [q] at o1
      refine ⟨up.contains xc, hEo.ex ex.nm up q cl at'.cls, fun hy a ha => ?_, fun hno => ?_⟩
      · have o2 : Out ((if up.contains xc = true then nox mh else M.exc ex) >>= fun j => j.on kk) (DO X I0 H0 E D) (XS X W I0 H0 Γx) := o1
        rw [if_pos hy] at o2
        have o3 := nox_out o2.bind
        intro oe pn2 hz hfl
        refine hsu a oe pn2 (fun _ _ _ _ => False) takes0N I0 H0 _ I' H' T' mt' _ (o3.mono (fun j _ o4 => ?_) fun _ _ z => z.elim)
        have g := fin j o4
        exact ⟨g.nx, g.bk, g.ct, g.rt⟩
      · have o2 : Out ((if up.contains xc = true then nox mh else M.exc ex) >>= fun j => j.on kk) (DO X I0 H0 E D) (XS X W I0 H0 Γx) := o1
        rw [if_neg (by rw [hno]; simp)] at o2
        obtain ⟨T2, mt2⟩ := mt'.sub hs
        exact o2 cl d σ' I' H' T2 mt2 at'
theorem VP.congr {e : Option Expr} {m m' : M (Option Int)} (h : VP X Γ e m) (q : m = m') : VP X Γ e m' := q ▸ h
/-! ### range objects -/
structure Rg where
  i : Int
  j : Int
  c : Int
instance : Enc Rg := ⟨fun r => .rg r.i r.j r.c⟩
theorem rg_inv {K : PySem.W.Frag} {mg : Str → Option Value} {H : Hp} {v : V} {r : Rg} (h : R K mg H v (enc r)) : ∃ p, v = .ref p ∧ H p = some (.ext (RgP p r.i r.j r.c)) := by
  have h : R K mg H v (.rg r.i r.j r.c) := h
  cases h with
  | rg h => exact ⟨_, rfl, h⟩
/-- range(a, b, c) kept as a value -/
theorem pe_range3 {ta : TA} (hg : Gl X "range") (hm : X.mg "range" = none) (ha : PA X [a, b, c] ta)
    (hs : starEach [a, b, c] X.env = (false, eval a X.env) :: starEach [b, c] X.env := by rfl) (hpl : (backTo pos (starEach [b, c] X.env)).any (·.1) = false := by rfl) :
    PE X (.Call (.Name "range" p) [a, b, c] [] pos) (fun σ H Q => ta σ H fun vs H1 => ∃ (i j c : Int), vs = [.int i, .int j, .int c] ∧ c ≠ 0 ∧ c.natAbs < 1073741824 ∧ ∀ q, H1 q = none → Q (.ref q) (upd H1 q (.ext (RgP q i j c)))) := by
  refine ⟨fun pins s σ H Q I h => ?_⟩
  refine Call_ (ld_blt I hg hm boot_range (PyProof.Rows.callWith_type1 (thn (ha.run pos pins s σ H _ I h) fun us s1 ⟨vs, H1, I1, r1, q1⟩ => ?_) hs hpl))
  obtain ⟨i, j, k, e, c0, c1, q⟩ := q1
  subst e
  cases r1 with
  | cons r rr =>
    cases rr with
    | cons r' rr =>
      cases rr with
      | cons r'' rr =>
        cases rr
        obtain ⟨t, rfl⟩ := r
        obtain ⟨t', rfl⟩ := r'
        obtain ⟨t'', rfl⟩ := r''
        refine call_range_3 c0 ?_ (.inl (PyProof.noPylong_small c1))
        have hn : H1 s1.heap.objs.size = none := I1.hok.fresh (Nat.le_refl _)
        refine ⟨.ref s1.heap.objs.size, _, I1.laid (t' := s1.toks) (o := .ext (RgP s1.heap.objs.size i j k)) (fun b ob q => Heap.get?_push_of_some _ q) (Nat.le_refl _) ?_, rfl, q _ hn⟩
        exact ⟨⟨t, t', t'', Heap.get?_push_size _ rfl⟩, ⟨_, Heap.get?_push_size _ rfl⟩, fun h1 h2 ⟨t, u, v, e⟩ k => ⟨t, u, v, k _ e⟩⟩
theorem ve_range3 {m1 m2 m3 : M Int} (hm : X.mg "range" = none) (h : VX true X Γ a m1) (h2 : VX true X Γ b m2) (h3 : VX true X Γ c m3) (hg : Gl X "range" := by rfl)
    (hs : starEach [a, b, c] X.env = (false, eval a X.env) :: starEach [b, c] X.env := by rfl) (hs2 : starEach [b, c] X.env = (false, eval b X.env) :: starEach [c] X.env := by rfl) (hs3 : starEach [c] X.env = (false, eval c X.env) :: starEach [] X.env := by rfl) (hpl : (backTo pos (starEach [b, c] X.env)).any (·.1) = false := by rfl) :
    VX w X Γ (.Call (.Name "range" p) [a, b, c] [] pos) (m1 >>= fun x => m2 >>= fun y => m3 >>= fun z => Vc.chk (0 < z ∧ z < 1073741824) >>= fun _ => M.ok (Rg.mk x y z)) := fun W tk σ I H T mw Q o => by
  refine to_t (pe_range3 hg hm (pa_cons pe_of (pa_cons pe_of (pa_cons pe_of pa_nil hs3) hs2) hs) hs hpl) (h.ap tk mw o.bind (fun x _ o1 v I1 H1 g1 r1 => ?_) fun _ z => z)
  refine h2.ap tk (mw.gr g1) o1.bind (fun y _ o2 u I2 H2 g2 r2 => ?_) fun _ z => z.gr g1
  refine h3.ap tk ((mw.gr g1).gr g2) o2.bind (fun z _ o3 t I3 H3 g3 r3 => ?_) fun _ z => z.gr (g1.trans g2)
  cases r1; cases r2; cases r3
  obtain ⟨⟨h3, h4⟩, o4⟩ := o3.chk
  refine ⟨x, y, z, rfl, by omega, by omega, fun q hq => ?_⟩
  have gn := Gr.new (I := I3) (o := .ext (RgP q x y z)) g3.ih hq
  refine o4 _ (upd I3 q (.ext (RgP q x y z))) _ (((g1.trans g2).trans g3).trans gn) ?_
  cases w
  · exact .rg upd_same
  · exact .rg upd_same
/-- a range object is walked -/
theorem pi_rg {tg : Expr} {te : TE} (he : PE X e te) : PI X tg e (fun σ H R => te σ H fun x H1 => ∃ (p : Addr) (i j c : Int) (n : Nat), x = .ref p ∧ H1 p = some (.ext (RgP p i j c)) ∧ RgC i j c n ∧ R (Itc i c n) H1) := by
  refine ⟨fun pins s σ H R I h => ?_⟩
  refine thn (he.run pins s σ H _ I h) fun u s1 ⟨x, H1, I1, r1, q1⟩ => ?_
  obtain ⟨p, i, j, k, n, rfl, hp, ⟨c0, c1, c2, c3⟩, q⟩ := q1
  cases r1
  obtain ⟨⟨t, t', t'', hr⟩, _, _⟩ := I1.hok p _ hp
  refine wpAny_pyIter_range hr c2 ?_
  refine pi_one (tk := s1.toks) I1 _ (turn_rangeC _ i k n) ?_ q
  have e1 : i + ((0 : Nat) : Int) * k = i := by simp
  have e2 : (n : Int) - ((0 : Nat) : Int) = Builtin.Range.rangeSize i j k := by rw [c3]; simp
  show IsRangeIter _ _ (i + ((0 : Nat) : Int) * k) ((n : Int) - ((0 : Nat) : Int)) k
  rw [e1, e2]
  exact Heap.get?_push_size _ rfl
theorem vi_rg {tg : Expr} {m : M Rg} (h : VX true X Γ e m) : VI X Γ tg e (m >>= fun r => Vc.chk (rOk r.i ∧ rOk r.j ∧ 0 < r.c ∧ r.c < 1073741824) >>= fun _ => M.ok (rngC r.i r.j r.c)) := fun W tk σ I H T mw R o => by
  refine to_i (pi_rg pe_of) (h.ap tk mw o.bind (fun x _ o1 v I1 H1 g1 r1 => ?_) fun _ z => z)
  obtain ⟨⟨h1, h2, h3, h4⟩, o4⟩ := o1.chk
  obtain ⟨p, rfl, hp⟩ := Vc.rg_inv r1
  refine ⟨p, x.i, x.j, x.c, rngN x.i x.j x.c, rfl, hp, rngC_ok h1 h2 h3 h4, o4 _ I1 H1 g1 fun i I4 H4 s1 s2 => ⟨fun q hq => ?_, fun h => by rw [rngC_length] at h; exact h⟩⟩
  obtain ⟨hi, rfl⟩ := rngC_get hq
  refine ⟨hi, fun v H5 e => ?_⟩
  obtain ⟨rfl, rfl⟩ := e
  exact ⟨I4, .refl s2, .int _⟩
end
end Vc

set_option Elab.async false
set_option linter.all false
set_option maxRecDepth 100000
namespace Vc
open PySem PySem.Spec PyProof.Rows L2
open Enc (enc)
/-! ### own lists looked at as data, for the time of one expression -/
inductive Frz : List SL → List SL → Prop
  | nil : Frz [] []
  | any {a : SL} {Γ Γ' : List SL} : Frz Γ Γ' → Frz (a :: Γ) (.any :: Γ')
  | imm {d : D} {Γ Γ' : List SL} : Frz Γ Γ' → Frz (.val (.imm d) :: Γ) (.val (.imm d) :: Γ')
  | own {o : O} {d : D} {Γ Γ' : List SL} : o.toD = d → Frz Γ Γ' → Frz (.val o :: Γ) (.val (.imm d) :: Γ')
theorem Sls.frz {K : PySem.W.Frag} {mg : Str → Option Value} {I H : Hp} (e : Same I H) : ∀ {σ : L2.St} {Γ Γ' : List SL} {T : List Addr}, Frz Γ Γ' → Sls K mg I H σ Γ T → Sls K mg H H σ Γ' []
  | _, _, _, _, .nil, .nil => .nil
  | _, _, _, _, .any f, .any r => .any (Sls.frz e f r)
  | _, _, _, _, .any f, .val h r => .any (Sls.frz e f r)
  | _, _, _, _, .imm f, .val (.imm h) r => .val (T := []) (.imm (h.mono e)) (Sls.frz e f r)
  | _, _, _, _, .own q f, .val h r => .val (T := []) (.imm (q ▸ h.toR e fun _ _ => rfl)) (Sls.frz e f r)
section
variable {X : Cx} {Γ Γ' Γx : List SL} {e : Expr} {es : List Expr} {rest : List Stmt} {pos p : Pos} {α β γ : Type} [Enc α] [Enc β] [Enc γ] {τ : Type} {E : Eds τ}
theorem ow1_atoms [Atm β] {K : PySem.W.Frag} {mg : Str → Option Value} {I I' H : Hp} {v : V} {l : List β} {T : List Addr} (h : Ow K mg I H v (ow1 l) T) : Ow K mg I' H v (ow1 l) T := by
  rw [ow1_inv] at h ⊢
  cases h with
  | lst e1 e2 =>
    refine .lst e1 ?_
    obtain ⟨rfl, rs⟩ := e2.imm
    exact Ows.of_imm rs.atoms
theorem ows1_atoms [Atm β] {K : PySem.W.Frag} {mg : Str → Option Value} {I I' H : Hp} : ∀ {r : List (List β)} {xs : List V} {T : List Addr}, Ows K mg I H xs (r.map ow1) T → Ows K mg I' H xs (r.map ow1) T
  | [], _, _, .nil => .nil
  | a :: r, _, _, .cons h q => .cons (ow1_atoms h) (ows1_atoms q)
/-- a call with borrowed arguments: the result is a new list of new lists of plain things -/
theorem vo_callB2 {k : Nat} {f : Addr} {fd : FuncData} {ps : List Str} {x : Str} {A : Type} {ea : A → List D} {ma : M A} [Atm β] {m : A → M (List (List β))} (F : FnOk X.prog X.w X.K X.mg X.base (L2N.CX X.prog X.w) k f fd ps (spF X.K X.mg ea ow2 m)) (hr : Room k X.A) (hm : X.mg x = some (.ref f)) (hk : PySem.W.keepIn X.K (.ref f) = true) (hb : Binds X.K fd ps []) (h : VA true X Γ (e :: es) ea ma) (hg : Gl X x := by rfl)
    (hdb : (x == ("__debug__" : Str)) = false := by decide) (he : starEach (e :: es) X.env = (false, eval e X.env) :: starEach es X.env := by rfl) (hpl : (backTo pos (starEach es X.env)).any (·.1) = false := by rfl) : VO X Γ (.Call (.Name x p) (e :: es) [] pos) ow2 (ma >>= fun a => bor (m a)) := fun W tk σ I H T mw Q o => by
  refine to_t (pe_callS (E := WE W) F hr hg hm hk hb (fun σ => L2N.passAt tk σ) pa_of hdb he hpl) (h.ap tk mw o.bind (fun a _ o1 vs I1 H1 g1 r1 => ?_) fun _ z => z)
  refine ⟨H1, a, .refl _, r1, (bor_out o1).mono (fun r _ k v I' H' T' wd q => ?_) fun ex hex k cl d I' H' g at' => ?_⟩
  · refine k v I1 H' T' ?_ ?_
    · have w2 : Wd I1 H1 I1 H' T' := ⟨g1.ih.trans wd.h0, .refl _, wd.h0, fun p hp => ⟨g1.ih.free (wd.fr p hp).2, (wd.fr p hp).2⟩, wd.nd, fun _ _ z => z⟩
      have := Wd.ow g1 (fun _ z => nomatch z) w2
      simpa using this
    · cases q with
      | lst e1 e2 => exact .lst e1 (ows1_atoms e2)
  · exact k.2 cl d I1 H' (g1.trans (Gr.keep g1.ih g)) ⟨at'.cls, at'.non, fun z => absurd k.1 z⟩
/-- name = [..] over lists that are owned (and stay so) -/
theorem vs_setLc2B [Atm β] (i : Nat) {x : Str} {px : Pos} {n : Nat} {tg : Expr} {ifs : List Expr} {elt : Expr} {scope : Scope} (Γ' : List SL) (own : List (Str × Nat)) {u : α → List SL → List SL} {m : M (List α)} {t : α → M Bool} {f : α → M (List β)} {k : List (List β) → M τ} (hfz : Frz Γ Γ') (hc : X.calm = true) (hN : X.N.Nodup) (hi : VI X Γ' tg e m) (ok : BlkOk X.N X.env.scope scope own)
    (hg : BLK X scope fun Y => VG Y n tg (own.map (·.2)) u) (ht : ∀ a, BLK X scope fun Y => VK Y (u a (wipeG Γ' (own.map (·.2)))) ifs (t a)) (he : ∀ a, BLK X scope fun Y => VO Y (u a (wipeG Γ' (own.map (·.2)))) elt ow1 (f a))
    (hk : ∀ r, VS X (Γ.set i (.val (ow2 r))) Γx rest E (k r)) (hsb : Sub Γ Γx) (hsw : swapsWith (.ListComp elt [⟨tg, e, ifs, 0⟩] scope pos) (some (.Name x px)) p.line X.env = pure true) (hn : Γ'.length = n := by rfl) (hl : Nat.blt i Γ.length = true := by rfl) (hy : X.N[i]? = some x := by rfl) (hyl : X.env.scope.names.lookup x = some .local := by rfl) (hs : ∀ x, foldedSetIterable e X.env x = pure x := by intro _; rfl) :
    VS X Γ Γx (.Assign [.Name x px] (.ListComp elt [⟨tg, e, ifs, 0⟩] scope pos) p :: rest) E (bor (m >>= fun l => lcM t f l) >>= k) := fun W tk I0 H0 σ I H T mt D o => by
  refine seq_s (to_s1 (ps_setLc hc hN hy hyl hsw pi_of ok lc_pg lc_pt lc_pe hs) ?_)
  show tLc (iOf X tg e) (gAll X scope tg) (kAll X scope ifs) (tAll X scope elt) (own.map (·.2)) σ H _
  have mw' : Mw X.K X.mg Γ' σ H H [] := ⟨.refl _, fun _ z => (nomatch z), List.nodup_nil, mt.sl.frz mt.wd.ih hfz⟩
  refine lc_readO hi hg ht he hn tk mw' (bor_out o.bind) (fun r o1 v I1 H1 T2 w1 q => ?_) fun ex z cl d I' H' g at' => ?_
  · have w2 : Wd I H I H1 T2 := ⟨mt.wd.ih.trans w1.h0, .refl _, w1.h0, fun p hp => ⟨mt.wd.ih.free (w1.fr p hp).2, (w1.fr p hp).2⟩, w1.nd, fun _ _ z => z⟩
    have q2 : Ow X.K X.mg I H1 v (ow2 r) T2 := by
      cases q with
      | lst e1 e2 => exact .lst e1 (ows1_atoms e2)
    have there : ∀ p ∈ T, H p ≠ none := fun p hp => by obtain ⟨xs, e⟩ := mt.sl.there p hp; rw [e]; simp
    have mt1 : Sls X.K X.mg I H1 σ Γ T := mt.sl.mono w2.i0 fun p hp => by
      obtain ⟨xs, e⟩ := mt.sl.there p hp
      rw [e]; exact w2.h0 p _ e
    obtain ⟨T', s', c', d'⟩ := mt1.put (Nat.blt_eq.mp hl) q2
    have wd := mt.wd.ow there w2
    exact rest_s (hk r) tk ⟨⟨wd.ih, wd.i0, wd.h0, fun p hp => wd.fr p (List.mem_append.mpr (c' p hp)), d' wd.nd, wd.sep⟩, s'⟩ o1
  · exact (z.2.xo mt hsb) cl d I H' (Gr.keep mt.wd.ih g) ⟨at'.cls, at'.non, fun y => absurd z.1 y⟩
end
end Vc

set_option Elab.async false
set_option linter.all false
set_option maxRecDepth 100000
namespace Vc
open PySem PySem.Spec PyProof.Rows L2
open Enc (enc)
/-! ### dicts with pairs of numbers as keys, truth values as values -/
structure DT where
  l : List ((Int × Int) × Bool)
  deriving DecidableEq
def kP (p : Int × Int) : List Key := [.inl p.1, .inl p.2]
def DT.kv (d : DT) : List (List Key × V) := d.l.map fun p => (kP p.1, V.bl p.2)
def odt (a : Addr) (d : DT) : O := .dct a d.kv
def DT.has (d : DT) (k : Int × Int) : Bool := d.l.any fun p => decide (p.1 = k)
def DT.put (d : DT) (k : Int × Int) (v : Bool) : DT := ⟨if d.has k = true then d.l.map (fun p => if p.1 = k then (p.1, v) else p) else d.l ++ [(k, v)]⟩
theorem kP_eq {a b : Int × Int} : (kP a = kP b) = (a = b) := by
  apply propext
  constructor
  · intro h
    unfold kP at h
    simp only [List.cons.injEq, Sum.inl.injEq, and_true] at h
    exact Prod.ext h.1 h.2
  · intro h
    rw [h]
theorem DT.any (d : DT) (k : Int × Int) : (d.kv.any fun kv => decide (kv.1 = kP k)) = d.has k := by
  unfold DT.kv DT.has
  rw [List.any_map]
  refine congrArg (List.any d.l) ?_
  funext p
  show decide (kP p.1 = kP k) = _
  exact decide_eq_decide.mpr (by rw [kP_eq])
theorem DT.kv_put (d : DT) (k : Int × Int) (v : Bool) : putK d.kv (kP k) (V.bl v) = (d.put k v).kv := by
  unfold putK
  rw [DT.any]
  unfold DT.put
  cases d.has k with
  | true =>
    rw [if_pos rfl, if_pos rfl]
    unfold DT.kv
    rw [List.map_map, List.map_map]
    refine List.map_congr_left fun p _ => ?_
    show (if kP p.1 = kP k then (kP p.1, V.bl v) else (kP p.1, V.bl p.2)) = (kP (if p.1 = k then (p.1, v) else p).1, V.bl (if p.1 = k then (p.1, v) else p).2)
    by_cases h : p.1 = k
    · rw [if_pos (by rw [h]), if_pos h]
    · rw [if_neg (by rw [kP_eq]; exact h), if_neg h]
  | false =>
    rw [if_neg (by simp), if_neg (by simp)]
    unfold DT.kv
    rw [List.map_append]
    rfl
theorem DT.isSome (d : DT) (k : Int × Int) : (valV d.kv (kP k)).isSome = d.has k := by rw [← valV_any, DT.any]
def isI : Value → Bool
  | .int _ _ => true
  | _ => false
/-- the module has no tuple of n whole numbers -/
def NoT (K : PySem.W.Frag) (n : Nat) : Prop := ∀ a o its k, K.lookup a = some o → o.cls = .type "tuple" → o.data = .seq its k → ¬ (its.size = n ∧ its.toList.all isI = true)
def noT (K : PySem.W.Frag) (n : Nat) : Bool := K.all fun p => match p.2.cls with
  | .type t => !(t == "tuple") || (match p.2.data with
    | .seq its _ => !(its.size == n && its.toList.all isI)
    | _ => true)
  | _ => true
theorem noT_mem {K : PySem.W.Frag} {a : Addr} {o : Obj} (h : K.lookup a = some o) : (a, o) ∈ K := by
  induction K with
  | nil => cases h
  | cons q K ih =>
    rw [List.lookup_cons] at h
    cases e : a == q.1 with
    | true =>
      rw [e] at h
      have := eq_of_beq e
      subst this
      cases h
      exact List.mem_cons_self
    | false =>
      rw [e] at h
      exact List.mem_cons_of_mem _ (ih h)
theorem NoT.mk {K : PySem.W.Frag} {n : Nat} (h : noT K n = true) : NoT K n := fun a o its k h1 h2 h3 e => by
  have := List.all_eq_true.mp h _ (noT_mem h1)
  simp only [h3, h2, e.1, e.2] at this
  simp at this
theorem all_ints : ∀ {ns : List Int} {its : List Value}, Vals (ns.map V.int) its → its.all isI = true
  | [], [], _ => rfl
  | [], _ :: _, h => by cases h
  | _ :: _, [], h => by cases h
  | n :: ns, u :: its, h => by
    cases h with
    | cons h1 h2 =>
      obtain ⟨t, rfl⟩ := h1
      rw [List.all_cons, all_ints h2]
      rfl
theorem R.tup_real {K : PySem.W.Frag} {mg : Str → Option Value} {H : Hp} {v : V} {ns : List Int} {n : Nat} (hK : NoT K n) (hn : ns.length = n) (r : R K mg H v (.tup (ns.map D.int))) : ∃ p, v = .ref p ∧ H p = some (.tup (ns.map V.int)) := by
  cases r with
  | tup h q =>
    have e := q.ints
    subst e
    rcases h with h | ⟨o, its, k, h1, h2, h3, h4, h5⟩
    · exact ⟨_, rfl, h⟩
    · refine absurd ⟨?_, all_ints h5⟩ (hK _ _ _ _ h1 h2 h3)
      have e2 := h5.length
      rw [List.length_map] at e2
      rw [← Array.length_toList, ← e2, hn]
theorem R.pair_inv {K : PySem.W.Frag} {mg : Str → Option Value} {H : Hp} {v : V} {p : Int × Int} (hK : NoT K 2) (r : R K mg H v (enc p)) : ∃ a, v = .ref a ∧ H a = some (.tup ((kP p).map kV)) :=
  R.tup_real (ns := [p.1, p.2]) hK rfl r
section
variable {X : Cx} {Γ Γx : List SL} {e e1 a b c ob : Expr} {es : List Expr} {rest : List Stmt} {pos p apos : Pos} {α β γ : Type} [Enc α] [Enc β] [Enc γ] {w w' : Bool} {τ : Type} {E : Eds τ}
/-- x = {} -/
theorem vs_dtnew (i : Nat) {x : Str} {p : Pos} {k : M τ} (hN : X.N.Nodup) (hk : ∀ a, VS X (Γ.set i (.val (odt a ⟨[]⟩))) Γx rest E k) (hi : X.N[i]? = some x := by rfl) (hl : Nat.blt i Γ.length = true := by rfl) (hx : Loc X.env.scope x := by first | exact .inl rfl | exact .inr rfl)
    (hsw : swapsWith (.Dict [] [] apos) (some (.Name x p)) pos.line X.env = pure false := by rfl) (hf : X.fn x = true ∨ X.env.scope.names.lookup x = some .local := by first | exact .inl rfl | exact .inr rfl) : VS X Γ Γx (.Assign [.Name x p] (.Dict [] [] apos) pos :: rest) E k := fun W tk I0 H0 σ I H T mt D o => by
  refine seq_s (to_s1 (ps_set hN hi hx pe_of hsw hf) ?_)
  refine to_t pe_dnewT fun q hq => ?_
  have w1 : Wd I H I (upd H q (.dT [])) [q] := Wd.new mt.wd.ih hq
  have there : ∀ p ∈ T, H p ≠ none := fun p hp => by obtain ⟨xs, e⟩ := mt.sl.there p hp; rw [e]; simp
  have mt1 : Sls X.K X.mg I (upd H q (.dT [])) σ Γ T := mt.sl.mono w1.i0 fun p hp => by
    obtain ⟨xs, e⟩ := mt.sl.there p hp
    rw [e]; exact w1.h0 p _ e
  have r1 : Ow X.K X.mg I (upd H q (.dT [])) (.ref q) (odt q ⟨[]⟩) [q] := .dct upd_same
  obtain ⟨T', s', c', d'⟩ := mt1.put (Nat.blt_eq.mp hl) r1
  have wd := mt.wd.ow there w1
  exact rest_s (hk q) tk ⟨⟨wd.ih, wd.i0, wd.h0, fun p hp => wd.fr p (List.mem_append.mpr (c' p hp)), d' wd.nd, wd.sep⟩, s'⟩ o
/-- x[k] = v -/
theorem vs_dtput {i : Nat} {ad : Addr} {d : DT} {p1 : Pos} {m : M Bool} {mk : M (Int × Int)} {kk : DT → M τ} (hK : NoT X.K 2) (hu : X.A.units + 64 < cLine) (h : VQ X Γ i [] ob) (hΓ : Γ[i]? = some (.val (odt ad d))) (he : VE X Γ e m) (hk : VX true X Γ b mk) (hkk : ∀ d', VS X (Γ.set i (.val (odt ad d'))) Γx rest E (kk d')) (hs : Sub Γ Γx)
    (hsw : swapsWith e (some (.Subscript ob b p1)) pos.line X.env = pure false := by rfl) :
    VS X Γ Γx (.Assign [.Subscript ob b p1] e pos :: rest) E (m >>= fun v => mk >>= fun k => chk (d.l.length < sizeLine) >>= fun _ => kk (d.put k v)) := fun W tk I0 H0 σ I H T mt D o => by
  obtain ⟨v0, u, T1, hv, s, ow, inT, nd1, up⟩ := mt_put (π := []) mt hΓ rfl
  unfold odt at ow
  cases ow with
  | dct h3 =>
    refine seq_s (to_s1 (ps_dput (by omega) pe_of pe_of pe_of hsw) ?_)
    refine he.ap tk mt.mw o.bind (fun x _ o1 v I1 H1 g1 r1 => ?_) fun _ z => z.xo mt hs
    obtain ⟨s1, _, _⟩ := up I1 H1 [] g1
    refine h σ I1 H1 T (mt.mw.gr g1) v0 _ hv s1 _ ?_
    refine hk.ap tk (mt.mw.gr g1) o1.bind (fun k _ o2 y I2 H2 g2 r2 => ?_) fun _ z => (z.xo mt hs).gr g1
    cases r1
    obtain ⟨b2, rfl, hb2⟩ := R.pair_inv hK r2
    obtain ⟨hz, o3⟩ := o2.chk
    have g := g1.trans g2
    obtain ⟨_, _, put⟩ := up I2 H2 [] g
    have h3' : H2 ad = some (.dT d.kv) := g.h0 _ _ h3
    have hlen : d.kv.length < sizeLine := by unfold DT.kv; rw [List.length_map]; exact hz
    refine ⟨ad, _, rfl, DPut.t (k := kP k) h3' hb2 hlen, ?_⟩
    rw [DT.kv_put]
    obtain ⟨T4, mt4⟩ := put (upd H2 ad (.dT (d.put k x).kv)) (odt ad (d.put k x)) [ad] (fun p hp => upd_ne fun z => hp (by rw [z]; exact List.mem_cons_self)) (.dct upd_same) (fun p hp => .inl (by simpa using hp)) (by simp)
    exact rest_s (hkk _) tk mt4 o3
/-- k in x -/
theorem ve_dtin {i : Nat} {ad : Addr} {d : DT} {mk : M (Int × Int)} (hK : NoT X.K 2) (hu : X.A.units + 64 < cLine) (hk : VX true X Γ a mk) (h : VQ X Γ i [] ob) (hΓ : Γ[i]? = some (.val (odt ad d))) (hb : behindInMarks .In ob = false := by rfl) : VX w X Γ (.Compare a [.In] [ob] pos) (mk >>= fun k => M.ok (d.has k)) := VX.le fun W tk σ I H T mw Q o => by
  refine to_t (pe_cmp (pc_din (by omega) pe_of pe_of) hb) (hk.ap tk mw o.bind (fun k _ o1 y I1 H1 g1 r1 => ?_) fun _ z => z)
  obtain ⟨b2, rfl, hb2⟩ := R.pair_inv hK r1
  obtain ⟨v, u, T1, hv, s, ow⟩ := mw_at (π := []) (mw.gr g1) hΓ rfl
  refine h σ I1 H1 T (mw.gr g1) v u hv s _ ?_
  unfold odt at ow
  cases ow with
  | dct h3 =>
    have o1 := o1 (.bl (d.has k)) I1 H1 g1 (.bl _)
    rw [← DT.isSome] at o1
    exact ⟨ad, _, rfl, DGet.t (k := kP k) h3 hb2, o1⟩
theorem vt_dtin {i : Nat} {ad : Addr} {d : DT} {mk : M (Int × Int)} (hK : NoT X.K 2) (hu : X.A.units + 64 < cLine) (hk : VX true X Γ a mk) (h : VQ X Γ i [] ob) (hΓ : Γ[i]? = some (.val (odt ad d))) (hb : behindInMarks .In ob = false := by rfl) : VT X Γ (.Compare a [.In] [ob] pos) (mk >>= fun k => M.ok (d.has k)) := fun W tk σ I H T mw Q o => by
  refine to_k (pt_cmp (pc_din (by omega) pe_of pe_of) hb) (hk.ap tk mw o.bind (fun k _ o1 y I1 H1 g1 r1 => ?_) fun _ z => z)
  obtain ⟨b2, rfl, hb2⟩ := R.pair_inv hK r1
  obtain ⟨v, u, T1, hv, s, ow⟩ := mw_at (π := []) (mw.gr g1) hΓ rfl
  refine h σ I1 H1 T (mw.gr g1) v u hv s _ ?_
  unfold odt at ow
  cases ow with
  | dct h3 =>
    have o1 := o1 I1 H1 g1
    rw [← DT.isSome] at o1
    exact ⟨ad, _, rfl, DGet.t (k := kP k) h3 hb2, _, rfl, o1⟩
/-- len(x) -/
theorem ve_dtlen {i : Nat} {ad : Addr} {d : DT} (hm : X.mg "len" = none) (h : VQ X Γ i [] ob) (hΓ : Γ[i]? = some (.val (odt ad d))) (hg : Gl X "len" := by rfl) (hs : starEach [ob] X.env = (false, eval ob X.env) :: starEach [] X.env := by rfl) : VX w X Γ (.Call (.Name "len" p) [ob] [] pos) (M.ok ((d.l.length : Nat) : Int)) := VX.le fun W tk σ I H T mw Q o => by
  refine to_t (pe_callB call_len_dT hg hm boot_len (pa_cons pe_of pa_nil hs) (by decide) (by decide) hs rfl) ?_
  obtain ⟨v, u, T1, hv, s, ow⟩ := mw_at (π := []) mw hΓ rfl
  refine h σ I H T mw v u hv s _ ?_
  unfold odt at ow
  cases ow with
  | dct h3 =>
    refine ⟨ad, d.kv, rfl, h3, ?_⟩
    have := o (.int ((d.l.length : Nat) : Int)) I H (.refl mw.ih) (.int _)
    have e : d.kv.length = d.l.length := by unfold DT.kv; rw [List.length_map]
    rw [e]
    exact this
end
/-! ### min, max of a pair -/
section
variable {prog : Program} {w : World} {A : Around} {E : Value → Shared → Prop} {s : Shared}
theorem min_pair {a : Addr} {n m : Int} {t u : Tok} {Q : Value → Shared → Prop} (hh : A.handled = none) (hl : s.heap.IsTuple a #[.int n t, .int m u])
    (h : ∀ h' tk t', (∀ b o, s.heap.get? b = some o → h'.get? b = some o) → Q (.int (if m < n then m else n) t') { s with heap := h', toks := tk }) : wpAny (model prog w) A (call (.builtin "min") [.ref a]) Q E s := by
  have hlt : a < s.heap.objs.size := by obtain ⟨_, e, _⟩ := hl; exact Heap.lt_size e
  refine call_min_walk (wpAny_pyIter_tuple hl ⟨s.heap.objs.size, [s.heap.objs.size, a], [s.heap.objs.size], 2, _, _, (fun i j => decide ((fun i => if i = 0 then n else m) i < (fun i => if i = 0 then n else m) j)), rfl, Walks.tuple (A := A.in1) hh _ a (Nat.ne_of_lt hlt) #[.int n t, .int m u], ⟨⟨_, Heap.get?_push_size _ rfl, rfl, rfl⟩, hl.push _⟩, fun b hb => ?_, by decide, CmpOf.ints_lt (fun i => if i = 0 then n else m) fun i v hv => ?_, fun v h' tk hP hk => ?_⟩)
  · show b < (s.heap.push _).objs.size
    rw [Heap.size_push]
    rcases List.mem_cons.mp hb with rfl | hb
    · exact Nat.lt_succ_self _
    · rcases List.mem_cons.mp hb with rfl | hb
      · exact Nat.lt_succ_of_lt hlt
      · cases hb
  · rcases i with _ | _ | i
    · cases hv; exact ⟨t, rfl⟩
    · cases hv; exact ⟨u, rfl⟩
    · simp at hv
  · have hk' : ∀ b o, s.heap.get? b = some o → h'.get? b = some o := fun b o e => hk b o (fun hm => absurd (Heap.lt_size e) ((List.mem_singleton.mp hm) ▸ Nat.lt_irrefl _)) (Heap.get?_push_of_some _ e)
    by_cases c : m < n
    · have e : v = .int m u := by
        simp [argBest, c] at hP
        exact hP.symm
      subst e
      have := h h' tk u hk'
      rw [if_pos c] at this
      exact this
    · have e : v = .int n t := by
        simp [argBest, c] at hP
        exact hP.symm
      subst e
      have := h h' tk t hk'
      rw [if_neg c] at this
      exact this
theorem max_pair {a : Addr} {n m : Int} {t u : Tok} {Q : Value → Shared → Prop} (hh : A.handled = none) (hl : s.heap.IsTuple a #[.int n t, .int m u])
    (h : ∀ h' tk t', (∀ b o, s.heap.get? b = some o → h'.get? b = some o) → Q (.int (if m > n then m else n) t') { s with heap := h', toks := tk }) : wpAny (model prog w) A (call (.builtin "max") [.ref a]) Q E s := by
  have hlt : a < s.heap.objs.size := by obtain ⟨_, e, _⟩ := hl; exact Heap.lt_size e
  refine call_max_walk (wpAny_pyIter_tuple hl ⟨s.heap.objs.size, [s.heap.objs.size, a], [s.heap.objs.size], 2, _, _, (fun i j => decide ((fun i => if i = 0 then n else m) i > (fun i => if i = 0 then n else m) j)), rfl, Walks.tuple (A := A.in1) hh _ a (Nat.ne_of_lt hlt) #[.int n t, .int m u], ⟨⟨_, Heap.get?_push_size _ rfl, rfl, rfl⟩, hl.push _⟩, fun b hb => ?_, by decide, CmpOf.ints_gt (fun i => if i = 0 then n else m) fun i v hv => ?_, fun v h' tk hP hk => ?_⟩)
  · show b < (s.heap.push _).objs.size
    rw [Heap.size_push]
    rcases List.mem_cons.mp hb with rfl | hb
    · exact Nat.lt_succ_self _
    · rcases List.mem_cons.mp hb with rfl | hb
      · exact Nat.lt_succ_of_lt hlt
      · cases hb
  · rcases i with _ | _ | i
    · cases hv; exact ⟨t, rfl⟩
    · cases hv; exact ⟨u, rfl⟩
    · simp at hv
  · have hk' : ∀ b o, s.heap.get? b = some o → h'.get? b = some o := fun b o e => hk b o (fun hm => absurd (Heap.lt_size e) ((List.mem_singleton.mp hm) ▸ Nat.lt_irrefl _)) (Heap.get?_push_of_some _ e)
    by_cases c : m > n
    · have e : v = .int m u := by
        simp [argBest, c] at hP
        exact hP.symm
      subst e
      have := h h' tk u hk'
      rw [if_pos c] at this
      exact this
    · have e : v = .int n t := by
        simp [argBest, c] at hP
        exact hP.symm
      subst e
      have := h h' tk t hk'
      rw [if_neg c] at this
      exact this
end
section
variable {X : Cx}
def rMinP (K : PySem.W.Frag) : List V → Hp → L2.VK → Prop := fun vs H Q => ∃ (a : Addr) (n m : Int), vs = [V.ref a] ∧ SqT K H a [.int n, .int m] ∧ Q (.int (if m < n then m else n)) H
def rMaxP (K : PySem.W.Frag) : List V → Hp → L2.VK → Prop := fun vs H Q => ∃ (a : Addr) (n m : Int), vs = [V.ref a] ∧ SqT K H a [.int n, .int m] ∧ Q (.int (if m > n then m else n)) H
theorem two_ints {n m : Int} : ∀ {its : List Value}, Vals [V.int n, V.int m] its → ∃ t u, its = [.int n t, .int m u]
  | [], h => by cases h
  | [_], h => by cases h with | cons _ h => cases h
  | [x, y], h => by
    cases h with
    | cons h1 h =>
      cases h with
      | cons h2 h =>
        obtain ⟨t, rfl⟩ := h1
        obtain ⟨u, rfl⟩ := h2
        exact ⟨t, u, rfl⟩
  | _ :: _ :: _ :: _, h => by
    cases h with
    | cons _ h =>
      cases h with
      | cons _ h => cases h
theorem cr_minP (hc : X.calm = true) : CallR X (.builtin "min") (rMinP X.K) := by
  intro pins s σ H vs us Q I r h
  obtain ⟨a, n, m, rfl, hs, q⟩ := h
  obtain ⟨its, rv, hl, _⟩ := I.tuple hs
  rw [Vals.ref1 r]
  obtain ⟨t, u, rfl⟩ := two_ints rv
  exact min_pair (I.ok.hd hc) hl fun h' tk t' hk => ⟨.int _, H, I.kept hk, ⟨_, rfl⟩, q⟩
theorem cr_maxP (hc : X.calm = true) : CallR X (.builtin "max") (rMaxP X.K) := by
  intro pins s σ H vs us Q I r h
  obtain ⟨a, n, m, rfl, hs, q⟩ := h
  obtain ⟨its, rv, hl, _⟩ := I.tuple hs
  rw [Vals.ref1 r]
  obtain ⟨t, u, rfl⟩ := two_ints rv
  exact max_pair (I.ok.hd hc) hl fun h' tk t' hk => ⟨.int _, H, I.kept hk, ⟨_, rfl⟩, q⟩
end
section
variable {X : Cx} {Γ Γx : List SL} {e e1 a b c ob : Expr} {es : List Expr} {rest : List Stmt} {pos p apos : Pos} {w : Bool}
theorem ve_minP {m : M (Int × Int)} (hc : X.calm = true) (hm : X.mg "min" = none) (h : VX true X Γ e m) (hg : Gl X "min" := by rfl) (hs : starEach [e] X.env = (false, eval e X.env) :: starEach [] X.env := by rfl) : VX w X Γ (.Call (.Name "min" p) [e] [] pos) (m >>= fun l => M.ok (if l.2 < l.1 then l.2 else l.1)) := by
  have q := ve_bcall (w := w) (f := fun a : (Int × Int) × Unit => M.ok (if a.1.2 < a.1.1 then a.1.2 else a.1.1)) (p := p) (pos := pos) (cr_minP hc) hg hm (by decide +kernel) (va_cons h va_nil hs) (fun a vs I H s rs Q o => by
    obtain ⟨v, rfl, r⟩ := rs.one
    obtain ⟨⟨x, y⟩, _⟩ := a
    have r' : R X.K X.mg H v (.tup [.int x, .int y]) := r
    obtain ⟨p, xs, rfl, hq, rs⟩ := r'.tup_inv
    have e := rs.ints (l := [x, y])
    subst e
    exact ⟨p, x, y, rfl, hq, o _ I H (.refl s) (.int _)⟩) (fun _ _ z => nomatch z) (he := hs)
  refine q.congr ?_
  cases m <;> rfl
theorem ve_maxP {m : M (Int × Int)} (hc : X.calm = true) (hm : X.mg "max" = none) (h : VX true X Γ e m) (hg : Gl X "max" := by rfl) (hs : starEach [e] X.env = (false, eval e X.env) :: starEach [] X.env := by rfl) : VX w X Γ (.Call (.Name "max" p) [e] [] pos) (m >>= fun l => M.ok (if l.2 > l.1 then l.2 else l.1)) := by
  have q := ve_bcall (w := w) (f := fun a : (Int × Int) × Unit => M.ok (if a.1.2 > a.1.1 then a.1.2 else a.1.1)) (p := p) (pos := pos) (cr_maxP hc) hg hm (by decide +kernel) (va_cons h va_nil hs) (fun a vs I H s rs Q o => by
    obtain ⟨v, rfl, r⟩ := rs.one
    obtain ⟨⟨x, y⟩, _⟩ := a
    have r' : R X.K X.mg H v (.tup [.int x, .int y]) := r
    obtain ⟨p, xs, rfl, hq, rs⟩ := r'.tup_inv
    have e := rs.ints (l := [x, y])
    subst e
    exact ⟨p, x, y, rfl, hq, o _ I H (.refl s) (.int _)⟩) (fun _ _ z => nomatch z) (he := hs)
  refine q.congr ?_
  cases m <;> rfl
/-- sorted(xs), any number of ints -/
theorem vo_sortedI {m : M (List Int)} (hm : X.mg "sorted" = none) (h : VX true X Γ e m) (hg : Gl X "sorted" := by rfl) (hs : starEach [e] X.env = (false, eval e X.env) :: starEach [] X.env := by rfl) : VO X Γ (.Call (.Name "sorted" p) [e] [] pos) ow1 (m >>= fun l => M.ok (isort l)) := by
  have q := vo_bcall (w := true) (ow := ow1) (f := fun a : List Int × Unit => M.ok (isort a.1)) (p := p) (pos := pos) cr_sortedI hg hm (by decide +kernel) (va_cons h va_nil hs) (fun a vs I H s rs Q o => by
    obtain ⟨v, rfl, r⟩ := rs.one
    obtain ⟨p, xs, rfl, hq, rs⟩ := r.lst_inv
    have e := rs.ints
    subst e
    refine ⟨p, a.1, rfl, hq, fun ns' l h1 h2 hl => ?_⟩
    rw [isort_of h1 h2] at *
    exact o _ I _ [l] (Wd.new s hl) (ow1_new Rs.of_ints)) (fun _ _ z => nomatch z) (he := hs)
  have e : (m >>= fun x => M.ok () >>= fun y => M.ok (x, y)) >>= (fun a : List Int × Unit => M.ok (isort a.1)) = m >>= fun l => M.ok (isort l) := by cases m <;> rfl
  rw [← e]
  exact q
end
end Vc

set_option Elab.async false
set_option linter.all false
set_option maxRecDepth 100000
namespace Vc
open PySem PySem.Spec PyProof.Rows L2
/-! ### helpers for plain laws -/
def okO {α : Type} : M α → Option α
  | .ok a => some a
  | _ => none
theorem of_okO {α : Type} {m : M α} {a : α} (h : okO m = some a) : m = .ok a := by
  cases m with
  | ok b => cases h; rfl
  | _ => cases h
theorem bAnd_l (a : Bool) (y : M Bool) : bAnd (.ok a) y = if a then y else .ok false := by cases a <;> rfl
theorem bOr_l (a : Bool) (y : M Bool) : bOr (.ok a) y = if a then .ok true else y := by cases a <;> rfl
theorem getI_lt {α : Type} {l : List α} {i : Nat} (h : i < l.length) : getI l (i : Int) = .ok l[i] := getI_nat (List.getElem?_eq_getElem h)
theorem getI_pos {α : Type} {l : List α} {k : Int} (h0 : 0 ≤ k) {a : α} (h : l[k.toNat]? = some a) : getI l k = .ok a := by
  have := getI_nat (l := l) h
  rwa [Int.toNat_of_nonneg h0] at this
theorem setL_lt {α : Type} {l : List α} {i : Nat} (a : α) (h : i < l.length) : setL l (i : Int) a = .ok (l.set i a) := by
  unfold setL
  have : L2.ixN l.length (i : Int) = some i := by
    unfold L2.ixN
    rw [if_pos (by omega)]
    simp [h]
  rw [this]
theorem rng_nat (n : Nat) : rng 0 (n : Int) = (List.range n).map fun i : Nat => (i : Int) := by
  unfold rng
  rw [Int.sub_zero, Int.toNat_natCast]
  apply List.map_congr_left
  intro a _
  omega
theorem rOk_nat {n : Nat} (h : n < 2 ^ 62) : rOk (n : Int) := ⟨by omega, by omega⟩
theorem loopS_append {α S : Type} (f : S → α → M S) : ∀ (l l' : List α) (s : S), loopS f (l ++ l') s = loopS f l s >>= fun s' => loopS f l' s'
  | [], l', s => by rw [List.nil_append, loopS_nil, M.ok_bind]
  | a :: l, l', s => by
    rw [List.cons_append, loopS_cons, loopS_cons, M.bind_assoc]
    congr 1
    funext s'
    exact loopS_append f l l' s'
/-- a loop that keeps an invariant of its list -/
theorem loopS_inv {α S : Type} {f : S → α → M S} (I : Nat → S → Prop) {l : List α} {s : S} (h0 : I 0 s) (hs : ∀ i (h : i < l.length) s, I i s → ∃ s', f s l[i] = .ok s' ∧ I (i + 1) s') : ∃ s', loopS f l s = .ok s' ∧ I l.length s' := by
  induction l generalizing s I with
  | nil => exact ⟨s, rfl, h0⟩
  | cons a l ih =>
    obtain ⟨s1, e1, h1⟩ := hs 0 (by simp) s h0
    obtain ⟨s2, e2, h2⟩ := ih (fun i => I (i + 1)) h1 fun i h s hI => hs (i + 1) (by simpa using h) s hI
    refine ⟨s2, ?_, h2⟩
    rw [loopS_cons]
    rw [show f s a = .ok s1 from e1, M.ok_bind, e2]
theorem loopS_inv' {α S : Type} {f : S → α → M S} (I : Nat → S → Prop) {T : S} {l : List α} {s : S} (h0 : I 0 s) (hs : ∀ i (h : i < l.length) s, I i s → ∃ s', f s l[i] = .ok s' ∧ I (i + 1) s') (hT : ∀ s, I l.length s → s = T) : loopS f l s = .ok T := by
  obtain ⟨s', e, h⟩ := loopS_inv I h0 hs
  rw [e, hT _ h]
/-- a loop that folds -/
theorem loopS_fold {α S : Type} {f : S → α → M S} {g : S → α → S} (l : List α) (s : S) (h : ∀ s, ∀ a ∈ l, f s a = .ok (g s a)) : loopS f l s = .ok (l.foldl g s) := by
  induction l generalizing s with
  | nil => rfl
  | cons a l ih =>
    rw [loopS_cons, h s a (by simp), M.ok_bind, ih _ fun s b hb => h s b (by simp [hb])]
    rfl
theorem loopM_all {α S τ : Type} {f : S → α → M (Stp S τ)} {l : List α} {s : S} (h : ∀ a ∈ l, f s a = .ok (.nx s)) : loopM f l s = .ok (.nx s) := by
  induction l with
  | nil => rfl
  | cons a l ih =>
    rw [loopM_cons, h a (by simp), M.ok_bind]
    exact ih fun b hb => h b (by simp [hb])
theorem repM_nat {α : Type} {x : List α} {n : Nat} (h1 : n < 2 ^ 62) (h2 : x.length * n ≤ sizeLine) : repM x (n : Int) = .ok (List.replicate n x).flatten := by
  unfold repM
  rw [chk_ok ⟨by omega, by omega, by rw [Int.toNat_natCast]; exact h2⟩, M.ok_bind, Int.toNat_natCast]
theorem rep1 {α : Type} (a : α) (n : Nat) : (List.replicate n [a]).flatten = List.replicate n a := by
  induction n with
  | zero => rfl
  | succ n ih => rw [List.replicate_succ, List.flatten_cons, ih]; rfl
theorem repM_one {α : Type} {a : α} {k : Int} (h1 : k < 2 ^ 24) (h0 : -(2 ^ 62) ≤ k) : repM [a] k = .ok (List.replicate k.toNat a) := by
  unfold repM
  have : sizeLine = 2 ^ 24 := rfl
  rw [chk_ok ⟨by omega, by omega, by rw [List.length_singleton, this]; omega⟩, M.ok_bind, rep1]
theorem catM_ok {α : Type} {x y : List α} (h : x.length + y.length ≤ 2 ^ 24) : catM x y = .ok (x ++ y) := by
  unfold catM
  rw [chk_ok (show _ ≤ sizeLine from h), M.ok_bind]
theorem cut_all {α : Type} (l : List α) : cutL l none none = l := by
  unfold cutL HT.sIx
  simp
theorem cut_to {α : Type} (l : List α) {k : Nat} (h : k ≤ l.length) : cutL l none (some (k : Int)) = l.take k := by
  unfold cutL
  rw [HT.sIx_nat, HT.sIx_none, Nat.min_eq_left h]
  simp
theorem lcGo_map {α β : Type} {t : α → M Bool} {f : α → M β} {p : α → Bool} {h : α → β} : ∀ {l : List α}, (∀ a ∈ l, t a = .ok (p a)) → (∀ a ∈ l, p a = true → f a = .ok (h a)) → lcGo t f l = .ok ((l.filter p).map h)
  | [], _, _ => rfl
  | a :: l, ht, hf => by
    show (t a >>= fun c => if c then f a >>= fun b => lcGo t f l >>= fun r => .ok (b :: r) else lcGo t f l) = _
    rw [ht a (by simp), M.ok_bind, lcGo_map (fun b hb => ht b (by simp [hb])) fun b hb => hf b (by simp [hb]), List.filter_cons]
    cases e : p a with
    | true => rw [if_pos rfl, hf a (by simp) e, M.ok_bind, M.ok_bind, if_pos rfl]; rfl
    | false => rw [if_neg Bool.false_ne_true, if_neg Bool.false_ne_true]
theorem lcM_filter {α β : Type} {t : α → M Bool} {f : α → M β} {p : α → Bool} {h : α → β} {l : List α} (hl : l.length ≤ 2 ^ 24) (ht : ∀ a ∈ l, t a = .ok (p a)) (hf : ∀ a ∈ l, p a = true → f a = .ok (h a)) : lcM t f l = .ok ((l.filter p).map h) := by
  unfold lcM
  rw [chk_ok (show _ ≤ sizeLine from hl), M.ok_bind, lcGo_map ht hf]
  rfl
theorem lcM_map {α β : Type} {f : α → M β} {h : α → β} {l : List α} (hl : l.length ≤ 2 ^ 24) (hf : ∀ a ∈ l, f a = .ok (h a)) : lcM (fun _ => .ok true) f l = .ok (l.map h) := by
  rw [lcM_filter (p := fun _ => true) hl (fun _ _ => rfl) fun a ha _ => hf a ha, List.filter_eq_self.mpr fun _ _ => rfl]
theorem enumL_len {α : Type} (l : List α) : (enumL l).length = l.length := by unfold enumL; rw [List.length_map, List.length_zipIdx]
theorem enumL_at {α : Type} [Enc α] {l : List α} {i : Nat} (h : i < (enumL l).length) : (enumL l)[i] = ((i : Int), l[i]'(by rw [← enumL_len l]; exact h)) := by
  obtain ⟨h1, h2⟩ := enumL_get (List.getElem?_eq_getElem h)
  refine Prod.ext h2 ?_
  rw [List.getElem?_eq_getElem (by rw [← enumL_len l]; exact h)] at h1
  exact (Option.some.inj h1).symm
theorem rngD_nat {m : Nat} : rngD ((m : Int) - 1) (-1) = (List.range m).map fun i : Nat => ((m - 1 - i : Nat) : Int) := by
  unfold rngD
  rw [show ((m : Int) - 1 - -1).toNat = m by omega]
  apply List.map_congr_left
  intro a ha
  have := List.mem_range.mp ha
  omega
/-- one cell of the script -/
def scell (ns : List Int) (k : Nat) : Int := ns.getD k 0
end Vc

set_option Elab.async false
set_option linter.all false
set_option maxRecDepth 100000
set_option maxHeartbeats 4000000
namespace Q
open PySem PySem.Spec PyProof.Rows L2 Vc
open Vc.Enc (enc)
def top (i : Nat) : Stmt := PySem.Challenge.pw_paperark_k34_groups_of_pages_and_places.main.body.getD i (.Pass ⟨0, 0, 0, 0⟩)
def k_tab : ETab := [("ArchiveError", ["ArchiveError", "ValueError", "Exception", "BaseException"]), ("InvalidSymbol", ["InvalidSymbol", "ArchiveError", "ValueError", "Exception", "BaseException"]), ("InvalidFormat", ["InvalidFormat", "ArchiveError", "ValueError", "Exception", "BaseException"]), ("InvalidLabel", ["InvalidLabel", "ArchiveError", "ValueError", "Exception", "BaseException"])]
def k_NUMBERS_OF_CHECKS : (Tup Int) := (⟨[(2 : Int), (4 : Int), (6 : Int), (8 : Int)]⟩ : (Tup Int))
structure C_Format where
  f_side : Int
  f_checks : Int
  deriving DecidableEq
abbrev fs_Format (s : C_Format) : List (Str × D) := [("side", enc s.f_side), ("checks", enc s.f_checks)]
instance : Enc C_Format := ⟨fun s => .ins "Format" (fs_Format s)⟩
abbrev os_Format (s : C_Format) : O := .ins "Format" [("side", .imm (enc s.f_side)), ("checks", .imm (enc s.f_checks))]
theorem os_Format_toD (s : C_Format) : (os_Format s).toD = enc s := by
  show (O.ins _ _).toD = D.ins _ _
  rw [O.toD_ins]
  simp only [List.map_cons, List.map_nil, O.toD_imm, ow1_toD, od_toD]
def m_group_count (p_data : Int) (p_size : Int) : M Int :=
  ((chk (CDiv ((p_data + p_size) - (1 : Int)) p_size) >>= fun _ => M.ok (((p_data + p_size) - (1 : Int)) / p_size)) >>= fun r => M.ok r)
def m_Format_data_symbols (p_self : C_Format) : M Int :=
  (M.ok ((16 : Int) - p_self.f_checks))
def m_Format_codewords (p_self : C_Format) : M Int :=
  ((M.ok (p_self.f_side - ((2 : Int) * (2 : Int)))) >>= fun field_1 => (((chk (CMul field_1 field_1) >>= fun _ => M.ok (field_1 * field_1)) >>= fun x2 => chk (CDiv x2 ((16 : Int) * (4 : Int))) >>= fun _ => M.ok (x2 / ((16 : Int) * (4 : Int)))) >>= fun r => M.ok r))
def m__law_cell (p_script : (List Int)) (p_k : Int) : M Int :=
  (if (decide (p_k < (p_script.length : Int))) then ((getI p_script p_k) >>= fun r => M.ok r) else (M.ok (0 : Int)))
def m__law_is_int (p_value : Int) : M Bool :=
  (M.ok (true && (!false)))
def m__law_label (p_cell : Int) : M (T5 Int Int Int Int Int) :=
  ((M.ok ((1 : Int) + (p_cell % (12 : Int)))) >>= fun size_3 => ((chk (0 < ((17 : Int) - size_3)) >>= fun _ => M.ok ((p_cell / (12 : Int)) % ((17 : Int) - size_3))) >>= fun checks_4 => ((if (decide (((p_cell / (204 : Int)) % (3 : Int)) > (0 : Int))) then ((M.ok (checks_4 % (4 : Int))) >>= fun checks_6 => (M.ok checks_6)) else (M.ok checks_4) : (M (Int))) >>= (fun s5 : Int => ((M.ok ((1 : Int) + ((p_cell / (612 : Int)) % (60 : Int)))) >>= fun data_7 => ((((chk (CDiv ((data_7 + size_3) - (1 : Int)) size_3) >>= fun _ => M.ok (((data_7 + size_3) - (1 : Int)) / size_3)) >>= fun x8 => chk (CMul x8 s5) >>= fun _ => M.ok (x8 * s5)) >>= fun x9 => M.ok (data_7 + x9)) >>= fun pages_10 => ((if (decide (pages_10 > (255 : Int))) then ((M.ok (1 : Int)) >>= fun data_12 => ((M.ok ((1 : Int) + s5)) >>= fun pages_13 => (M.ok (data_12, pages_13)))) else (M.ok (data_7, pages_10)) : (M (Int × Int))) >>= (fun s11 : Int × Int => ((chk (0 < s11.2) >>= fun _ => M.ok ((p_cell / (36720 : Int)) % s11.2)) >>= fun number_14 => (M.ok (⟨((p_cell / (9363600 : Int)) % (256 : Int)), number_14, s11.1, size_3, s5⟩ : (T5 Int Int Int Int Int))))))))))))
def m__law_form (p_cell : Int) : M (Int × Int) :=
  ((M.ok ((16 : Int) + (p_cell % (7 : Int)))) >>= fun side_15 => ((M.ok ((2 : Int) + ((2 : Int) * ((p_cell / (7 : Int)) % (4 : Int))))) >>= fun checks_16 => ((if ((decide (side_15 < (18 : Int))) && (decide (checks_16 > (4 : Int)))) then ((M.ok (checks_16 - (4 : Int))) >>= fun checks_18 => (M.ok checks_18)) else (M.ok checks_16) : (M (Int))) >>= (fun s17 : Int => ((if (decide (((p_cell / (28 : Int)) % (40 : Int)) = (7 : Int))) then ((M.ok ((23 : Int) + ((p_cell / (1120 : Int)) % (18 : Int)))) >>= fun side_20 => (M.ok side_20)) else (M.ok side_15) : (M (Int))) >>= (fun s19 : Int => (M.ok (s19, s17))))))))
def m__law_words (p_side : Int) : M Int :=
  (((chk (CMul (p_side - (4 : Int)) (p_side - (4 : Int))) >>= fun _ => M.ok ((p_side - (4 : Int)) * (p_side - (4 : Int)))) >>= fun x21 => M.ok (x21 / (64 : Int))) >>= fun r => M.ok r)
def m__law_place (p_side : Int) (p_place : Int) : M (List (Int × Int)) :=
  ((M.ok (p_side - (4 : Int))) >>= fun width_22 => (((chk (rOk ((4 : Int) * p_place) ∧ rOk (((4 : Int) * p_place) + (4 : Int))) >>= fun _ => M.ok (rng ((4 : Int) * p_place) (((4 : Int) * p_place) + (4 : Int)))) >>= fun x28 => lcM (fun (a23 : Int) => M.ok true) (fun (a23 : Int) => (((chk (CDiv a23 width_22) >>= fun _ => M.ok (a23 / width_22)) >>= fun x24 => M.ok ((2 : Int) + x24)) >>= fun x26 => ((chk (0 < width_22) >>= fun _ => M.ok (a23 % width_22)) >>= fun x25 => M.ok ((2 : Int) + x25)) >>= fun x27 => M.ok (x26, x27))) x28) >>= fun r => M.ok r))
def m_check_label (p_label : (T5 Int Int Int Int Int)) : M Int :=
  ((M.ok p_label) >>= fun t29 => (if ((decide (t29.a < (0 : Int))) || ((decide (t29.a > (255 : Int))) || ((decide (t29.c < (1 : Int))) || (decide (t29.c > (255 : Int)))))) then (M.exc ⟨"InvalidLabel", []⟩) else (if ((decide (t29.d < (1 : Int))) || ((decide (t29.d > (12 : Int))) || ((decide (t29.e < (0 : Int))) || (decide (t29.e > ((16 : Int) - t29.d)))))) then (M.exc ⟨"InvalidLabel", []⟩) else ((((m_group_count t29.c t29.d) >>= fun x30 => chk (CMul x30 t29.e) >>= fun _ => M.ok (x30 * t29.e)) >>= fun x31 => M.ok (t29.c + x31)) >>= fun pages_32 => (if ((decide (pages_32 > (255 : Int))) || ((decide (t29.b < (0 : Int))) || (decide (t29.b ≥ pages_32)))) then (M.exc ⟨"InvalidLabel", []⟩) else (M.ok pages_32))))))
def m__law_is_list (p_value : (List Int)) (p_least : Int) (p_greatest : Int) : M Bool :=
  (if (!true) then (M.ok false) else ((loopM (fun (s33 : Unit) (a34 : Int) => ((bOr ((m__law_is_int a34) >>= fun x35 => M.ok (!x35)) (M.ok ((decide (a34 < p_least)) || (decide (a34 > p_greatest))))) >>= fun c36 => if c36 then (M.ok (Stp.rt false : (Stp (Unit) Bool))) else (M.ok (Stp.nx () : (Stp (Unit) Bool))))) p_value () : (M (Stp (Unit) Bool))) >>= fun r => r.on (fun s33 : Unit => (M.ok true))))
def m_group_pages (p_label : (T5 Int Int Int Int Int)) (p_group : Int) : M (List Int) :=
  ((m_check_label p_label) >>= fun _ => ((M.ok p_label) >>= fun t37 => ((bOr (M.ok (decide (p_group < (0 : Int)))) ((m_group_count t37.c t37.d) >>= fun x38 => M.ok (decide (p_group ≥ x38)))) >>= fun c46 => if c46 then (M.exc ⟨"InvalidLabel", []⟩) else (((chk (CMul p_group t37.e) >>= fun _ => M.ok (p_group * t37.e)) >>= fun x39 => M.ok (t37.c + x39)) >>= fun first_40 => ((((chk (CMul p_group t37.d) >>= fun _ => M.ok (p_group * t37.d)) >>= fun x42 => ((chk (CMul (p_group + (1 : Int)) t37.d) >>= fun _ => M.ok ((p_group + (1 : Int)) * t37.d)) >>= fun x41 => M.ok (if x41 < t37.c then x41 else t37.c)) >>= fun x43 => chk (RgOk x42 x43) >>= fun _ => M.ok (rng x42 x43)) >>= fun x44 => (chk (RgOk first_40 (first_40 + t37.e)) >>= fun _ => M.ok (rng first_40 (first_40 + t37.e))) >>= fun x45 => catM x44 x45) >>= fun r => M.ok r)))))
def m_Format_body_size (p_self : C_Format) : M Int :=
  ((((nox (m_Format_codewords p_self)) >>= fun x47 => M.ok (x47 - (1 : Int))) >>= fun x48 => (nox (m_Format_data_symbols p_self)) >>= fun x49 => chk (CMul x48 x49) >>= fun _ => M.ok (x48 * x49)) >>= fun r => M.ok r)
def m_place_cells (p_form : C_Format) (p_place : Int) : M (List (Int × Int)) :=
  ((bOr (M.ok (decide (p_place < (0 : Int)))) (((nox (m_Format_codewords p_form)) >>= fun x50 => M.ok ((16 : Int) * x50)) >>= fun x51 => M.ok (decide (p_place ≥ x51)))) >>= fun c60 => if c60 then (M.exc ⟨"InvalidSymbol", []⟩) else ((M.ok (p_form.f_side - ((2 : Int) * (2 : Int)))) >>= fun width_52 => ((M.ok ((4 : Int) * p_place)) >>= fun first_53 => (((chk (rOk first_53 ∧ rOk (first_53 + (4 : Int))) >>= fun _ => M.ok (rng first_53 (first_53 + (4 : Int)))) >>= fun x59 => lcM (fun (a54 : Int) => M.ok true) (fun (a54 : Int) => (((chk (CDiv a54 width_52) >>= fun _ => M.ok (a54 / width_52)) >>= fun x55 => M.ok ((2 : Int) + x55)) >>= fun x57 => ((chk (0 < width_52) >>= fun _ => M.ok (a54 % width_52)) >>= fun x56 => M.ok ((2 : Int) + x56)) >>= fun x58 => M.ok (x57, x58))) x59) >>= fun r => M.ok r))))
def m__law_refused (p_label : (T5 Int Int Int Int Int)) (p_group : Int) : M Bool :=
  (tryM k_tab "ArchiveError" (((m_group_pages p_label p_group) >>= fun _ => (M.ok (Jn.out false : (Jn (Unit) Bool)))) : M (Jn (Unit) Bool)) (fun e62 : Exn => nox (chk (e62.fs.isEmpty = true) >>= fun _ => (((isE k_tab e62 "InvalidLabel") >>= fun r => M.ok (Jn.out r : (Jn (Unit) Bool))) : M (Jn (Unit) Bool)))) >>= fun j => j.on (fun s61 : Unit => M.stuck))
def m__law_refused_too (p_form : C_Format) (p_place : Int) : M Bool :=
  (tryM k_tab "ArchiveError" (((m_place_cells p_form p_place) >>= fun _ => (M.ok (Jn.out false : (Jn (Unit) Bool)))) : M (Jn (Unit) Bool)) (fun e64 : Exn => nox (chk (e64.fs.isEmpty = true) >>= fun _ => (((isE k_tab e64 "InvalidSymbol") >>= fun r => M.ok (Jn.out r : (Jn (Unit) Bool))) : M (Jn (Unit) Bool)))) >>= fun j => j.on (fun s63 : Unit => M.stuck))
def m_Format_capacity (p_self : C_Format) : M Int :=
  ((((nox (m_Format_body_size p_self)) >>= fun x65 => M.ok (x65 - (10 : Int))) >>= fun x66 => M.ok (x66 / (2 : Int))) >>= fun r => M.ok r)
def m__law_first_part (p_script : (List Int)) : M Bool :=
  (((m__law_cell p_script (0 : Int)) >>= fun x67 => m__law_label x67) >>= fun label_68 => ((((m__law_cell p_script (1 : Int)) >>= fun x69 => M.ok (x69 % (6 : Int))) >>= fun x70 => M.ok (decide (x70 = (2 : Int)))) >>= fun c98 => if c98 then ((bAnd (m__law_refused (⟨label_68.a, (255 : Int), label_68.c, label_68.d, label_68.e⟩ : (T5 Int Int Int Int Int)) (0 : Int)) (m__law_refused (⟨label_68.a, label_68.b, (0 : Int), (1 : Int), (0 : Int)⟩ : (T5 Int Int Int Int Int)) (0 : Int))) >>= fun r => M.ok r) else ((M.ok label_68) >>= fun t71 => ((M.ok ([] : List Int)) >>= fun seen_72 => ((chk (CDiv ((t71.c + t71.d) - (1 : Int)) t71.d) >>= fun _ => M.ok (((t71.c + t71.d) - (1 : Int)) / t71.d)) >>= fun groups_73 => ((chk (rOk groups_73) >>= fun _ => M.ok (rng 0 groups_73)) >>= fun x97 => (loopM (fun (s74 : (List Int)) (a75 : Int) => ((m_group_pages label_68 a75) >>= fun pages_76 => ((((chk (rOk t71.c) >>= fun _ => M.ok (rng 0 t71.c)) >>= fun x83 => lcM (fun (a81 : Int) => ((chk (CDiv a81 t71.d) >>= fun _ => M.ok (a81 / t71.d)) >>= fun x82 => M.ok (decide (x82 = a75)))) (fun (a81 : Int) => (M.ok a81)) x83) >>= fun x84 => ((chk (rOk t71.e) >>= fun _ => M.ok (rng 0 t71.e)) >>= fun x80 => lcM (fun (a77 : Int) => M.ok true) (fun (a77 : Int) => (((chk (CMul a75 t71.e) >>= fun _ => M.ok (a75 * t71.e)) >>= fun x78 => M.ok (t71.c + x78)) >>= fun x79 => M.ok (x79 + a77))) x80) >>= fun x85 => catM x84 x85) >>= fun due_86 => ((bOr ((m__law_is_list pages_76 (0 : Int) (254 : Int)) >>= fun x87 => M.ok (!x87)) (M.ok (!decide (pages_76 = due_86)))) >>= fun c89 => if c89 then (M.ok (Stp.rt false : (Stp ((List Int)) Bool))) else ((catM s74 pages_76) >>= fun seen_88 => (M.ok (Stp.nx seen_88 : (Stp ((List Int)) Bool)))))))) x97 seen_72 : (M (Stp ((List Int)) Bool))) >>= fun r => r.on (fun s74 : (List Int) => (((((chk (CMul groups_73 t71.e) >>= fun _ => M.ok (groups_73 * t71.e)) >>= fun x90 => M.ok (t71.c + x90)) >>= fun x91 => chk (RgOk 0 x91) >>= fun _ => M.ok (rng 0 x91)) >>= fun x92 => M.ok (!decide ((isort s74) = x92))) >>= fun c96 => if c96 then (M.ok false) else ((bAnd (m__law_refused label_68 (-(1 : Int))) (bAnd (m__law_refused label_68 groups_73) ((((m__law_cell p_script (2 : Int)) >>= fun x93 => M.ok (x93 % (1000 : Int))) >>= fun x94 => M.ok (groups_73 + x94)) >>= fun x95 => m__law_refused label_68 x95))) >>= fun r => M.ok r)))))))))
def m_Format___init__ (p_side : Int) (p_checks : Int) : M (Unit × C_Format) :=
  (if ((decide (p_side < (16 : Int))) || ((decide (p_side > (40 : Int))) || (!decide (p_checks ∈ k_NUMBERS_OF_CHECKS.l)))) then (M.exc ⟨"InvalidFormat", []⟩) else ((M.ok p_side) >>= fun v99 : Int => ((M.ok p_checks) >>= fun v100 : Int => (((nox (m_Format_capacity (⟨v99, v100⟩ : C_Format))) >>= fun x101 => M.ok (decide (x101 < (1 : Int)))) >>= fun c102 => if c102 then (M.exc ⟨"InvalidFormat", []⟩) else (M.ok ((), (⟨v99, v100⟩ : C_Format)))))))
def m__law_second_part (p_script : (List Int)) : M Bool :=
  (((m__law_cell p_script (0 : Int)) >>= fun x103 => m__law_form x103) >>= fun t104 => (((m_Format___init__ t104.1 t104.2) >>= fun r => M.ok r.2) >>= fun form_105 => (((m__law_words t104.1) >>= fun x106 => M.ok ((16 : Int) * x106)) >>= fun count_107 => ((((m__law_cell p_script (1 : Int)) >>= fun x108 => M.ok (x108 % (4 : Int))) >>= fun x109 => M.ok (decide (x109 = (1 : Int)))) >>= fun c130 => if c130 then ((bAnd (((((m__law_cell p_script (1 : Int)) >>= fun x110 => M.ok (x110 / (4 : Int))) >>= fun x111 => M.ok (x111 % (9 : Int))) >>= fun x112 => M.ok ((-(1 : Int)) - x112)) >>= fun x113 => m__law_refused_too form_105 x113) (((((m__law_cell p_script (1 : Int)) >>= fun x114 => M.ok (x114 / (4 : Int))) >>= fun x115 => M.ok (x115 % (9 : Int))) >>= fun x116 => M.ok (count_107 + x116)) >>= fun x117 => m__law_refused_too form_105 x117)) >>= fun r => M.ok r) else ((chk (rOk count_107) >>= fun _ => M.ok (rng 0 count_107)) >>= fun x129 => (loopM (fun (s119 : DT) (a120 : Int) => ((m_place_cells form_105 a120) >>= fun cells_121 => ((bOr (M.ok (!true)) ((m__law_place t104.1 a120) >>= fun x122 => M.ok (!decide (cells_121 = x122)))) >>= fun c128 => if c128 then (M.ok (Stp.rt false : (Stp (DT) Bool))) else ((loopM (fun (s123 : DT) (a124 : (Int × Int)) => (if ((!true) || ((DT.has s123 a124) || ((decide ((if a124.2 < a124.1 then a124.2 else a124.1) < (2 : Int))) || (decide ((if a124.2 > a124.1 then a124.2 else a124.1) > (t104.1 - (3 : Int))))))) then (M.ok (Stp.rt (Stp.rt false : (Stp (DT) Bool)) : (Stp (DT) (Stp (DT) Bool)))) else (chk (s123.l.length < sizeLine) >>= fun _ => (fun d125 : DT => (M.ok (Stp.nx d125 : (Stp (DT) (Stp (DT) Bool))))) (DT.put s123 a124 true)))) cells_121 s119 : (M (Stp (DT) (Stp (DT) Bool)))) >>= fun r => r.on (fun s123 : DT => (M.ok (Stp.nx s123 : (Stp (DT) Bool)))))))) x129 (⟨[]⟩ : DT) : (M (Stp (DT) Bool))) >>= fun r => r.on (fun s119 : DT => (M.ok (decide (((s119.l.length : Nat) : Int) = ((4 : Int) * count_107))))))))))
def m_law (p_script : (List Int)) : M Bool :=
  ((bAnd (m__law_first_part p_script) (m__law_second_part p_script)) >>= fun r => M.ok r)
abbrev s_group_count : Stmt := top 11
abbrev Ngroup_count : List Str := ["data", "size"]
theorem scgroup_count : FnScope Ngroup_count ["data", "size"] (defScope s_group_count) := ⟨rfl, rfl, rfl, by decide +kernel, rfl, by decide +kernel, by decide +kernel⟩
abbrev s_Format_data_symbols : Stmt := (clsBody (top 21)).getD 1 (.Pass ⟨0, 0, 0, 0⟩)
abbrev NFormat_data_symbols : List Str := ["self"]
theorem scFormat_data_symbols : FnScope NFormat_data_symbols ["self"] (defScope s_Format_data_symbols) := ⟨rfl, rfl, rfl, by decide +kernel, rfl, by decide +kernel, by decide +kernel⟩
abbrev s_Format_codewords : Stmt := (clsBody (top 21)).getD 2 (.Pass ⟨0, 0, 0, 0⟩)
abbrev NFormat_codewords : List Str := ["self", "field"]
theorem scFormat_codewords : FnScope NFormat_codewords ["self"] (defScope s_Format_codewords) := ⟨rfl, rfl, rfl, by decide +kernel, rfl, by decide +kernel, by decide +kernel⟩
abbrev s__law_cell : Stmt := top 25
abbrev N_law_cell : List Str := ["script", "k"]
theorem sc_law_cell : FnScope N_law_cell ["script", "k"] (defScope s__law_cell) := ⟨rfl, rfl, rfl, by decide +kernel, rfl, by decide +kernel, by decide +kernel⟩
abbrev s__law_is_int : Stmt := top 26
abbrev N_law_is_int : List Str := ["value"]
theorem sc_law_is_int : FnScope N_law_is_int ["value"] (defScope s__law_is_int) := ⟨rfl, rfl, rfl, by decide +kernel, rfl, by decide +kernel, by decide +kernel⟩
abbrev s__law_label : Stmt := top 28
abbrev N_law_label : List Str := ["cell", "size", "checks", "data", "pages", "number"]
theorem sc_law_label : FnScope N_law_label ["cell"] (defScope s__law_label) := ⟨rfl, rfl, rfl, by decide +kernel, rfl, by decide +kernel, by decide +kernel⟩
abbrev s__law_form : Stmt := top 31
abbrev N_law_form : List Str := ["cell", "side", "checks"]
theorem sc_law_form : FnScope N_law_form ["cell"] (defScope s__law_form) := ⟨rfl, rfl, rfl, by decide +kernel, rfl, by decide +kernel, by decide +kernel⟩
abbrev s__law_words : Stmt := top 32
abbrev N_law_words : List Str := ["side"]
theorem sc_law_words : FnScope N_law_words ["side"] (defScope s__law_words) := ⟨rfl, rfl, rfl, by decide +kernel, rfl, by decide +kernel, by decide +kernel⟩
abbrev s__law_place : Stmt := top 33
abbrev N_law_place : List Str := ["side", "place", "width", "at"]
theorem sc_law_place : FnScope N_law_place ["side", "place"] (defScope s__law_place) := ⟨rfl, rfl, rfl, by decide +kernel, rfl, by decide +kernel, by decide +kernel⟩
abbrev s_check_label : Stmt := top 10
abbrev Ncheck_label : List Str := ["label", "pages", "archive", "number", "data", "size", "checks"]
theorem sccheck_label : FnScope Ncheck_label ["label"] (defScope s_check_label) := ⟨rfl, rfl, rfl, by decide +kernel, rfl, by decide +kernel, by decide +kernel⟩
abbrev s__law_is_list : Stmt := top 27
abbrev N_law_is_list : List Str := ["value", "least", "greatest", "item"]
theorem sc_law_is_list : FnScope N_law_is_list ["value", "least", "greatest"] (defScope s__law_is_list) := ⟨rfl, rfl, rfl, by decide +kernel, rfl, by decide +kernel, by decide +kernel⟩
abbrev s_group_pages : Stmt := top 12
abbrev Ngroup_pages : List Str := ["label", "group", "first", "_", "data", "size", "checks"]
theorem scgroup_pages : FnScope Ngroup_pages ["label", "group"] (defScope s_group_pages) := ⟨rfl, rfl, rfl, by decide +kernel, rfl, by decide +kernel, by decide +kernel⟩
abbrev s_Format_body_size : Stmt := (clsBody (top 21)).getD 3 (.Pass ⟨0, 0, 0, 0⟩)
abbrev NFormat_body_size : List Str := ["self"]
theorem scFormat_body_size : FnScope NFormat_body_size ["self"] (defScope s_Format_body_size) := ⟨rfl, rfl, rfl, by decide +kernel, rfl, by decide +kernel, by decide +kernel⟩
abbrev s_place_cells : Stmt := top 23
abbrev Nplace_cells : List Str := ["form", "place", "width", "first", "at"]
theorem scplace_cells : FnScope Nplace_cells ["form", "place"] (defScope s_place_cells) := ⟨rfl, rfl, rfl, by decide +kernel, rfl, by decide +kernel, by decide +kernel⟩
abbrev s__law_refused : Stmt := top 29
abbrev N_law_refused : List Str := ["label", "group", "e"]
theorem sc_law_refused : FnScope N_law_refused ["label", "group"] (defScope s__law_refused) := ⟨rfl, rfl, rfl, by decide +kernel, rfl, by decide +kernel, by decide +kernel⟩
abbrev s__law_refused_too : Stmt := top 34
abbrev N_law_refused_too : List Str := ["form", "place", "e"]
theorem sc_law_refused_too : FnScope N_law_refused_too ["form", "place"] (defScope s__law_refused_too) := ⟨rfl, rfl, rfl, by decide +kernel, rfl, by decide +kernel, by decide +kernel⟩
abbrev s_Format_capacity : Stmt := (clsBody (top 21)).getD 4 (.Pass ⟨0, 0, 0, 0⟩)
abbrev NFormat_capacity : List Str := ["self"]
theorem scFormat_capacity : FnScope NFormat_capacity ["self"] (defScope s_Format_capacity) := ⟨rfl, rfl, rfl, by decide +kernel, rfl, by decide +kernel, by decide +kernel⟩
abbrev s__law_first_part : Stmt := top 30
abbrev N_law_first_part : List Str := ["script", "label", "seen", "groups", "group", "archive", "number", "data", "size", "checks", "pages", "due", "k"]
theorem sc_law_first_part : FnScope N_law_first_part ["script"] (defScope s__law_first_part) := ⟨rfl, rfl, rfl, by decide +kernel, rfl, by decide +kernel, by decide +kernel⟩
abbrev s_Format___init__ : Stmt := (clsBody (top 21)).getD 0 (.Pass ⟨0, 0, 0, 0⟩)
abbrev NFormat___init__ : List Str := ["self", "side", "checks"]
theorem scFormat___init__ : FnScope NFormat___init__ ["self", "side", "checks"] (defScope s_Format___init__) := ⟨rfl, rfl, rfl, by decide +kernel, rfl, by decide +kernel, by decide +kernel⟩
abbrev s__law_second_part : Stmt := top 35
abbrev N_law_second_part : List Str := ["script", "form", "count", "seen", "place", "side", "checks", "cells", "cell"]
theorem sc_law_second_part : FnScope N_law_second_part ["script"] (defScope s__law_second_part) := ⟨rfl, rfl, rfl, by decide +kernel, rfl, by decide +kernel, by decide +kernel⟩
abbrev s_law : Stmt := top 36
abbrev Nlaw : List Str := ["script"]
theorem sclaw : FnScope Nlaw ["script"] (defScope s_law) := ⟨rfl, rfl, rfl, by decide +kernel, rfl, by decide +kernel, by decide +kernel⟩
/-- what the top has left -/
structure Txt (K : PySem.W.Frag) (mg : Str → Option Value) (a : Nat → Addr) (d : Nat → FuncData) : Prop where
  d_group_count : DefAt K mg "group_count" s_group_count (a 0) (d 0) ["data", "size"]
  d_Format_data_symbols : PrpAt K mg "Format" "data_symbols" "Format.data_symbols" s_Format_data_symbols (a 1) (d 1) ["self"]
  d_Format_codewords : PrpAt K mg "Format" "codewords" "Format.codewords" s_Format_codewords (a 2) (d 2) ["self"]
  d__law_cell : DefAt K mg "_law_cell" s__law_cell (a 3) (d 3) ["script", "k"]
  d__law_is_int : DefAt K mg "_law_is_int" s__law_is_int (a 4) (d 4) ["value"]
  d__law_label : DefAt K mg "_law_label" s__law_label (a 5) (d 5) ["cell"]
  d__law_form : DefAt K mg "_law_form" s__law_form (a 6) (d 6) ["cell"]
  d__law_words : DefAt K mg "_law_words" s__law_words (a 7) (d 7) ["side"]
  d__law_place : DefAt K mg "_law_place" s__law_place (a 8) (d 8) ["side", "place"]
  d_check_label : DefAt K mg "check_label" s_check_label (a 9) (d 9) ["label"]
  d__law_is_list : DefAt K mg "_law_is_list" s__law_is_list (a 10) (d 10) ["value", "least", "greatest"]
  d_group_pages : DefAt K mg "group_pages" s_group_pages (a 11) (d 11) ["label", "group"]
  d_Format_body_size : PrpAt K mg "Format" "body_size" "Format.body_size" s_Format_body_size (a 12) (d 12) ["self"]
  d_place_cells : DefAt K mg "place_cells" s_place_cells (a 13) (d 13) ["form", "place"]
  d__law_refused : DefAt K mg "_law_refused" s__law_refused (a 14) (d 14) ["label", "group"]
  d__law_refused_too : DefAt K mg "_law_refused_too" s__law_refused_too (a 15) (d 15) ["form", "place"]
  d_Format_capacity : PrpAt K mg "Format" "capacity" "Format.capacity" s_Format_capacity (a 16) (d 16) ["self"]
  d__law_first_part : DefAt K mg "_law_first_part" s__law_first_part (a 17) (d 17) ["script"]
  d_Format___init__ : IniAt K mg "Format" "Format.__init__" s_Format___init__ (a 18) (d 18) ["self", "side", "checks"]
  d__law_second_part : DefAt K mg "_law_second_part" s__law_second_part (a 19) (d 19) ["script"]
  d_law : DefAt K mg "law" s_law (a 20) (d 20) ["script"]
  k_Format : ClsT K mg "Format" ["side", "checks"]
  b_bool : mg "bool" = none
  b_int : mg "int" = none
  b_isinstance : mg "isinstance" = none
  b_len : mg "len" = none
  b_list : mg "list" = none
  b_max : mg "max" = none
  b_min : mg "min" = none
  b_range : mg "range" = none
  b_sorted : mg "sorted" = none
  b_tuple : mg "tuple" = none
  c_BORDER : ∃ t, mg "BORDER" = some (.int 2 t)
  c_CELLS_OF_SYMBOL : ∃ t, mg "CELLS_OF_SYMBOL" = some (.int 4 t)
  c_CODEWORD : ∃ t, mg "CODEWORD" = some (.int 16 t)
  c_GREATEST_ARCHIVE : ∃ t, mg "GREATEST_ARCHIVE" = some (.int 255 t)
  c_GREATEST_GROUP : ∃ t, mg "GREATEST_GROUP" = some (.int 12 t)
  c_GREATEST_SIDE : ∃ t, mg "GREATEST_SIDE" = some (.int 40 t)
  c_HEAD : ∃ t, mg "HEAD" = some (.int 10 t)
  c_LEAST_SIDE : ∃ t, mg "LEAST_SIDE" = some (.int 16 t)
  c_MOST_MEMBERS : ∃ t, mg "MOST_MEMBERS" = some (.int 16 t)
  c_MOST_PAGES : ∃ t, mg "MOST_PAGES" = some (.int 255 t)
  c_NUMBERS_OF_CHECKS : ∃ q, mg "NUMBERS_OF_CHECKS" = some (.ref q) ∧ ∀ H, R K mg H (.ref q) (enc k_NUMBERS_OF_CHECKS)
  e_InvalidFormat : ExcCls K mg "InvalidFormat"
  e_InvalidLabel : ExcCls K mg "InvalidLabel"
  e_InvalidSymbol : ExcCls K mg "InvalidSymbol"
  n_ArchiveError : EEx K mg k_tab "ArchiveError"
  i_InvalidLabel : IEx K mg k_tab "InvalidLabel"
  i_InvalidSymbol : IEx K mg k_tab "InvalidSymbol"
  t_2 : NoT K 2
section
variable {P : Program} {w : World} {K : PySem.W.Frag} {mg : Str → Option Value} {base : Heap} {a : Nat → Addr} {d : Nat → FuncData}
theorem G_group_count (T : Txt K mg a d) : FnOk P w K mg base (L2N.CX P w) 1 (a 0) (d 0) ["data", "size"] (spF K mg ((eCons (eCons eNil)) : Int × Int × Unit → List D) (fun r : Int => O.imm (enc r)) (fun x : Int × Int × Unit => m_group_count x.1 x.2.1)) := by
  refine fn_ok T.d_group_count.F scgroup_count (fun _ => rfl) fun cdv Ar outer s H E hr X hX x => ?_
  subst hX
  obtain ⟨p_data, p_size, _⟩ := x
  show VS _ _ _ _ _ (m_group_count p_data p_size)
  unfold m_group_count
  exact (vs_ret (f := fun r => r) (VX.congr (ve_div (ve_binI op_sub (ve_binI op_add (ve_var (a := p_data) 0) (ve_var (a := p_size) 1)) ve_int) (ve_var (a := p_size) 1)) (by simp only [M.bind_assoc, M.ok_bind])) (fun r => by exact rfl) (sub_anys _))
theorem G_Format_data_symbols (T : Txt K mg a d) : FnOk P w K mg base (L2N.CX P w) 1 (a 1) (d 1) ["self"] (spF K mg ((eCons eNil) : C_Format × Unit → List D) (fun r : Int => O.imm (enc r)) (fun x : C_Format × Unit => m_Format_data_symbols x.1)) := by
  refine fn_ok T.d_Format_data_symbols.F scFormat_data_symbols (fun _ => rfl) fun cdv Ar outer s H E hr X hX x => ?_
  subst hX
  obtain ⟨p_self, _⟩ := x
  show VS _ _ _ _ _ (m_Format_data_symbols p_self)
  unfold m_Format_data_symbols
  exact (vs_retp (x := ((16 : Int) - p_self.f_checks)) (t := ((16 : Int) - p_self.f_checks)) (VX.congr (ve_binI op_sub (ve_gint T.c_CODEWORD (by rfl)) (ve_fld (fs := fs_Format) (g := fun x : C_Format => x.f_checks) T.k_Format (by decide) (ve_var (a := p_self) 0) (fun _ => rfl) (fun _ => rfl))) (by simp only [M.bind_assoc, M.ok_bind])) (by exact rfl) (sub_anys _))
theorem G_Format_codewords (T : Txt K mg a d) : FnOk P w K mg base (L2N.CX P w) 1 (a 2) (d 2) ["self"] (spF K mg ((eCons eNil) : C_Format × Unit → List D) (fun r : Int => O.imm (enc r)) (fun x : C_Format × Unit => m_Format_codewords x.1)) := by
  refine fn_ok T.d_Format_codewords.F scFormat_codewords (fun _ => rfl) fun cdv Ar outer s H E hr X hX x => ?_
  subst hX
  obtain ⟨p_self, _⟩ := x
  show VS _ _ _ _ _ (m_Format_codewords p_self)
  unfold m_Format_codewords
  exact (vs_set 1 (scFormat_codewords).nd (VX.congr (ve_binI op_sub (ve_fld (fs := fs_Format) (g := fun x : C_Format => x.f_side) T.k_Format (by decide) (ve_var (a := p_self) 0) (fun _ => rfl) (fun _ => rfl)) (ve_mulR ve_int (ve_gint T.c_BORDER (by rfl)))) (by simp only [M.bind_assoc, M.ok_bind])) (fun field_1 => (vs_ret (f := fun r => r) (VX.congr (ve_div (ve_mul (ve_var (a := field_1) 1) (ve_var (a := field_1) 1)) (ve_mulR (ve_gint T.c_CODEWORD (by rfl)) (ve_gint T.c_CELLS_OF_SYMBOL (by rfl)))) (by simp only [M.bind_assoc, M.ok_bind])) (fun r => by exact rfl) (sub_anys _))) (sub_anys _))
theorem G__law_cell (T : Txt K mg a d) : FnOk P w K mg base (L2N.CX P w) 1 (a 3) (d 3) ["script", "k"] (spF K mg ((eCons (eCons eNil)) : (List Int) × Int × Unit → List D) (fun r : Int => O.imm (enc r)) (fun x : (List Int) × Int × Unit => m__law_cell x.1 x.2.1)) := by
  refine fn_ok T.d__law_cell.F sc_law_cell (fun _ => rfl) fun cdv Ar outer s H E hr X hX x => ?_
  subst hX
  obtain ⟨p_script, p_k, _⟩ := x
  show VS _ _ _ _ _ (m__law_cell p_script p_k)
  unfold m__law_cell
  exact (vs_ifxp (x := (decide (p_k < (p_script.length : Int)))) (VT.congr (vt_cmpI op_lt (ve_var (a := p_k) 1) (ve_len T.b_len (ve_var (a := p_script) 0)) (nomark _)) (by simp only [M.bind_assoc, M.ok_bind])) (vs_ret (f := fun r => r) (VX.congr (ve_toint T.b_int (ve_idx (ve_var (a := p_script) 0) (ve_var (a := p_k) 1))) (by simp only [M.bind_assoc, M.ok_bind])) (fun r => by exact rfl) (sub_anys _)) (vs_retp (x := (0 : Int)) (t := (0 : Int)) (VX.congr ve_int (by simp only [M.bind_assoc, M.ok_bind])) (by exact rfl) (sub_anys _)) (sub_anys _))
theorem G__law_is_int (T : Txt K mg a d) : FnOk P w K mg base (L2N.CX P w) 1 (a 4) (d 4) ["value"] (spF K mg ((eCons eNil) : Int × Unit → List D) (fun r : Bool => O.imm (enc r)) (fun x : Int × Unit => m__law_is_int x.1)) := by
  refine fn_ok T.d__law_is_int.F sc_law_is_int (fun _ => rfl) fun cdv Ar outer s H E hr X hX x => ?_
  subst hX
  obtain ⟨p_value, _⟩ := x
  show VS _ _ _ _ _ (m__law_is_int p_value)
  unfold m__law_is_int
  exact (vs_retp (x := (true && (!false))) (t := (true && (!false))) (VX.congr (ve_and_p (ve_isiS (n := "int") "int" true T.b_isinstance T.b_int (ve_var (a := p_value) 0) (fun _ => rfl) (by decide +kernel)) (ve_one (ve_not (ve_isiS (n := "bool") "int" false T.b_isinstance T.b_bool (ve_var (a := p_value) 0) (fun _ => rfl) (by decide +kernel))))) (by simp only [M.bind_assoc, M.ok_bind])) (by exact rfl) (sub_anys _))
theorem G__law_label (T : Txt K mg a d) : FnOk P w K mg base (L2N.CX P w) 1 (a 5) (d 5) ["cell"] (spF K mg ((eCons eNil) : Int × Unit → List D) (fun r : (T5 Int Int Int Int Int) => O.imm (enc r)) (fun x : Int × Unit => m__law_label x.1)) := by
  refine fn_ok T.d__law_label.F sc_law_label (fun _ => rfl) fun cdv Ar outer s H E hr X hX x => ?_
  subst hX
  obtain ⟨p_cell, _⟩ := x
  show VS _ _ _ _ _ (m__law_label p_cell)
  unfold m__law_label
  exact (vs_set 1 (sc_law_label).nd (VX.congr (ve_binI op_add ve_int (ve_modK (ve_var (a := p_cell) 0) ve_int)) (by simp only [M.bind_assoc, M.ok_bind])) (fun size_3 => (vs_set 2 (sc_law_label).nd (VX.congr (ve_mod (ve_divK (ve_var (a := p_cell) 0) ve_int) (ve_binI op_sub ve_int (ve_var (a := size_3) 1))) (by simp only [M.bind_assoc, M.ok_bind])) (fun checks_4 => (vs_ifjp (x := (decide (((p_cell / (204 : Int)) % (3 : Int)) > (0 : Int)))) (fun s5 : Int => [sI (p_cell : Int), sI (size_3 : Int), sI (s5 : Int), .any, .any, .any]) (VT.congr (vt_cmpI op_gt (ve_modK (ve_divK (ve_var (a := p_cell) 0) ve_int) ve_int) ve_int (nomark _)) (by simp only [M.bind_assoc, M.ok_bind])) (vs_set 2 (sc_law_label).nd (VX.congr (ve_modK (ve_var (a := checks_4) 2) ve_int) (by simp only [M.bind_assoc, M.ok_bind])) (fun checks_6 => (vs_nil (t := checks_6) (by exact (.eq (.eq (.eq (.any (.any (.any .nil))))))))) (sub_anys _)) (vs_nil (t := checks_4) (by exact (.eq (.eq (.eq (.any (.any (.any .nil)))))))) (fun s5 => (vs_set 3 (sc_law_label).nd (VX.congr (ve_binI op_add ve_int (ve_modK (ve_divK (ve_var (a := p_cell) 0) ve_int) ve_int)) (by simp only [M.bind_assoc, M.ok_bind])) (fun data_7 => (vs_set 4 (sc_law_label).nd (VX.congr (ve_binI op_add (ve_var (a := data_7) 3) (ve_mul (ve_div (ve_binI op_sub (ve_binI op_add (ve_var (a := data_7) 3) (ve_var (a := size_3) 1)) ve_int) (ve_var (a := size_3) 1)) (ve_var (a := s5) 2))) (by simp only [M.bind_assoc, M.ok_bind])) (fun pages_10 => (vs_ifjp (x := (decide (pages_10 > (255 : Int)))) (fun s11 : Int × Int => [sI (p_cell : Int), sI (size_3 : Int), sI (s5 : Int), sI (s11.1 : Int), sI (s11.2 : Int), .any]) (VT.congr (vt_cmpI op_gt (ve_var (a := pages_10) 4) ve_int (nomark _)) (by simp only [M.bind_assoc, M.ok_bind])) (vs_set 3 (sc_law_label).nd (VX.congr ve_int (by simp only [M.bind_assoc, M.ok_bind])) (fun data_12 => (vs_set 4 (sc_law_label).nd (VX.congr (ve_binI op_add ve_int (ve_var (a := s5) 2)) (by simp only [M.bind_assoc, M.ok_bind])) (fun pages_13 => (vs_nil (t := (data_12, pages_13)) (by exact (.eq (.eq (.eq (.eq (.eq (.any .nil))))))))) (sub_anys _))) (sub_anys _)) (vs_nil (t := (data_7, pages_10)) (by exact (.eq (.eq (.eq (.eq (.eq (.any .nil)))))))) (fun s11 => (vs_set 5 (sc_law_label).nd (VX.congr (ve_mod (ve_divK (ve_var (a := p_cell) 0) ve_int) (ve_var (a := s11.2) 4)) (by simp only [M.bind_assoc, M.ok_bind])) (fun number_14 => (vs_retp (x := (⟨((p_cell / (9363600 : Int)) % (256 : Int)), number_14, s11.1, size_3, s5⟩ : (T5 Int Int Int Int Int))) (t := (⟨((p_cell / (9363600 : Int)) % (256 : Int)), number_14, s11.1, size_3, s5⟩ : (T5 Int Int Int Int Int))) (VX.congr (ve_tup (fun x : Int × Int × Int × Int × Int × Unit => (⟨x.1, x.2.1, x.2.2.1, x.2.2.2.1, x.2.2.2.2.1⟩ : (T5 Int Int Int Int Int))) (va_cons (ve_modK (ve_divK (ve_var (a := p_cell) 0) ve_int) ve_int) (va_cons (ve_var (a := number_14) 5) (va_cons (ve_var (a := s11.1) 3) (va_cons (ve_var (a := size_3) 1) (va_cons (ve_var (a := s5) 2) va_nil)))))) (by simp only [M.bind_assoc, M.ok_bind])) (by exact rfl) (sub_anys _))) (sub_anys _))) (sub_anys _))) (sub_anys _))) (sub_anys _))) (sub_anys _))) (sub_anys _))) (sub_anys _))
theorem G__law_form (T : Txt K mg a d) : FnOk P w K mg base (L2N.CX P w) 1 (a 6) (d 6) ["cell"] (spF K mg ((eCons eNil) : Int × Unit → List D) (fun r : (Int × Int) => O.imm (enc r)) (fun x : Int × Unit => m__law_form x.1)) := by
  refine fn_ok T.d__law_form.F sc_law_form (fun _ => rfl) fun cdv Ar outer s H E hr X hX x => ?_
  subst hX
  obtain ⟨p_cell, _⟩ := x
  show VS _ _ _ _ _ (m__law_form p_cell)
  unfold m__law_form
  exact (vs_set 1 (sc_law_form).nd (VX.congr (ve_binI op_add ve_int (ve_modK (ve_var (a := p_cell) 0) ve_int)) (by simp only [M.bind_assoc, M.ok_bind])) (fun side_15 => (vs_set 2 (sc_law_form).nd (VX.congr (ve_binI op_add ve_int (ve_mulL ve_int (ve_modK (ve_divK (ve_var (a := p_cell) 0) ve_int) ve_int))) (by simp only [M.bind_assoc, M.ok_bind])) (fun checks_16 => (vs_ifjp (x := ((decide (side_15 < (18 : Int))) && (decide (checks_16 > (4 : Int))))) (fun s17 : Int => [sI (p_cell : Int), sI (side_15 : Int), sI (s17 : Int)]) (VT.congr ((vw_and_p (vt_cmpI op_lt (ve_var (a := side_15) 1) ve_int (nomark _)) (vw_and1 (vt_cmpI op_gt (ve_var (a := checks_16) 2) ve_int (nomark _))))).vt (by simp only [M.bind_assoc, M.ok_bind])) (vs_set 2 (sc_law_form).nd (VX.congr (ve_binI op_sub (ve_var (a := checks_16) 2) ve_int) (by simp only [M.bind_assoc, M.ok_bind])) (fun checks_18 => (vs_nil (t := checks_18) (by exact (.eq (.eq (.eq .nil)))))) (sub_anys _)) (vs_nil (t := checks_16) (by exact (.eq (.eq (.eq .nil))))) (fun s17 => (vs_ifjp (x := (decide (((p_cell / (28 : Int)) % (40 : Int)) = (7 : Int)))) (fun s19 : Int => [sI (p_cell : Int), sI (s19 : Int), sI (s17 : Int)]) (VT.congr (vt_eq (ve_modK (ve_divK (ve_var (a := p_cell) 0) ve_int) ve_int) ve_int) (by simp only [M.bind_assoc, M.ok_bind])) (vs_set 1 (sc_law_form).nd (VX.congr (ve_binI op_add ve_int (ve_modK (ve_divK (ve_var (a := p_cell) 0) ve_int) ve_int)) (by simp only [M.bind_assoc, M.ok_bind])) (fun side_20 => (vs_nil (t := side_20) (by exact (.eq (.eq (.eq .nil)))))) (sub_anys _)) (vs_nil (t := side_15) (by exact (.eq (.eq (.eq .nil))))) (fun s19 => (vs_retp (x := (s19, s17)) (t := (s19, s17)) (VX.congr (ve_tup (fun x : Int × Int × Unit => (x.1, x.2.1)) (va_cons (ve_var (a := s19) 1) (va_cons (ve_var (a := s17) 2) va_nil))) (by simp only [M.bind_assoc, M.ok_bind])) (by exact rfl) (sub_anys _))) (sub_anys _))) (sub_anys _))) (sub_anys _))) (sub_anys _))
theorem G__law_words (T : Txt K mg a d) : FnOk P w K mg base (L2N.CX P w) 1 (a 7) (d 7) ["side"] (spF K mg ((eCons eNil) : Int × Unit → List D) (fun r : Int => O.imm (enc r)) (fun x : Int × Unit => m__law_words x.1)) := by
  refine fn_ok T.d__law_words.F sc_law_words (fun _ => rfl) fun cdv Ar outer s H E hr X hX x => ?_
  subst hX
  obtain ⟨p_side, _⟩ := x
  show VS _ _ _ _ _ (m__law_words p_side)
  unfold m__law_words
  exact (vs_ret (f := fun r => r) (VX.congr (ve_divK (ve_mul (ve_binI op_sub (ve_var (a := p_side) 0) ve_int) (ve_binI op_sub (ve_var (a := p_side) 0) ve_int)) ve_int) (by simp only [M.bind_assoc, M.ok_bind])) (fun r => by exact rfl) (sub_anys _))
theorem G__law_place (T : Txt K mg a d) : FnOk P w K mg base (L2N.CX P w) 1 (a 8) (d 8) ["side", "place"] (spF K mg ((eCons (eCons eNil)) : Int × Int × Unit → List D) (ow1 : (List (Int × Int)) → O) (fun x : Int × Int × Unit => m__law_place x.1 x.2.1)) := by
  refine fn_ok T.d__law_place.F sc_law_place (fun _ => rfl) fun cdv Ar outer s H E hr X hX x => ?_
  subst hX
  obtain ⟨p_side, p_place, _⟩ := x
  show VS _ _ _ _ _ (m__law_place p_side p_place)
  unfold m__law_place
  exact (vs_set 2 (sc_law_place).nd (VX.congr (ve_binI op_sub (ve_var (a := p_side) 0) ve_int) (by simp only [M.bind_assoc, M.ok_bind])) (fun width_22 => (vs_retO (f := fun r => r) (VO.congr (vo_lc [("at", 3)] rfl (sc_law_place).nd (VI.congr (vi_range2 T.b_range (ve_mulL ve_int (ve_var (a := p_place) 1)) (ve_binI op_add (ve_mulL ve_int (ve_var (a := p_place) 1)) ve_int)) ((by simp only [M.bind_assoc, M.ok_bind]) : _ = (chk (rOk ((4 : Int) * p_place) ∧ rOk (((4 : Int) * p_place) + (4 : Int))) >>= fun _ => M.ok (rng ((4 : Int) * p_place) (((4 : Int) * p_place) + (4 : Int)))))) (blkOk_by (N := N_law_place) (sc := defScope s__law_place) (by decide +kernel)) (fun _ _ _ _ _ => (vg_name (α := Int) (n := 4) 3 (sc_law_place).nd)) (fun (a23 : Int) _ _ _ _ _ => (vk_nil : VK _ _ _ (M.ok true))) (fun (a23 : Int) _ _ _ _ _ => (VX.congr (ve_tup (fun x : Int × Int × Unit => (x.1, x.2.1)) (va_cons (ve_binI op_add ve_int (ve_div (ve_var (a := a23) 3) (ve_var (a := width_22) 2))) (va_cons (ve_binI op_add ve_int (ve_mod (ve_var (a := a23) 3) (ve_var (a := width_22) 2))) va_nil))) (by simp only [M.bind_assoc, M.ok_bind]) : VE _ _ _ (((chk (CDiv a23 width_22) >>= fun _ => M.ok (a23 / width_22)) >>= fun x24 => M.ok ((2 : Int) + x24)) >>= fun x26 => ((chk (0 < width_22) >>= fun _ => M.ok (a23 % width_22)) >>= fun x25 => M.ok ((2 : Int) + x25)) >>= fun x27 => M.ok (x26, x27))))) (by simp only [M.bind_assoc, M.ok_bind])) (fun r => by exact rfl) (sub_anys _))) (sub_anys _))
theorem G_check_label (T : Txt K mg a d) : FnOk P w K mg base (L2N.CX P w) 2 (a 9) (d 9) ["label"] (spF K mg ((eCons eNil) : (T5 Int Int Int Int Int) × Unit → List D) (fun r : Int => O.imm (enc r)) (fun x : (T5 Int Int Int Int Int) × Unit => m_check_label x.1)) := by
  refine fn_ok T.d_check_label.F sccheck_label (fun _ => rfl) fun cdv Ar outer s H E hr X hX x => ?_
  subst hX
  obtain ⟨p_label, _⟩ := x
  show VS _ _ _ _ _ (m_check_label p_label)
  unfold m_check_label
  exact (vs_asg (VX.congr (ve_var (a := p_label) 0) (by simp only [M.bind_assoc, M.ok_bind])) (vg_tup (fun x : (T5 Int Int Int Int Int) => (x.a, x.b, x.c, x.d, x.e, ())) rfl (vgs_cons (vg_name (α := Int) (n := 7) 2 (sccheck_label).nd) (vgs_cons (vg_name (α := Int) (n := 7) 3 (sccheck_label).nd) (vgs_cons (vg_name (α := Int) (n := 7) 4 (sccheck_label).nd) (vgs_cons (vg_name (α := Int) (n := 7) 5 (sccheck_label).nd) (vgs_cons (vg_name (α := Int) (n := 7) 6 (sccheck_label).nd) vgs_nil))))) (fun _ => rfl) (fun _ => rfl)) (fun t29 => (vs_ifxp (x := ((decide (t29.a < (0 : Int))) || ((decide (t29.a > (255 : Int))) || ((decide (t29.c < (1 : Int))) || (decide (t29.c > (255 : Int))))))) (VT.congr ((vw_or_p (vt_cmpI op_lt (ve_var (a := t29.a) 2) ve_int (nomark _)) (vw_or_p (vt_cmpI op_gt (ve_var (a := t29.a) 2) (ve_gint T.c_GREATEST_ARCHIVE (by rfl)) (nomark _)) (vw_or_p (vt_cmpI op_lt (ve_var (a := t29.c) 4) ve_int (nomark _)) (vw_or1 (vt_cmpI op_gt (ve_var (a := t29.c) 4) (ve_gint T.c_MOST_PAGES (by rfl)) (nomark _))))))).vt (by simp only [M.bind_assoc, M.ok_bind])) (vs_raiseT T.e_InvalidLabel rfl (sub_anys _)) (vs_ifxp (x := ((decide (t29.d < (1 : Int))) || ((decide (t29.d > (12 : Int))) || ((decide (t29.e < (0 : Int))) || (decide (t29.e > ((16 : Int) - t29.d))))))) (VT.congr ((vw_or_p (vt_cmpI op_lt (ve_var (a := t29.d) 5) ve_int (nomark _)) (vw_or_p (vt_cmpI op_gt (ve_var (a := t29.d) 5) (ve_gint T.c_GREATEST_GROUP (by rfl)) (nomark _)) (vw_or_p (vt_cmpI op_lt (ve_var (a := t29.e) 6) ve_int (nomark _)) (vw_or1 (vt_cmpI op_gt (ve_var (a := t29.e) 6) (ve_binI op_sub (ve_gint T.c_MOST_MEMBERS (by rfl)) (ve_var (a := t29.d) 5)) (nomark _))))))).vt (by simp only [M.bind_assoc, M.ok_bind])) (vs_raiseT T.e_InvalidLabel rfl (sub_anys _)) (vs_set 1 (sccheck_label).nd (VX.congr (ve_binI op_add (ve_var (a := t29.c) 4) (ve_mul (ve_call (G_group_count T) hr T.d_group_count.g T.d_group_count.F.kp T.d_group_count.b (va_cons (ve_var (a := t29.c) 4) (va_cons (ve_var (a := t29.d) 5) va_nil))) (ve_var (a := t29.e) 6))) (by simp only [M.bind_assoc, M.ok_bind])) (fun pages_32 => (vs_ifxp (x := ((decide (pages_32 > (255 : Int))) || ((decide (t29.b < (0 : Int))) || (decide (t29.b ≥ pages_32))))) (VT.congr ((vw_or_p (vt_cmpI op_gt (ve_var (a := pages_32) 1) (ve_gint T.c_MOST_PAGES (by rfl)) (nomark _)) (vw_or_p (vt_cmpI op_lt (ve_var (a := t29.b) 3) ve_int (nomark _)) (vw_or1 (vt_cmpI op_ge (ve_var (a := t29.b) 3) (ve_var (a := pages_32) 1) (nomark _)))))).vt (by simp only [M.bind_assoc, M.ok_bind])) (vs_raiseT T.e_InvalidLabel rfl (sub_anys _)) (vs_retp (x := pages_32) (t := pages_32) (VX.congr (ve_var (a := pages_32) 1) (by simp only [M.bind_assoc, M.ok_bind])) (by exact rfl) (sub_anys _)) (sub_anys _))) (sub_anys _)) (sub_anys _)) (sub_anys _))) (sub_anys _))
theorem G__law_is_list (T : Txt K mg a d) : FnOk P w K mg base (L2N.CX P w) 2 (a 10) (d 10) ["value", "least", "greatest"] (spF K mg ((eCons (eCons (eCons eNil))) : (List Int) × Int × Int × Unit → List D) (fun r : Bool => O.imm (enc r)) (fun x : (List Int) × Int × Int × Unit => m__law_is_list x.1 x.2.1 x.2.2.1)) := by
  refine fn_ok T.d__law_is_list.F sc_law_is_list (fun _ => rfl) fun cdv Ar outer s H E hr X hX x => ?_
  subst hX
  obtain ⟨p_value, p_least, p_greatest, _⟩ := x
  show VS _ _ _ _ _ (m__law_is_list p_value p_least p_greatest)
  unfold m__law_is_list
  exact (vs_ifxp (x := (!true)) (VT.congr (vt_not (vt_val (ve_isiS (n := "list") "list" true T.b_isinstance T.b_list (ve_var (a := p_value) 0) (fun _ => rfl) (by decide +kernel)))) (by simp only [M.bind_assoc, M.ok_bind])) (vs_retp (x := false) (t := false) (VX.congr ve_bl (by simp only [M.bind_assoc, M.ok_bind])) (by exact rfl) (sub_anys _)) (vs_forP (b := (fun (s33 : Unit) (a34 : Int) => ((bOr ((m__law_is_int a34) >>= fun x35 => M.ok (!x35)) (M.ok ((decide (a34 < p_least)) || (decide (a34 > p_greatest))))) >>= fun c36 => if c36 then (M.ok (Stp.rt false : (Stp (Unit) Bool))) else (M.ok (Stp.nx () : (Stp (Unit) Bool)))))) (k := (fun s33 : Unit => (M.ok true))) p_value (fun s33 : Unit => [sI (p_value : (List Int)), sI (p_least : Int), sI (p_greatest : Int), .any]) () (passes_of rfl) rfl (VI.congr (vi_list (ve_var (a := p_value) 0)) ((by simp only [M.bind_assoc, M.ok_bind]) : _ = M.ok p_value)) (vg_name (α := Int) (n := 4) 3 (sc_law_is_list).nd) (fun s33 a34 => (vs_ifx (b := []) (VT.congr ((vw_or (vt_not (vt_val (ve_call (G__law_is_int T) hr T.d__law_is_int.g T.d__law_is_int.F.kp T.d__law_is_int.b (va_cons (ve_var (a := a34) 3) va_nil)))) (vw_or_p (vt_cmpI op_lt (ve_var (a := a34) 3) (ve_var (a := p_least) 1) (nomark _)) (vw_or1 (vt_cmpI op_gt (ve_var (a := a34) 3) (ve_var (a := p_greatest) 2) (nomark _)))))).vt (by simp only [M.bind_assoc, M.ok_bind])) (vs_retp (x := false) (t := (Stp.rt false : (Stp (Unit) Bool))) (VX.congr ve_bl (by simp only [M.bind_assoc, M.ok_bind])) (by exact ⟨_, rfl, rfl⟩) (sub_anys _)) (vs_nil (t := (Stp.nx () : (Stp (Unit) Bool))) (by exact ⟨_, rfl, (.eq (.eq (.eq (.any .nil))))⟩)) (sub_anys _))) (fun s33 => (vs_retp (x := true) (t := true) (VX.congr ve_bl (by simp only [M.bind_assoc, M.ok_bind])) (by exact rfl) (sub_anys _))) (by exact (.eq (.eq (.eq (.any .nil))))) (sub_anys _)) (sub_anys _))
theorem G_group_pages (T : Txt K mg a d) : FnOk P w K mg base (L2N.CX P w) 3 (a 11) (d 11) ["label", "group"] (spF K mg ((eCons (eCons eNil)) : (T5 Int Int Int Int Int) × Int × Unit → List D) (ow1 : (List Int) → O) (fun x : (T5 Int Int Int Int Int) × Int × Unit => m_group_pages x.1 x.2.1)) := by
  refine fn_ok T.d_group_pages.F scgroup_pages (fun _ => rfl) fun cdv Ar outer s H E hr X hX x => ?_
  subst hX
  obtain ⟨p_label, p_group, _⟩ := x
  show VS _ _ _ _ _ (m_group_pages p_label p_group)
  unfold m_group_pages
  exact (vs_expr (VX.congr (ve_call (G_check_label T) hr T.d_check_label.g T.d_check_label.F.kp T.d_check_label.b (va_cons (ve_var (a := p_label) 0) va_nil)) (by simp only [M.bind_assoc, M.ok_bind])) (vs_asg (VX.congr (ve_var (a := p_label) 0) (by simp only [M.bind_assoc, M.ok_bind])) (vg_tup (fun x : (T5 Int Int Int Int Int) => (x.a, x.b, x.c, x.d, x.e, ())) rfl (vgs_cons (vg_name (α := Int) (n := 7) 3 (scgroup_pages).nd) (vgs_cons (vg_name (α := Int) (n := 7) 3 (scgroup_pages).nd) (vgs_cons (vg_name (α := Int) (n := 7) 4 (scgroup_pages).nd) (vgs_cons (vg_name (α := Int) (n := 7) 5 (scgroup_pages).nd) (vgs_cons (vg_name (α := Int) (n := 7) 6 (scgroup_pages).nd) vgs_nil))))) (fun _ => rfl) (fun _ => rfl)) (fun t37 => (vs_ifx (b := []) (VT.congr ((vw_or (vt_cmpI op_lt (ve_var (a := p_group) 1) ve_int (nomark _)) (vw_or1 (vt_cmpI op_ge (ve_var (a := p_group) 1) (ve_call (G_group_count T) (hr.mono (show 1 ≤ 2 by decide)) T.d_group_count.g T.d_group_count.F.kp T.d_group_count.b (va_cons (ve_var (a := t37.c) 4) (va_cons (ve_var (a := t37.d) 5) va_nil))) (nomark _))))).vt (by simp only [M.bind_assoc, M.ok_bind])) (vs_raiseT T.e_InvalidLabel rfl (sub_anys _)) (vs_set 2 (scgroup_pages).nd (VX.congr (ve_binI op_add (ve_var (a := t37.c) 4) (ve_mul (ve_var (a := p_group) 1) (ve_var (a := t37.e) 6))) (by simp only [M.bind_assoc, M.ok_bind])) (fun first_40 => (vs_retO (f := fun r => r) (VO.congr (vo_cat ((vo_listR rfl T.b_list (vr_2 T.b_range (ve_mul (ve_var (a := p_group) 1) (ve_var (a := t37.d) 5)) (ve_min2 rfl T.b_min (ve_var (a := t37.c) 4) (ve_mul (ve_binI op_add (ve_var (a := p_group) 1) ve_int) (ve_var (a := t37.d) 5)))))).ve1 ((vo_listR rfl T.b_list (vr_2 T.b_range (ve_var (a := first_40) 2) (ve_binI op_add (ve_var (a := first_40) 2) (ve_var (a := t37.e) 6))))).ve1) (by simp only [M.bind_assoc, M.ok_bind])) (fun r => by exact rfl) (sub_anys _))) (sub_anys _)) (sub_anys _))) (sub_anys _)) (sub_anys _))
theorem G_Format_body_size (T : Txt K mg a d) : FnOk P w K mg base (L2N.CX P w) 3 (a 12) (d 12) ["self"] (spF K mg ((eCons eNil) : C_Format × Unit → List D) (fun r : Int => O.imm (enc r)) (fun x : C_Format × Unit => m_Format_body_size x.1)) := by
  refine fn_ok T.d_Format_body_size.F scFormat_body_size (fun _ => rfl) fun cdv Ar outer s H E hr X hX x => ?_
  subst hX
  obtain ⟨p_self, _⟩ := x
  show VS _ _ _ _ _ (m_Format_body_size p_self)
  unfold m_Format_body_size
  exact (vs_ret (f := fun r => r) (VX.congr (ve_mul (ve_binI op_sub (ve_prop (fs := fs_Format) T.d_Format_codewords.m (G_Format_codewords T) hr T.d_Format_codewords.b (ve_var (a := p_self) 0) (fun _ => rfl)) ve_int) (ve_prop (fs := fs_Format) T.d_Format_data_symbols.m (G_Format_data_symbols T) hr T.d_Format_data_symbols.b (ve_var (a := p_self) 0) (fun _ => rfl))) (by simp only [M.bind_assoc, M.ok_bind])) (fun r => by exact rfl) (sub_anys _))
theorem G_place_cells (T : Txt K mg a d) : FnOk P w K mg base (L2N.CX P w) 3 (a 13) (d 13) ["form", "place"] (spF K mg ((eCons (eCons eNil)) : C_Format × Int × Unit → List D) (ow1 : (List (Int × Int)) → O) (fun x : C_Format × Int × Unit => m_place_cells x.1 x.2.1)) := by
  refine fn_ok T.d_place_cells.F scplace_cells (fun _ => rfl) fun cdv Ar outer s H E hr X hX x => ?_
  subst hX
  obtain ⟨p_form, p_place, _⟩ := x
  show VS _ _ _ _ _ (m_place_cells p_form p_place)
  unfold m_place_cells
  exact (vs_ifx (b := []) (VT.congr ((vw_or (vt_cmpI op_lt (ve_var (a := p_place) 1) ve_int (nomark _)) (vw_or1 (vt_cmpI op_ge (ve_var (a := p_place) 1) (ve_mulL (ve_gint T.c_CODEWORD (by rfl)) (ve_prop (fs := fs_Format) T.d_Format_codewords.m (G_Format_codewords T) hr T.d_Format_codewords.b (ve_var (a := p_form) 0) (fun _ => rfl))) (nomark _))))).vt (by simp only [M.bind_assoc, M.ok_bind])) (vs_raiseT T.e_InvalidSymbol rfl (sub_anys _)) (vs_set 2 (scplace_cells).nd (VX.congr (ve_binI op_sub (ve_fld (fs := fs_Format) (g := fun x : C_Format => x.f_side) T.k_Format (by decide) (ve_var (a := p_form) 0) (fun _ => rfl) (fun _ => rfl)) (ve_mulR ve_int (ve_gint T.c_BORDER (by rfl)))) (by simp only [M.bind_assoc, M.ok_bind])) (fun width_52 => (vs_set 3 (scplace_cells).nd (VX.congr (ve_mulL (ve_gint T.c_CELLS_OF_SYMBOL (by rfl)) (ve_var (a := p_place) 1)) (by simp only [M.bind_assoc, M.ok_bind])) (fun first_53 => (vs_retO (f := fun r => r) (VO.congr (vo_lc [("at", 4)] rfl (scplace_cells).nd (VI.congr (vi_range2 T.b_range (ve_var (a := first_53) 3) (ve_binI op_add (ve_var (a := first_53) 3) (ve_gint T.c_CELLS_OF_SYMBOL (by rfl)))) ((by simp only [M.bind_assoc, M.ok_bind]) : _ = (chk (rOk first_53 ∧ rOk (first_53 + (4 : Int))) >>= fun _ => M.ok (rng first_53 (first_53 + (4 : Int)))))) (blkOk_by (N := Nplace_cells) (sc := defScope s_place_cells) (by decide +kernel)) (fun _ _ _ _ _ => (vg_name (α := Int) (n := 5) 4 (scplace_cells).nd)) (fun (a54 : Int) _ _ _ _ _ => (vk_nil : VK _ _ _ (M.ok true))) (fun (a54 : Int) _ _ _ _ _ => (VX.congr (ve_tup (fun x : Int × Int × Unit => (x.1, x.2.1)) (va_cons (ve_binI op_add (ve_gint T.c_BORDER (by rfl)) (ve_div (ve_var (a := a54) 4) (ve_var (a := width_52) 2))) (va_cons (ve_binI op_add (ve_gint T.c_BORDER (by rfl)) (ve_mod (ve_var (a := a54) 4) (ve_var (a := width_52) 2))) va_nil))) (by simp only [M.bind_assoc, M.ok_bind]) : VE _ _ _ (((chk (CDiv a54 width_52) >>= fun _ => M.ok (a54 / width_52)) >>= fun x55 => M.ok ((2 : Int) + x55)) >>= fun x57 => ((chk (0 < width_52) >>= fun _ => M.ok (a54 % width_52)) >>= fun x56 => M.ok ((2 : Int) + x56)) >>= fun x58 => M.ok (x57, x58))))) (by simp only [M.bind_assoc, M.ok_bind])) (fun r => by exact rfl) (sub_anys _))) (sub_anys _))) (sub_anys _)) (sub_anys _))
theorem G__law_refused (T : Txt K mg a d) : FnOk P w K mg base (L2N.CX P w) 4 (a 14) (d 14) ["label", "group"] (spF K mg ((eCons (eCons eNil)) : (T5 Int Int Int Int Int) × Int × Unit → List D) (fun r : Bool => O.imm (enc r)) (fun x : (T5 Int Int Int Int Int) × Int × Unit => m__law_refused x.1 x.2.1)) := by
  refine fn_ok T.d__law_refused.F sc_law_refused (fun _ => rfl) fun cdv Ar outer s H E hr X hX x => ?_
  subst hX
  obtain ⟨p_label, p_group, _⟩ := x
  show VS _ _ _ _ _ (m__law_refused p_label p_group)
  unfold m__law_refused
  exact (vs_tryT (mb := ((m_group_pages p_label p_group) >>= fun _ => (M.ok (Jn.out false : (Jn (Unit) Bool))))) (mh := fun e62 : Exn => ((isE k_tab e62 "InvalidLabel") >>= fun r => M.ok (Jn.out r : (Jn (Unit) Bool)))) (kk := (fun s61 : Unit => M.stuck)) (fun s61 : Unit => [sI (p_label : (T5 Int Int Int Int Int)), sI (p_group : Int), .any]) 2 k_tab [sI (p_label : (T5 Int Int Int Int Int)), sI (p_group : Int), .any] rfl rfl (sc_law_refused).nd T.n_ArchiveError (fun pn xe po => (vs_expr (VX.congr ((vo_call (G_group_pages T) hr T.d_group_pages.g T.d_group_pages.F.kp T.d_group_pages.b (va_cons (ve_var (a := p_label) 0) (va_cons (ve_var (a := p_group) 1) va_nil)))).ve1 (by simp only [M.bind_assoc, M.ok_bind])) (vs_retp (x := false) (t := (Jn.out false : (Jn (Unit) Bool))) (VX.congr ve_bl (by simp only [M.bind_assoc, M.ok_bind])) (by exact ⟨_, rfl, rfl⟩) (.eq (.eq (.any .nil)))) (.eq (.eq (.any .nil))))) (fun e62 hfs a oe cls pn hz hfl hmc => (vs_ret (f := fun r => (Jn.out r : (Jn (Unit) Bool))) (VX.congr (ve_isEo 2 hz hfl hmc T.i_InvalidLabel T.b_isinstance) (by simp only [M.bind_assoc, M.ok_bind])) (fun r => by exact ⟨_, rfl, rfl⟩) (sub_anys _))) (fun s61 => vs_stuck) (sub_anys _))
theorem G__law_refused_too (T : Txt K mg a d) : FnOk P w K mg base (L2N.CX P w) 4 (a 15) (d 15) ["form", "place"] (spF K mg ((eCons (eCons eNil)) : C_Format × Int × Unit → List D) (fun r : Bool => O.imm (enc r)) (fun x : C_Format × Int × Unit => m__law_refused_too x.1 x.2.1)) := by
  refine fn_ok T.d__law_refused_too.F sc_law_refused_too (fun _ => rfl) fun cdv Ar outer s H E hr X hX x => ?_
  subst hX
  obtain ⟨p_form, p_place, _⟩ := x
  show VS _ _ _ _ _ (m__law_refused_too p_form p_place)
  unfold m__law_refused_too
  exact (vs_tryT (mb := ((m_place_cells p_form p_place) >>= fun _ => (M.ok (Jn.out false : (Jn (Unit) Bool))))) (mh := fun e64 : Exn => ((isE k_tab e64 "InvalidSymbol") >>= fun r => M.ok (Jn.out r : (Jn (Unit) Bool)))) (kk := (fun s63 : Unit => M.stuck)) (fun s63 : Unit => [sI (p_form : C_Format), sI (p_place : Int), .any]) 2 k_tab [sI (p_form : C_Format), sI (p_place : Int), .any] rfl rfl (sc_law_refused_too).nd T.n_ArchiveError (fun pn xe po => (vs_expr (VX.congr ((vo_call (G_place_cells T) hr T.d_place_cells.g T.d_place_cells.F.kp T.d_place_cells.b (va_cons (ve_var (a := p_form) 0) (va_cons (ve_var (a := p_place) 1) va_nil)))).ve1 (by simp only [M.bind_assoc, M.ok_bind])) (vs_retp (x := false) (t := (Jn.out false : (Jn (Unit) Bool))) (VX.congr ve_bl (by simp only [M.bind_assoc, M.ok_bind])) (by exact ⟨_, rfl, rfl⟩) (.eq (.eq (.any .nil)))) (.eq (.eq (.any .nil))))) (fun e64 hfs a oe cls pn hz hfl hmc => (vs_ret (f := fun r => (Jn.out r : (Jn (Unit) Bool))) (VX.congr (ve_isEo 2 hz hfl hmc T.i_InvalidSymbol T.b_isinstance) (by simp only [M.bind_assoc, M.ok_bind])) (fun r => by exact ⟨_, rfl, rfl⟩) (sub_anys _))) (fun s63 => vs_stuck) (sub_anys _))
theorem G_Format_capacity (T : Txt K mg a d) : FnOk P w K mg base (L2N.CX P w) 5 (a 16) (d 16) ["self"] (spF K mg ((eCons eNil) : C_Format × Unit → List D) (fun r : Int => O.imm (enc r)) (fun x : C_Format × Unit => m_Format_capacity x.1)) := by
  refine fn_ok T.d_Format_capacity.F scFormat_capacity (fun _ => rfl) fun cdv Ar outer s H E hr X hX x => ?_
  subst hX
  obtain ⟨p_self, _⟩ := x
  show VS _ _ _ _ _ (m_Format_capacity p_self)
  unfold m_Format_capacity
  exact (vs_ret (f := fun r => r) (VX.congr (ve_divK (ve_binI op_sub (ve_prop (fs := fs_Format) T.d_Format_body_size.m (G_Format_body_size T) hr T.d_Format_body_size.b (ve_var (a := p_self) 0) (fun _ => rfl)) (ve_gint T.c_HEAD (by rfl))) ve_int) (by simp only [M.bind_assoc, M.ok_bind])) (fun r => by exact rfl) (sub_anys _))
theorem G__law_first_part (T : Txt K mg a d) : FnOk P w K mg base (L2N.CX P w) 5 (a 17) (d 17) ["script"] (spF K mg ((eCons eNil) : (List Int) × Unit → List D) (fun r : Bool => O.imm (enc r)) (fun x : (List Int) × Unit => m__law_first_part x.1)) := by
  refine fn_ok T.d__law_first_part.F sc_law_first_part (fun _ => rfl) fun cdv Ar outer s H E hr X hX x => ?_
  subst hX
  obtain ⟨p_script, _⟩ := x
  show VS _ _ _ _ _ (m__law_first_part p_script)
  unfold m__law_first_part
  exact (vs_set 1 (sc_law_first_part).nd (VX.congr (ve_call (G__law_label T) (hr.mono (show 1 ≤ 4 by decide)) T.d__law_label.g T.d__law_label.F.kp T.d__law_label.b (va_cons (ve_call (G__law_cell T) (hr.mono (show 1 ≤ 4 by decide)) T.d__law_cell.g T.d__law_cell.F.kp T.d__law_cell.b (va_cons (ve_var (a := p_script) 0) (va_cons ve_int va_nil))) va_nil)) (by simp only [M.bind_assoc, M.ok_bind])) (fun label_68 => (vs_ifx (b := []) (VT.congr (vt_eq (ve_modK (ve_call (G__law_cell T) (hr.mono (show 1 ≤ 4 by decide)) T.d__law_cell.g T.d__law_cell.F.kp T.d__law_cell.b (va_cons (ve_var (a := p_script) 0) (va_cons ve_int va_nil))) ve_int) ve_int) (by simp only [M.bind_assoc, M.ok_bind])) (vs_ret (f := fun r => r) (VX.congr (ve_and (ve_call (G__law_refused T) hr T.d__law_refused.g T.d__law_refused.F.kp T.d__law_refused.b (va_cons (ve_tup (fun x : Int × Int × Int × Int × Int × Unit => (⟨x.1, x.2.1, x.2.2.1, x.2.2.2.1, x.2.2.2.2.1⟩ : (T5 Int Int Int Int Int))) (va_cons (ve_proj (fun x : (T5 Int Int Int Int Int) => x.a) (ve_var (a := label_68) 1) ve_int) (va_cons ve_int (va_cons (ve_proj (fun x : (T5 Int Int Int Int Int) => x.c) (ve_var (a := label_68) 1) ve_int) (va_cons (ve_proj (fun x : (T5 Int Int Int Int Int) => x.d) (ve_var (a := label_68) 1) ve_int) (va_cons (ve_proj (fun x : (T5 Int Int Int Int Int) => x.e) (ve_var (a := label_68) 1) ve_int) va_nil)))))) (va_cons ve_int va_nil))) (ve_one (ve_call (G__law_refused T) hr T.d__law_refused.g T.d__law_refused.F.kp T.d__law_refused.b (va_cons (ve_tup (fun x : Int × Int × Int × Int × Int × Unit => (⟨x.1, x.2.1, x.2.2.1, x.2.2.2.1, x.2.2.2.2.1⟩ : (T5 Int Int Int Int Int))) (va_cons (ve_proj (fun x : (T5 Int Int Int Int Int) => x.a) (ve_var (a := label_68) 1) ve_int) (va_cons (ve_proj (fun x : (T5 Int Int Int Int Int) => x.b) (ve_var (a := label_68) 1) ve_int) (va_cons ve_int (va_cons ve_int (va_cons ve_int va_nil)))))) (va_cons ve_int va_nil))))) (by simp only [M.bind_assoc, M.ok_bind])) (fun r => by exact rfl) (sub_anys _)) (vs_asg (VX.congr (ve_var (a := label_68) 1) (by simp only [M.bind_assoc, M.ok_bind])) (vg_tup (fun x : (T5 Int Int Int Int Int) => (x.a, x.b, x.c, x.d, x.e, ())) rfl (vgs_cons (vg_name (α := Int) (n := 13) 5 (sc_law_first_part).nd) (vgs_cons (vg_name (α := Int) (n := 13) 6 (sc_law_first_part).nd) (vgs_cons (vg_name (α := Int) (n := 13) 7 (sc_law_first_part).nd) (vgs_cons (vg_name (α := Int) (n := 13) 8 (sc_law_first_part).nd) (vgs_cons (vg_name (α := Int) (n := 13) 9 (sc_law_first_part).nd) vgs_nil))))) (fun _ => rfl) (fun _ => rfl)) (fun t71 => (vs_set 2 (sc_law_first_part).nd (VX.congr ((vo_lst (fun x : Unit => ([] : List Int)) va_nil)).ve1 (by simp only [M.bind_assoc, M.ok_bind])) (fun seen_72 => (vs_set 3 (sc_law_first_part).nd (VX.congr (ve_div (ve_binI op_sub (ve_binI op_add (ve_var (a := t71.c) 7) (ve_var (a := t71.d) 8)) ve_int) (ve_var (a := t71.d) 8)) (by simp only [M.bind_assoc, M.ok_bind])) (fun groups_73 => (vs_for (b := (fun (s74 : (List Int)) (a75 : Int) => ((m_group_pages label_68 a75) >>= fun pages_76 => ((((chk (rOk t71.c) >>= fun _ => M.ok (rng 0 t71.c)) >>= fun x83 => lcM (fun (a81 : Int) => ((chk (CDiv a81 t71.d) >>= fun _ => M.ok (a81 / t71.d)) >>= fun x82 => M.ok (decide (x82 = a75)))) (fun (a81 : Int) => (M.ok a81)) x83) >>= fun x84 => ((chk (rOk t71.e) >>= fun _ => M.ok (rng 0 t71.e)) >>= fun x80 => lcM (fun (a77 : Int) => M.ok true) (fun (a77 : Int) => (((chk (CMul a75 t71.e) >>= fun _ => M.ok (a75 * t71.e)) >>= fun x78 => M.ok (t71.c + x78)) >>= fun x79 => M.ok (x79 + a77))) x80) >>= fun x85 => catM x84 x85) >>= fun due_86 => ((bOr ((m__law_is_list pages_76 (0 : Int) (254 : Int)) >>= fun x87 => M.ok (!x87)) (M.ok (!decide (pages_76 = due_86)))) >>= fun c89 => if c89 then (M.ok (Stp.rt false : (Stp ((List Int)) Bool))) else ((catM s74 pages_76) >>= fun seen_88 => (M.ok (Stp.nx seen_88 : (Stp ((List Int)) Bool))))))))) (k := (fun s74 : (List Int) => (((((chk (CMul groups_73 t71.e) >>= fun _ => M.ok (groups_73 * t71.e)) >>= fun x90 => M.ok (t71.c + x90)) >>= fun x91 => chk (RgOk 0 x91) >>= fun _ => M.ok (rng 0 x91)) >>= fun x92 => M.ok (!decide ((isort s74) = x92))) >>= fun c96 => if c96 then (M.ok false) else ((bAnd (m__law_refused label_68 (-(1 : Int))) (bAnd (m__law_refused label_68 groups_73) ((((m__law_cell p_script (2 : Int)) >>= fun x93 => M.ok (x93 % (1000 : Int))) >>= fun x94 => M.ok (groups_73 + x94)) >>= fun x95 => m__law_refused label_68 x95))) >>= fun r => M.ok r)))) (fun s74 : (List Int) => [sI (p_script : (List Int)), sI (label_68 : (T5 Int Int Int Int Int)), sI (s74 : (List Int)), sI (groups_73 : Int), .any, sI (t71.a : Int), sI (t71.b : Int), sI (t71.c : Int), sI (t71.d : Int), sI (t71.e : Int), .any, .any, .any]) seen_72 (passes_of rfl) rfl (VI.congr (vi_range1 T.b_range (ve_var (a := groups_73) 3)) ((by simp only [M.bind_assoc, M.ok_bind]) : _ = (chk (rOk groups_73) >>= fun _ => M.ok (rng 0 groups_73)))) (vg_name (α := Int) (n := 13) 4 (sc_law_first_part).nd) (fun s74 a75 => (vs_set 10 (sc_law_first_part).nd (VX.congr ((vo_call (G_group_pages T) (hr.mono (show 3 ≤ 4 by decide)) T.d_group_pages.g T.d_group_pages.F.kp T.d_group_pages.b (va_cons (ve_var (a := label_68) 1) (va_cons (ve_var (a := a75) 4) va_nil)))).ve1 (by simp only [M.bind_assoc, M.ok_bind])) (fun pages_76 => (vs_set 11 (sc_law_first_part).nd (VX.congr ((vo_cat ((vo_lc [("k", 12)] rfl (sc_law_first_part).nd (VI.congr (vi_range1 T.b_range (ve_var (a := t71.c) 7)) ((by simp only [M.bind_assoc, M.ok_bind]) : _ = (chk (rOk t71.c) >>= fun _ => M.ok (rng 0 t71.c)))) (blkOk_by (N := N_law_first_part) (sc := defScope s__law_first_part) (by decide +kernel)) (fun _ _ _ _ _ => (vg_name (α := Int) (n := 13) 12 (sc_law_first_part).nd)) (fun (a81 : Int) _ _ _ _ _ => ((vk_one (VT.congr (vt_eq (ve_div (ve_var (a := a81) 12) (ve_var (a := t71.d) 8)) (ve_var (a := a75) 4)) (by simp only [M.bind_assoc, M.ok_bind]))) : VK _ _ _ ((chk (CDiv a81 t71.d) >>= fun _ => M.ok (a81 / t71.d)) >>= fun x82 => M.ok (decide (x82 = a75))))) (fun (a81 : Int) _ _ _ _ _ => (VX.congr (ve_var (a := a81) 12) (by simp only [M.bind_assoc, M.ok_bind]) : VE _ _ _ (M.ok a81))))).ve1 ((vo_lc [("k", 12)] rfl (sc_law_first_part).nd (VI.congr (vi_range1 T.b_range (ve_var (a := t71.e) 9)) ((by simp only [M.bind_assoc, M.ok_bind]) : _ = (chk (rOk t71.e) >>= fun _ => M.ok (rng 0 t71.e)))) (blkOk_by (N := N_law_first_part) (sc := defScope s__law_first_part) (by decide +kernel)) (fun _ _ _ _ _ => (vg_name (α := Int) (n := 13) 12 (sc_law_first_part).nd)) (fun (a77 : Int) _ _ _ _ _ => (vk_nil : VK _ _ _ (M.ok true))) (fun (a77 : Int) _ _ _ _ _ => (VX.congr (ve_binI op_add (ve_binI op_add (ve_var (a := t71.c) 7) (ve_mul (ve_var (a := a75) 4) (ve_var (a := t71.e) 9))) (ve_var (a := a77) 12)) (by simp only [M.bind_assoc, M.ok_bind]) : VE _ _ _ (((chk (CMul a75 t71.e) >>= fun _ => M.ok (a75 * t71.e)) >>= fun x78 => M.ok (t71.c + x78)) >>= fun x79 => M.ok (x79 + a77)))))).ve1)).ve1 (by simp only [M.bind_assoc, M.ok_bind])) (fun due_86 => (vs_ifx (b := []) (VT.congr ((vw_or (vt_not (vt_val (ve_call (G__law_is_list T) (hr.mono (show 2 ≤ 4 by decide)) T.d__law_is_list.g T.d__law_is_list.F.kp T.d__law_is_list.b (va_cons (ve_var (a := pages_76) 10) (va_cons ve_int (va_cons ve_int va_nil)))))) (vw_or1 (vt_neD (by exact hr.units) (ve_var (a := pages_76) 10) (ve_var (a := due_86) 11))))).vt (by simp only [M.bind_assoc, M.ok_bind])) (vs_retp (x := false) (t := (Stp.rt false : (Stp ((List Int)) Bool))) (VX.congr ve_bl (by simp only [M.bind_assoc, M.ok_bind])) (by exact ⟨_, rfl, rfl⟩) (sub_anys _)) (vs_set 2 (sc_law_first_part).nd (VX.congr ((vo_cat (ve_var (a := s74) 2) (ve_var (a := pages_76) 10))).ve1 (by simp only [M.bind_assoc, M.ok_bind])) (fun seen_88 => (vs_nil (t := (Stp.nx seen_88 : (Stp ((List Int)) Bool))) (by exact ⟨_, rfl, (.eq (.eq (.eq (.eq (.any (.eq (.eq (.eq (.eq (.eq (.any (.any (.any .nil)))))))))))))⟩))) (sub_anys _)) (sub_anys _))) (sub_anys _))) (sub_anys _))) (fun s74 => (vs_ifx (b := []) (VT.congr (vt_neD (by exact hr.units) ((vo_sortedI T.b_sorted (ve_var (a := s74) 2))).ve1 ((vo_listR rfl T.b_list (vr_1 T.b_range (ve_binI op_add (ve_var (a := t71.c) 7) (ve_mul (ve_var (a := groups_73) 3) (ve_var (a := t71.e) 9)))))).ve1) (by simp only [M.bind_assoc, M.ok_bind])) (vs_retp (x := false) (t := false) (VX.congr ve_bl (by simp only [M.bind_assoc, M.ok_bind])) (by exact rfl) (sub_anys _)) (vs_ret (f := fun r => r) (VX.congr (ve_and (ve_call (G__law_refused T) hr T.d__law_refused.g T.d__law_refused.F.kp T.d__law_refused.b (va_cons (ve_var (a := label_68) 1) (va_cons (ve_neg ve_int) va_nil))) (ve_and (ve_call (G__law_refused T) hr T.d__law_refused.g T.d__law_refused.F.kp T.d__law_refused.b (va_cons (ve_var (a := label_68) 1) (va_cons (ve_var (a := groups_73) 3) va_nil))) (ve_one (ve_call (G__law_refused T) hr T.d__law_refused.g T.d__law_refused.F.kp T.d__law_refused.b (va_cons (ve_var (a := label_68) 1) (va_cons (ve_binI op_add (ve_var (a := groups_73) 3) (ve_modK (ve_call (G__law_cell T) (hr.mono (show 1 ≤ 4 by decide)) T.d__law_cell.g T.d__law_cell.F.kp T.d__law_cell.b (va_cons (ve_var (a := p_script) 0) (va_cons ve_int va_nil))) ve_int)) va_nil)))))) (by simp only [M.bind_assoc, M.ok_bind])) (fun r => by exact rfl) (sub_anys _)) (sub_anys _))) (by exact (.eq (.eq (.eq (.eq (.any (.eq (.eq (.eq (.eq (.eq (.any (.any (.any .nil)))))))))))))) (sub_anys _))) (sub_anys _))) (sub_anys _))) (sub_anys _)) (sub_anys _))) (sub_anys _))
theorem G_Format___init__ (T : Txt K mg a d) : FnOk P w K mg base (L2N.CX P w) 7 (a 18) (d 18) ["self", "side", "checks"] (spM K mg ((eCons (eCons eNil)) : Int × Int × Unit → List D) (fun r : Unit => O.imm (enc r)) (fun _ : Unit => O.ins "Format" []) os_Format (fun _ (x : Int × Int × Unit) => m_Format___init__ x.1 x.2.1)) := by
  refine fn_okM T.d_Format___init__.F scFormat___init__ (fun _ => rfl) fun cdv Ar outer s H E hr X hX v0 o_self x => ?_
  subst hX
  obtain ⟨p_side, p_checks, _⟩ := x
  show VS _ _ _ _ _ (m_Format___init__ p_side p_checks)
  unfold m_Format___init__
  exact (vs_ifxp (x := ((decide (p_side < (16 : Int))) || ((decide (p_side > (40 : Int))) || (!decide (p_checks ∈ k_NUMBERS_OF_CHECKS.l))))) (VT.congr ((vw_or_p (vt_cmpI op_lt (ve_var (a := p_side) 1) (ve_gint T.c_LEAST_SIDE (by rfl)) (nomark _)) (vw_or_p (vt_cmpI op_gt (ve_var (a := p_side) 1) (ve_gint T.c_GREATEST_SIDE (by rfl)) (nomark _)) (vw_or1 (vt_inNT (ve_var (a := p_checks) 2) (ve_gdat T.c_NUMBERS_OF_CHECKS (by rfl))))))).vt (by simp only [M.bind_assoc, M.ok_bind])) (vs_raiseT T.e_InvalidFormat rfl (sub_anys _)) (vs_fldNO (kk := fun v99 : Int => ((M.ok p_checks) >>= fun v100 : Int => (((nox (m_Format_capacity (⟨v99, v100⟩ : C_Format))) >>= fun x101 => M.ok (decide (x101 < (1 : Int)))) >>= fun c102 => if c102 then (M.exc ⟨"InvalidFormat", []⟩) else (M.ok ((), (⟨v99, v100⟩ : C_Format)))))) T.k_Format (by decide) (vq_pin (vq_name 0)) (by rfl) (by rfl) (by rfl) (by exact (by decide : 0 < 1000)) (VX.congr (ve_var (a := p_side) 1) ((by simp only [M.bind_assoc, M.ok_bind]) : _ = (M.ok p_side))).vo (fun v99 => (vs_fldNO (kk := fun v100 : Int => (((nox (m_Format_capacity (⟨v99, v100⟩ : C_Format))) >>= fun x101 => M.ok (decide (x101 < (1 : Int)))) >>= fun c102 => if c102 then (M.exc ⟨"InvalidFormat", []⟩) else (M.ok ((), (⟨v99, v100⟩ : C_Format))))) T.k_Format (by decide) (vq_pin (vq_name 0)) (by rfl) (by rfl) (by rfl) (by exact (by decide : 1 < 1000)) (VX.congr (ve_var (a := p_checks) 2) ((by simp only [M.bind_assoc, M.ok_bind]) : _ = (M.ok p_checks))).vo (fun v100 => (vs_ifx (b := []) (VT.congr (vt_cmpI op_lt (VX.congr (ve_propB (fs := fs_Format) T.d_Format_capacity.m (G_Format_capacity T) hr T.d_Format_capacity.b (vb_at (a := (⟨v99, v100⟩ : C_Format)) (vq_pin (vq_name 0)) (by rfl) (by rfl) (os_Format_toD _)) (fun _ => rfl)) ((by simp only [M.bind_assoc, M.ok_bind]) : _ = nox (m_Format_capacity (⟨v99, v100⟩ : C_Format)))) ve_int (nomark _)) (by simp only [M.bind_assoc, M.ok_bind])) (vs_raiseT T.e_InvalidFormat rfl (sub_anys _)) (vs_nil (t := ((), (⟨v99, v100⟩ : C_Format))) (by exact ⟨rfl, rfl⟩)) (sub_anys _))) (sub_anys _))) (sub_anys _)) (sub_anys _))
theorem G__law_second_part (T : Txt K mg a d) : FnOk P w K mg base (L2N.CX P w) 9 (a 19) (d 19) ["script"] (spF K mg ((eCons eNil) : (List Int) × Unit → List D) (fun r : Bool => O.imm (enc r)) (fun x : (List Int) × Unit => m__law_second_part x.1)) := by
  refine fn_ok T.d__law_second_part.F sc_law_second_part (fun _ => rfl) fun cdv Ar outer s H E hr X hX x => ?_
  subst hX
  obtain ⟨p_script, _⟩ := x
  show VS _ _ _ _ _ (m__law_second_part p_script)
  unfold m__law_second_part
  exact (vs_asg (VX.congr (ve_call (G__law_form T) (hr.mono (show 1 ≤ 8 by decide)) T.d__law_form.g T.d__law_form.F.kp T.d__law_form.b (va_cons (ve_call (G__law_cell T) (hr.mono (show 1 ≤ 8 by decide)) T.d__law_cell.g T.d__law_cell.F.kp T.d__law_cell.b (va_cons (ve_var (a := p_script) 0) (va_cons ve_int va_nil))) va_nil)) (by simp only [M.bind_assoc, M.ok_bind])) (vg_tup (fun x : (Int × Int) => (x.1, x.2, ())) rfl (vgs_cons (vg_name (α := Int) (n := 9) 5 (sc_law_second_part).nd) (vgs_cons (vg_name (α := Int) (n := 9) 6 (sc_law_second_part).nd) vgs_nil)) (fun _ => rfl) (fun _ => rfl)) (fun t104 => (vs_set 1 (sc_law_second_part).nd (VX.congr (((VO.congr (vo_snd (vo_make T.d_Format___init__.m (G_Format___init__ T) hr T.d_Format___init__.b (va_cons (ve_var (a := t104.1) 5) (va_cons (ve_var (a := t104.2) 6) va_nil)))) ((by simp only [M.bind_assoc, M.ok_bind]) : _ = ((m_Format___init__ t104.1 t104.2) >>= fun r => M.ok r.2)))).ve os_Format_toD) (by simp only [M.bind_assoc, M.ok_bind])) (fun form_105 => (vs_set 2 (sc_law_second_part).nd (VX.congr (ve_mulL ve_int (ve_call (G__law_words T) (hr.mono (show 1 ≤ 8 by decide)) T.d__law_words.g T.d__law_words.F.kp T.d__law_words.b (va_cons (ve_var (a := t104.1) 5) va_nil))) (by simp only [M.bind_assoc, M.ok_bind])) (fun count_107 => (vs_ifx (b := []) (VT.congr (vt_eq (ve_modK (ve_call (G__law_cell T) (hr.mono (show 1 ≤ 8 by decide)) T.d__law_cell.g T.d__law_cell.F.kp T.d__law_cell.b (va_cons (ve_var (a := p_script) 0) (va_cons ve_int va_nil))) ve_int) ve_int) (by simp only [M.bind_assoc, M.ok_bind])) (vs_ret (f := fun r => r) (VX.congr (ve_and (ve_call (G__law_refused_too T) (hr.mono (show 4 ≤ 8 by decide)) T.d__law_refused_too.g T.d__law_refused_too.F.kp T.d__law_refused_too.b (va_cons (ve_var (a := form_105) 1) (va_cons (ve_binI op_sub (ve_neg ve_int) (ve_modK (ve_divK (ve_call (G__law_cell T) (hr.mono (show 1 ≤ 8 by decide)) T.d__law_cell.g T.d__law_cell.F.kp T.d__law_cell.b (va_cons (ve_var (a := p_script) 0) (va_cons ve_int va_nil))) ve_int) ve_int)) va_nil))) (ve_one (ve_call (G__law_refused_too T) (hr.mono (show 4 ≤ 8 by decide)) T.d__law_refused_too.g T.d__law_refused_too.F.kp T.d__law_refused_too.b (va_cons (ve_var (a := form_105) 1) (va_cons (ve_binI op_add (ve_var (a := count_107) 2) (ve_modK (ve_divK (ve_call (G__law_cell T) (hr.mono (show 1 ≤ 8 by decide)) T.d__law_cell.g T.d__law_cell.F.kp T.d__law_cell.b (va_cons (ve_var (a := p_script) 0) (va_cons ve_int va_nil))) ve_int) ve_int)) va_nil))))) (by simp only [M.bind_assoc, M.ok_bind])) (fun r => by exact rfl) (sub_anys _)) (vs_dtnew 3 (sc_law_second_part).nd (fun a118 => (vs_for (b := (fun (s119 : DT) (a120 : Int) => ((m_place_cells form_105 a120) >>= fun cells_121 => ((bOr (M.ok (!true)) ((m__law_place t104.1 a120) >>= fun x122 => M.ok (!decide (cells_121 = x122)))) >>= fun c128 => if c128 then (M.ok (Stp.rt false : (Stp (DT) Bool))) else ((loopM (fun (s123 : DT) (a124 : (Int × Int)) => (if ((!true) || ((DT.has s123 a124) || ((decide ((if a124.2 < a124.1 then a124.2 else a124.1) < (2 : Int))) || (decide ((if a124.2 > a124.1 then a124.2 else a124.1) > (t104.1 - (3 : Int))))))) then (M.ok (Stp.rt (Stp.rt false : (Stp (DT) Bool)) : (Stp (DT) (Stp (DT) Bool)))) else (chk (s123.l.length < sizeLine) >>= fun _ => (fun d125 : DT => (M.ok (Stp.nx d125 : (Stp (DT) (Stp (DT) Bool))))) (DT.put s123 a124 true)))) cells_121 s119 : (M (Stp (DT) (Stp (DT) Bool)))) >>= fun r => r.on (fun s123 : DT => (M.ok (Stp.nx s123 : (Stp (DT) Bool))))))))) (k := (fun s119 : DT => (M.ok (decide (((s119.l.length : Nat) : Int) = ((4 : Int) * count_107)))))) (fun s119 : DT => [sI (p_script : (List Int)), sI (form_105 : C_Format), sI (count_107 : Int), .val ((odt a118) (s119 : DT)), .any, sI (t104.1 : Int), sI (t104.2 : Int), .any, .any]) (⟨[]⟩ : DT) (passes_of rfl) rfl (VI.congr (vi_range1 T.b_range (ve_var (a := count_107) 2)) ((by simp only [M.bind_assoc, M.ok_bind]) : _ = (chk (rOk count_107) >>= fun _ => M.ok (rng 0 count_107)))) (vg_name (α := Int) (n := 9) 4 (sc_law_second_part).nd) (fun s119 a120 => (vs_set 7 (sc_law_second_part).nd (VX.congr ((vo_call (G_place_cells T) (hr.mono (show 3 ≤ 8 by decide)) T.d_place_cells.g T.d_place_cells.F.kp T.d_place_cells.b (va_cons (ve_var (a := form_105) 1) (va_cons (ve_var (a := a120) 4) va_nil)))).ve1 (by simp only [M.bind_assoc, M.ok_bind])) (fun cells_121 => (vs_ifx (b := []) (VT.congr ((vw_or (vt_not (vt_val (ve_isiS (n := "list") "list" true T.b_isinstance T.b_list (ve_var (a := cells_121) 7) (fun _ => rfl) (by decide +kernel)))) (vw_or1 (vt_neD (by exact hr.units) (ve_var (a := cells_121) 7) ((vo_call (G__law_place T) (hr.mono (show 1 ≤ 8 by decide)) T.d__law_place.g T.d__law_place.F.kp T.d__law_place.b (va_cons (ve_var (a := t104.1) 5) (va_cons (ve_var (a := a120) 4) va_nil)))).ve1)))).vt (by simp only [M.bind_assoc, M.ok_bind])) (vs_retp (x := false) (t := (Stp.rt false : (Stp (DT) Bool))) (VX.congr ve_bl (by simp only [M.bind_assoc, M.ok_bind])) (by exact ⟨_, rfl, rfl⟩) (sub_anys _)) (vs_forP (b := (fun (s123 : DT) (a124 : (Int × Int)) => (if ((!true) || ((DT.has s123 a124) || ((decide ((if a124.2 < a124.1 then a124.2 else a124.1) < (2 : Int))) || (decide ((if a124.2 > a124.1 then a124.2 else a124.1) > (t104.1 - (3 : Int))))))) then (M.ok (Stp.rt (Stp.rt false : (Stp (DT) Bool)) : (Stp (DT) (Stp (DT) Bool)))) else (chk (s123.l.length < sizeLine) >>= fun _ => (fun d125 : DT => (M.ok (Stp.nx d125 : (Stp (DT) (Stp (DT) Bool))))) (DT.put s123 a124 true))))) (k := (fun s123 : DT => (M.ok (Stp.nx s123 : (Stp (DT) Bool))))) cells_121 (fun s123 : DT => [sI (p_script : (List Int)), sI (form_105 : C_Format), sI (count_107 : Int), .val ((odt a118) (s123 : DT)), sI (a120 : Int), sI (t104.1 : Int), sI (t104.2 : Int), sI (cells_121 : (List (Int × Int))), .any]) s119 (passes_of rfl) rfl (VI.congr (vi_list (ve_var (a := cells_121) 7)) ((by simp only [M.bind_assoc, M.ok_bind]) : _ = M.ok cells_121)) (vg_name (α := (Int × Int)) (n := 9) 8 (sc_law_second_part).nd) (fun s123 a124 => (vs_ifxp (x := ((!true) || ((DT.has s123 a124) || ((decide ((if a124.2 < a124.1 then a124.2 else a124.1) < (2 : Int))) || (decide ((if a124.2 > a124.1 then a124.2 else a124.1) > (t104.1 - (3 : Int)))))))) (VT.congr ((vw_or_p (vt_not (vt_val (ve_isiS (n := "tuple") "tuple" true T.b_isinstance T.b_tuple (ve_var (a := a124) 8) (fun _ => rfl) (by decide +kernel)))) (vw_or_p (vt_dtin (d := (s123 : DT)) T.t_2 (by exact hr.units) (ve_var (a := a124) 8) (vq_name 3) (by rfl)) (vw_or_p (vt_cmpI op_lt (ve_minP rfl T.b_min (ve_var (a := a124) 8)) ve_int (nomark _)) (vw_or1 (vt_cmpI op_gt (ve_maxP rfl T.b_max (ve_var (a := a124) 8)) (ve_binI op_sub (ve_var (a := t104.1) 5) ve_int) (nomark _))))))).vt (by simp only [M.bind_assoc, M.ok_bind])) (vs_retp (x := false) (t := (Stp.rt (Stp.rt false : (Stp (DT) Bool)) : (Stp (DT) (Stp (DT) Bool)))) (VX.congr ve_bl (by simp only [M.bind_assoc, M.ok_bind])) (by exact ⟨_, rfl, ⟨_, rfl, rfl⟩⟩) (sub_anys _)) (vs_dtput (d := (s123 : DT)) (kk := fun d125 : DT => (M.ok (Stp.nx d125 : (Stp (DT) (Stp (DT) Bool))))) T.t_2 (by exact hr.units) (vq_name 3) (by rfl) (VX.congr ve_bl ((by simp only [M.bind_assoc, M.ok_bind]) : _ = (M.ok true))) (VX.congr (ve_var (a := a124) 8) ((by simp only [M.bind_assoc, M.ok_bind]) : _ = (M.ok a124))) (fun d125 => (vs_nil (t := (Stp.nx d125 : (Stp (DT) (Stp (DT) Bool)))) (by exact ⟨_, rfl, (.eq (.eq (.eq (.eq (.eq (.eq (.eq (.eq (.any .nil)))))))))⟩))) (sub_anys _)) (sub_anys _))) (fun s123 => (vs_nil (t := (Stp.nx s123 : (Stp (DT) Bool))) (by exact ⟨_, rfl, (.eq (.eq (.eq (.eq (.any (.eq (.eq (.any (.any .nil)))))))))⟩))) (by exact (.eq (.eq (.eq (.eq (.eq (.eq (.eq (.eq (.any .nil)))))))))) (sub_anys _)) (sub_anys _))) (sub_anys _))) (fun s119 => (vs_retp (x := (decide (((s119.l.length : Nat) : Int) = ((4 : Int) * count_107)))) (t := (decide (((s119.l.length : Nat) : Int) = ((4 : Int) * count_107)))) (VX.congr (ve_eq (ve_dtlen (d := (s119 : DT)) T.b_len (vq_name 3) (by rfl)) (ve_mulL ve_int (ve_var (a := count_107) 2))) (by simp only [M.bind_assoc, M.ok_bind])) (by exact rfl) (sub_anys _))) (by exact (.eq (.eq (.eq (.eq (.any (.eq (.eq (.any (.any .nil)))))))))) (sub_anys _)))) (sub_anys _))) (sub_anys _))) (sub_anys _))) (sub_anys _))
theorem G_law (T : Txt K mg a d) : FnOk P w K mg base (L2N.CX P w) 10 (a 20) (d 20) ["script"] (spF K mg ((eCons eNil) : (List Int) × Unit → List D) (fun r : Bool => O.imm (enc r)) (fun x : (List Int) × Unit => m_law x.1)) := by
  refine fn_ok T.d_law.F sclaw (fun _ => rfl) fun cdv Ar outer s H E hr X hX x => ?_
  subst hX
  obtain ⟨p_script, _⟩ := x
  show VS _ _ _ _ _ (m_law p_script)
  unfold m_law
  exact (vs_ret (f := fun r => r) (VX.congr (ve_and (ve_call (G__law_first_part T) (hr.mono (show 5 ≤ 9 by decide)) T.d__law_first_part.g T.d__law_first_part.F.kp T.d__law_first_part.b (va_cons (ve_var (a := p_script) 0) va_nil)) (ve_one (ve_call (G__law_second_part T) hr T.d__law_second_part.g T.d__law_second_part.F.kp T.d__law_second_part.b (va_cons (ve_var (a := p_script) 0) va_nil)))) (by simp only [M.bind_assoc, M.ok_bind])) (fun r => by exact rfl) (sub_anys _))
end
end Q

set_option Elab.async false
set_option linter.all false
set_option maxRecDepth 100000
namespace Q
open PySem PySem.Spec PyProof.Rows L2 Vc
abbrev L5 := T5 Int Int Int Int Int
theorem lt24 {n : Nat} (h : n < 2 ^ 24) : n < sizeLine := h
theorem cell_ok (ns : List Int) (k : Nat) : m__law_cell ns (k : Int) = .ok (scell ns k) := by
  unfold m__law_cell scell
  by_cases h : k < ns.length
  · rw [if_pos (by simpa using h), getI_lt h, M.ok_bind, List.getD_eq_getElem?_getD, List.getElem?_eq_getElem h]
    rfl
  · rw [if_neg (by simpa using h), List.getD_eq_getElem?_getD, List.getElem?_eq_none (by omega)]
    rfl
theorem cell_lit (ns : List Int) (k : Nat) (z : Int) (h : z = (k : Int)) : m__law_cell ns z = .ok (scell ns k) := by rw [h, cell_ok]
theorem modk (z : Int) (k : Nat) (hk : 0 < k) : ∃ n : Nat, z % (k : Int) = (n : Int) ∧ n < k := by
  have h1 := Int.emod_nonneg z (show (k : Int) ≠ 0 by omega)
  have h2 := Int.emod_lt_of_pos z (show 0 < (k : Int) by omega)
  exact ⟨(z % (k : Int)).toNat, by omega, by omega⟩
def val (l : L5) : Prop := 0 ≤ l.a ∧ l.a ≤ 255 ∧ 1 ≤ l.c ∧ l.c ≤ 255 ∧ 1 ≤ l.d ∧ l.d ≤ 12 ∧ 0 ≤ l.e ∧ l.e ≤ 16 - l.d
def npg (l : L5) : Int := l.c + (l.c + l.d - 1) / l.d * l.e
def fine (l : L5) : Prop := npg l ≤ 255 ∧ 0 ≤ l.b ∧ l.b < npg l
instance (l : L5) : Decidable (val l) := by unfold val; infer_instance
instance (l : L5) : Decidable (fine l) := by unfold fine; infer_instance
theorem npg_pos {l : L5} (h : val l) : 1 ≤ npg l := by
  obtain ⟨h1, h2, h3, h4, h5, h6, h7, h8⟩ := h
  unfold npg
  have : 0 ≤ (l.c + l.d - 1) / l.d := Int.ediv_nonneg (by omega) (by omega)
  have := Int.mul_nonneg this h7
  omega
theorem check_ok (l : L5) : m_check_label l = if val l ∧ fine l then .ok (npg l) else .exc ⟨"InvalidLabel", []⟩ := by
  unfold m_check_label
  rw [M.ok_bind]
  by_cases hv : val l
  · have hv' := hv
    obtain ⟨h1, h2, h3, h4, h5, h6, h7, h8⟩ := hv'
    rw [if_neg (by simp; omega), if_neg (by simp; omega)]
    unfold m_group_count
    rw [chk_ok ⟨by omega, by omega⟩, M.ok_bind, M.ok_bind, M.ok_bind, chk_ok (.inr ⟨by omega, by omega⟩), M.ok_bind, M.ok_bind, M.ok_bind]
    show (if (decide (npg l > 255) || (decide (l.b < 0) || decide (l.b ≥ npg l))) = true then M.exc ⟨"InvalidLabel", []⟩ else M.ok (npg l)) = _
    by_cases hf : fine l
    · rw [if_neg (by obtain ⟨f1, f2, f3⟩ := hf; simp; omega), if_pos ⟨hv, hf⟩]
    · rw [if_pos (by unfold fine at hf; simp; omega), if_neg (fun z => hf z.2)]
  · rw [if_neg (fun z : val l ∧ fine l => hv z.1)]
    by_cases h1 : (decide (l.a < 0) || (decide (l.a > 255) || (decide (l.c < 1) || decide (l.c > 255)))) = true
    · rw [if_pos h1]
    · rw [if_neg h1, if_pos (by unfold val at hv; simp at h1 ⊢; omega)]
theorem label_ok (c : Int) : ∃ l, m__law_label c = .ok l ∧ val l ∧ fine l := by
  unfold m__law_label
  obtain ⟨s, hs, hs'⟩ := modk c 12 (by decide)
  rw [show c % 12 = (s : Int) from hs, M.ok_bind, chk_ok (by omega), M.ok_bind, M.ok_bind]
  obtain ⟨k, hk, hk'⟩ := modk (c / 12) (16 - s) (by omega)
  rw [show (17 : Int) - (1 + (s : Int)) = ((16 - s : Nat) : Int) by omega, hk]
  obtain ⟨k2, h2, hk2⟩ : ∃ k2 : Nat, (if decide (c / 204 % 3 > 0) = true then M.ok ((k : Int) % 4) >>= fun x => M.ok x else M.ok (k : Int)) = .ok (k2 : Int) ∧ k2 < 16 - s := by
    split
    · exact ⟨k % 4, by rw [M.ok_bind]; congr 1, by omega⟩
    · exact ⟨k, rfl, by omega⟩
  rw [h2, M.ok_bind]
  obtain ⟨d, hd, hd'⟩ := modk (c / 612) 60 (by decide)
  rw [show c / 612 % 60 = (d : Int) from hd, M.ok_bind, chk_ok ⟨by omega, by omega⟩, M.ok_bind, M.ok_bind, chk_ok (.inr ⟨by omega, by omega⟩), M.ok_bind, M.ok_bind, M.ok_bind]
  have hp : 0 ≤ (1 + (d : Int) + (1 + (s : Int)) - 1) / (1 + (s : Int)) * (k2 : Int) := Int.mul_nonneg (Int.ediv_nonneg (by omega) (by omega)) (by omega)
  generalize hq : (1 + (d : Int) + (1 + (s : Int)) - 1) / (1 + (s : Int)) * (k2 : Int) = q at hp ⊢
  obtain ⟨p1, p2, h3, hpos, hp0, hp1, hp2, hp3⟩ : ∃ p1 p2 : Int, (if decide (1 + (d : Int) + q > 255) = true then M.ok (1 : Int) >>= fun data_15 => M.ok ((1 : Int) + (k2 : Int)) >>= fun pages_16 => M.ok (data_15, pages_16) else M.ok (1 + (d : Int), 1 + (d : Int) + q)) = .ok (p1, p2) ∧ 0 < p2 ∧ p2 ≤ 255 ∧ 1 ≤ p1 ∧ p1 ≤ 255 ∧ p1 + (p1 + (1 + (s : Int)) - 1) / (1 + (s : Int)) * (k2 : Int) = p2 := by
    split
    · refine ⟨1, 1 + (k2 : Int), rfl, by omega, by omega, by omega, by omega, ?_⟩
      rw [show (1 : Int) + (1 + (s : Int)) - 1 = 1 + (s : Int) by omega, Int.ediv_self (by omega), Int.one_mul]
    · next h => exact ⟨_, _, rfl, by omega, by simp at h; omega, by omega, by omega, by rw [hq]⟩
  rw [h3, M.ok_bind]
  dsimp only
  rw [chk_ok hpos, M.ok_bind, M.ok_bind]
  have hm0 := Int.emod_nonneg (c / 36720) (show p2 ≠ 0 by omega)
  have hm1 := Int.emod_lt_of_pos (c / 36720) (show 0 < p2 by omega)
  exact ⟨_, rfl, ⟨by show 0 ≤ c / 9363600 % 256; omega, by show c / 9363600 % 256 ≤ 255; omega, hp1, hp2, by show 1 ≤ 1 + (s : Int); omega, by show 1 + (s : Int) ≤ 12; omega, by show 0 ≤ (k2 : Int); omega, by show (k2 : Int) ≤ 16 - (1 + (s : Int)); omega⟩, by show npg _ ≤ 255; unfold npg; simp only [hp3]; exact hp0, hm0, by show _ < npg _; unfold npg; simp only [hp3]; exact hm1⟩
def ncw (n : Nat) : Nat := (n - 4) * (n - 4) / 64
theorem ncw_rng {n : Nat} (hn : 16 ≤ n) (hn2 : n ≤ 40) : 2 ≤ ncw n ∧ ncw n ≤ 20 ∧ 64 * ncw n ≤ (n - 4) * (n - 4) ∧ (n - 4) * (n - 4) ≤ 1296 := by
  unfold ncw
  have h1 : 12 * 12 ≤ (n - 4) * (n - 4) := Nat.mul_le_mul (by omega) (by omega)
  have h2 : (n - 4) * (n - 4) ≤ 36 * 36 := Nat.mul_le_mul (by omega) (by omega)
  omega
theorem sq_int {n : Nat} (hn : 16 ≤ n) : ((n : Int) - 4) * ((n : Int) - 4) = (((n - 4) * (n - 4) : Nat) : Int) := by
  rw [show (n : Int) - 4 = ((n - 4 : Nat) : Int) by omega]
  exact (Int.natCast_mul ..).symm
theorem cws_ok {n : Nat} {ch : Int} (hn : 16 ≤ n) (hn2 : n ≤ 40) : m_Format_codewords ⟨(n : Int), ch⟩ = .ok ((ncw n : Nat) : Int) := by
  unfold m_Format_codewords
  dsimp only
  rw [M.ok_bind, show (n : Int) - (2 : Int) * 2 = (n : Int) - 4 by omega, chk_ok (.inr (by omega)), M.ok_bind, M.ok_bind, sq_int hn, chk_ok ⟨by decide, by decide⟩, M.ok_bind, M.ok_bind]
  refine congrArg M.ok ?_
  show (((n - 4) * (n - 4) : Nat) : Int) / ((64 : Nat) : Int) = _
  rw [← Int.natCast_ediv]
  rfl
theorem lwords_ok {n : Nat} (hn : 16 ≤ n) (hn2 : n ≤ 40) : m__law_words (n : Int) = .ok ((ncw n : Nat) : Int) := by
  unfold m__law_words
  rw [chk_ok (.inr (by omega)), M.ok_bind, M.ok_bind, sq_int hn, M.ok_bind]
  refine congrArg M.ok ?_
  show (((n - 4) * (n - 4) : Nat) : Int) / ((64 : Nat) : Int) = _
  rw [← Int.natCast_ediv]
  rfl
def e2 (p : Nat × Nat) : Int × Int := ((p.1 : Int), (p.2 : Int))
theorem rng_from {a b : Nat} : rng (a : Int) (b : Int) = (List.range (b - a)).map fun i : Nat => ((a + i : Nat) : Int) := by
  unfold rng
  rw [show ((b : Int) - (a : Int)).toNat = b - a by omega]
  exact List.map_congr_left fun i _ => by omega
def plc (n p : Nat) : List (Int × Int) := (List.range 4).map fun k => e2 (2 + (4 * p + k) / (n - 4), 2 + (4 * p + k) % (n - 4))
theorem lplace_ok {n p : Nat} (hn : 16 ≤ n) (hn2 : n < 1000) (hs : p < 100000) : m__law_place (n : Int) (p : Int) = .ok (plc n p) := by
  unfold m__law_place
  rw [M.ok_bind, show (n : Int) - 4 = ((n - 4 : Nat) : Int) by omega, show (4 : Int) * (p : Int) = ((4 * p : Nat) : Int) by omega, show ((4 * p : Nat) : Int) + 4 = ((4 * p + 4 : Nat) : Int) by omega, chk_ok ⟨rOk_nat (by omega), rOk_nat (by omega)⟩, M.ok_bind, M.ok_bind, rng_from, show 4 * p + 4 - 4 * p = 4 by omega]
  rw [lcM_map (h := fun a : Int => ((2 : Int) + a / ((n - 4 : Nat) : Int), (2 : Int) + a % ((n - 4 : Nat) : Int))) (by simp) (fun a ha => ?_), M.ok_bind, List.map_map]
  · refine congrArg M.ok (List.map_congr_left fun k _ => ?_)
    show ((2 : Int) + ((4 * p + k : Nat) : Int) / ((n - 4 : Nat) : Int), (2 : Int) + ((4 * p + k : Nat) : Int) % ((n - 4 : Nat) : Int)) = _
    unfold e2
    rw [← Int.natCast_ediv, ← Int.natCast_emod]
    rfl
  · rw [chk_ok (show CDiv a ((n - 4 : Nat) : Int) from ⟨by omega, by omega⟩), M.ok_bind, M.ok_bind, chk_ok (by omega), M.ok_bind, M.ok_bind, M.ok_bind, M.ok_bind]
theorem cell_in {n p k : Nat} (hn : 16 ≤ n) (hs : 4 * p + 4 ≤ (n - 4) * (n - 4)) (hk : k < 4) : 2 ≤ 2 + (4 * p + k) / (n - 4) ∧ 2 + (4 * p + k) / (n - 4) ≤ n - 3 ∧ 2 ≤ 2 + (4 * p + k) % (n - 4) ∧ 2 + (4 * p + k) % (n - 4) ≤ n - 3 := by
  have h1 : (4 * p + k) % (n - 4) < n - 4 := Nat.mod_lt _ (by omega)
  have h2 : (4 * p + k) / (n - 4) < n - 4 := Nat.div_lt_of_lt_mul (by omega)
  generalize (4 * p + k) / (n - 4) = f at h2 ⊢
  generalize (4 * p + k) % (n - 4) = g at h1 ⊢
  omega
theorem nox_ok {α : Type} (a : α) : nox (.ok a : M α) = .ok a := rfl
theorem dsy_ok {n : Int} {ds ch : Nat} (hd : ds + ch = 16) : m_Format_data_symbols ⟨n, (ch : Int)⟩ = .ok (ds : Int) := by unfold m_Format_data_symbols; exact congrArg M.ok (by show (16 : Int) - (ch : Int) = _; omega)
theorem bsz_ok {n ds ch : Nat} (hn : 16 ≤ n) (hn2 : n ≤ 40) (hd : ds + ch = 16) : m_Format_body_size ⟨(n : Int), (ch : Int)⟩ = .ok (((ncw n - 1) * ds : Nat) : Int) := by
  obtain ⟨w1, w2, w3, w4⟩ := ncw_rng hn hn2
  unfold m_Format_body_size
  rw [cws_ok hn hn2, dsy_ok hd]
  show ((M.ok ((ncw n : Nat) : Int) >>= fun x364 => M.ok (x364 - (1 : Int))) >>= fun x365 => (M.ok (ds : Int)) >>= fun x366 => chk (CMul x365 x366) >>= fun _ => M.ok (x365 * x366)) >>= _ = _
  rw [M.ok_bind, M.ok_bind, M.ok_bind, chk_ok (.inr (by omega)), M.ok_bind, M.ok_bind, show ((ncw n : Nat) : Int) - 1 = ((ncw n - 1 : Nat) : Int) by omega, ← Int.natCast_mul]
theorem init_ok {n ds ch : Nat} (hn : 16 ≤ n) (hn2 : n ≤ 40) (hd : ds + ch = 16) (hch : ch = 2 ∨ ch = 4 ∨ ch = 6 ∨ ch = 8) (hs : 18 ≤ n ∨ ch ≤ 4) : m_Format___init__ (n : Int) (ch : Int) = .ok ((), ⟨(n : Int), (ch : Int)⟩) := by
  have hb : 12 ≤ (ncw n - 1) * ds := by
    obtain ⟨w1, w2, w3, w4⟩ := ncw_rng hn hn2
    rcases hs with h | h
    · have h1 : 14 * 14 ≤ (n - 4) * (n - 4) := Nat.mul_le_mul (by omega) (by omega)
      have h3 : 3 ≤ ncw n := by unfold ncw; omega
      have : 2 * 8 ≤ (ncw n - 1) * ds := Nat.mul_le_mul (by omega) (by omega)
      omega
    · have : 1 * 12 ≤ (ncw n - 1) * ds := Nat.mul_le_mul (by omega) (by omega)
      omega
  unfold m_Format___init__
  rw [if_neg (by
    rw [Bool.or_eq_true, Bool.or_eq_true, decide_eq_true_iff, decide_eq_true_iff, Bool.not_eq_true', decide_eq_false_iff_not]
    rintro (h | h | h)
    · omega
    · omega
    · refine h ?_
      rcases hch with rfl | rfl | rfl | rfl <;> decide), M.ok_bind, M.ok_bind]
  unfold m_Format_capacity
  rw [bsz_ok hn hn2 hd, nox_ok, M.ok_bind, M.ok_bind, M.ok_bind, nox_ok, M.ok_bind, M.ok_bind, if_neg (by simp; omega)]
theorem form_ok (c : Int) : ∃ n ch : Nat, m__law_form c = .ok ((n : Int), (ch : Int)) ∧ 16 ≤ n ∧ n ≤ 40 ∧ (ch = 2 ∨ ch = 4 ∨ ch = 6 ∨ ch = 8) ∧ (18 ≤ n ∨ ch ≤ 4) := by
  unfold m__law_form
  obtain ⟨a, ha, ha'⟩ := modk c 7 (by decide)
  obtain ⟨b, hb, hb'⟩ := modk (c / 7) 4 (by decide)
  obtain ⟨d, hd, hd'⟩ := modk (c / 1120) 18 (by decide)
  rw [show c % 7 = (a : Int) from ha, show c / 7 % 4 = (b : Int) from hb, show c / 1120 % 18 = (d : Int) from hd, M.ok_bind, M.ok_bind]
  obtain ⟨ch, e1, h1, h2⟩ : ∃ ch : Nat, (if (decide ((16 : Int) + (a : Int) < 18) && decide ((2 : Int) + 2 * (b : Int) > 4)) = true then (M.ok ((2 : Int) + 2 * (b : Int) - 4) >>= fun x => M.ok x) else M.ok ((2 : Int) + 2 * (b : Int))) = .ok (ch : Int) ∧ (ch = 2 ∨ ch = 4 ∨ ch = 6 ∨ ch = 8) ∧ (2 ≤ a ∨ ch ≤ 4) := by
    split
    · next h =>
      rw [Bool.and_eq_true, decide_eq_true_iff, decide_eq_true_iff] at h
      exact ⟨2 + 2 * b - 4, by rw [M.ok_bind]; congr 1; omega, by omega, by omega⟩
    · next h =>
      rw [Bool.and_eq_true, decide_eq_true_iff, decide_eq_true_iff] at h
      exact ⟨2 + 2 * b, by congr 1, by omega, by omega⟩
  rw [e1, M.ok_bind]
  split
  · rw [M.ok_bind, M.ok_bind]
    exact ⟨23 + d, ch, by rw [show ((23 + d : Nat) : Int) = 23 + (d : Int) by omega], by omega, by omega, h1, by omega⟩
  · rw [M.ok_bind]
    exact ⟨16 + a, ch, by rw [show ((16 + a : Nat) : Int) = 16 + (a : Int) by omega], by omega, by omega, h1, by omega⟩
end Q

set_option Elab.async false
set_option linter.all false
set_option maxRecDepth 100000
namespace Q
open PySem PySem.Spec PyProof.Rows L2 Vc
/-! ### loops that go on -/
theorem loopM_nx {S τ : Type} {f : S → Int → M (Stp S τ)} {n : Nat} (P : Nat → S → Prop) {s : S} (h0 : P 0 s) (hs : ∀ i, i < n → ∀ s, P i s → ∃ s', f s (i : Int) = .ok (.nx s') ∧ P (i + 1) s') : ∃ s', loopM f ((List.range n).map fun i : Nat => (i : Int)) s = .ok (.nx s') ∧ P n s' := by
  have : ∀ k, ∀ s, k ≤ n → P (n - k) s → ∃ s', loopM f (((List.range k).map fun i => n - k + i).map fun i : Nat => (i : Int)) s = .ok (.nx s') ∧ P n s' := by
    intro k
    induction k with
    | zero => intro s _ h; exact ⟨s, rfl, h⟩
    | succ k ih =>
      intro s hk h
      obtain ⟨s1, e1, h1⟩ := hs (n - (k + 1)) (by omega) s h
      obtain ⟨s2, e2, h2⟩ := ih s1 (by omega) (by rw [show n - k = n - (k + 1) + 1 by omega]; exact h1)
      refine ⟨s2, ?_, h2⟩
      rw [List.range_succ_eq_map, List.map_cons, List.map_cons, loopM_cons, Nat.add_zero, e1, M.ok_bind]
      dsimp only
      rw [← e2, List.map_map, List.map_map, List.map_map]
      refine congrArg (fun l => loopM f l s1) (List.map_congr_left fun i _ => ?_)
      show ((n - (k + 1) + (i + 1) : Nat) : Int) = ((n - k + i : Nat) : Int)
      omega
  obtain ⟨s', e, h⟩ := this n s (Nat.le_refl _) (by rw [Nat.sub_self]; exact h0)
  refine ⟨s', ?_, h⟩
  rw [← e]
  refine congrArg (fun l : List Nat => loopM f (l.map fun i : Nat => (i : Int)) s) ?_
  rw [Nat.sub_self]
  exact (List.map_id' _).symm.trans (List.map_congr_left fun i _ => (Nat.zero_add i).symm)
/-! ### ranges -/
theorem rng_app {a b c : Nat} (h1 : a ≤ b) (h2 : b ≤ c) : rng (a : Int) (b : Int) ++ rng (b : Int) (c : Int) = rng (a : Int) (c : Int) := by
  rw [rng_from, rng_from, rng_from, show c - a = (b - a) + (c - b) by omega, List.range_add, List.map_append, List.map_map]
  refine congrArg _ (List.map_congr_left fun i _ => ?_)
  show ((b + i : Nat) : Int) = ((a + (b - a + i) : Nat) : Int)
  omega
theorem rng_srt (a b : Nat) : (rng (a : Int) (b : Int)).Pairwise (· ≤ ·) := by
  rw [rng_from, List.pairwise_map]
  exact List.Pairwise.imp (fun h => by omega) List.pairwise_lt_range
theorem rng_mem {a b : Nat} {x : Int} (h : x ∈ rng (a : Int) (b : Int)) : (a : Int) ≤ x ∧ x < (b : Int) := by
  rw [rng_from, List.mem_map] at h
  obtain ⟨i, hi, rfl⟩ := h
  have := List.mem_range.mp hi
  omega
theorem rng_len (a b : Nat) : (rng (a : Int) (b : Int)).length = b - a := by rw [rng_from, List.length_map, List.length_range]
/-- the numbers of a group -/
theorem flt_grp {N sz g : Nat} (hs : 0 < sz) (h : g * sz ≤ N) : (rng 0 (N : Int)).filter (fun a => decide (a / (sz : Int) = (g : Int))) = rng ((g * sz : Nat) : Int) ((min N ((g + 1) * sz) : Nat) : Int) := by
  have hsz : (g + 1) * sz = g * sz + sz := Nat.succ_mul g sz
  have h1 := rng_app (a := 0) (b := g * sz) (c := N) (Nat.zero_le _) h
  have h2 := rng_app (a := g * sz) (b := min N ((g + 1) * sz)) (c := N) (by omega) (by omega)
  rw [show ((0 : Nat) : Int) = 0 from rfl] at h1
  rw [← h1, ← h2, List.filter_append, List.filter_append]
  have f1 : (rng 0 ((g * sz : Nat) : Int)).filter (fun a => decide (a / (sz : Int) = (g : Int))) = [] := by
    rw [List.filter_eq_nil_iff]
    intro x hx
    obtain ⟨x1, x2⟩ := rng_mem (a := 0) hx
    rw [decide_eq_true_iff]
    intro e
    obtain ⟨k, rfl⟩ := Int.eq_ofNat_of_zero_le (show 0 ≤ x by omega)
    rw [← Int.natCast_ediv] at e
    have e : k / sz = g := by omega
    have := Nat.div_add_mod k sz
    rw [e, Nat.mul_comm] at this
    omega
  have f2 : (rng ((g * sz : Nat) : Int) ((min N ((g + 1) * sz) : Nat) : Int)).filter (fun a => decide (a / (sz : Int) = (g : Int))) = rng ((g * sz : Nat) : Int) ((min N ((g + 1) * sz) : Nat) : Int) := by
    rw [List.filter_eq_self]
    intro x hx
    obtain ⟨x1, x2⟩ := rng_mem hx
    rw [decide_eq_true_iff]
    obtain ⟨k, rfl⟩ := Int.eq_ofNat_of_zero_le (show 0 ≤ x by omega)
    rw [← Int.natCast_ediv]
    have e : k / sz = g := Nat.div_eq_of_lt_le (by omega) (by omega)
    rw [e]
  have f3 : (rng ((min N ((g + 1) * sz) : Nat) : Int) (N : Int)).filter (fun a => decide (a / (sz : Int) = (g : Int))) = [] := by
    rw [List.filter_eq_nil_iff]
    intro x hx
    obtain ⟨x1, x2⟩ := rng_mem hx
    rw [decide_eq_true_iff]
    intro e
    obtain ⟨k, rfl⟩ := Int.eq_ofNat_of_zero_le (show 0 ≤ x by omega)
    rw [← Int.natCast_ediv] at e
    have e : k / sz = g := by omega
    have := Nat.div_add_mod k sz
    have := Nat.mod_lt k hs
    rw [e, Nat.mul_comm] at *
    omega
  rw [f1, f2, f3, List.append_nil, List.nil_append]
/-! ### groups -/
/-- the label in naturals -/
structure Nl (l : L5) (N sz ck : Nat) : Prop where
  v : val l
  f : fine l
  c : l.c = N
  d : l.d = sz
  e : l.e = ck
  n1 : 1 ≤ N
  n2 : N ≤ 255
  s1 : 1 ≤ sz
  s2 : sz ≤ 12
  k1 : ck ≤ 16
  pg : N + (N + sz - 1) / sz * ck ≤ 255
  np : npg l = ((N + (N + sz - 1) / sz * ck : Nat) : Int)
theorem nl {l : L5} (hv : val l) (hf : fine l) : ∃ N sz ck, Nl l N sz ck := by
  obtain ⟨v1, v2, v3, v4, v5, v6, v7, v8⟩ := id hv
  obtain ⟨N, hN⟩ := Int.eq_ofNat_of_zero_le (show 0 ≤ l.c by omega)
  obtain ⟨sz, hs⟩ := Int.eq_ofNat_of_zero_le (show 0 ≤ l.d by omega)
  obtain ⟨ck, hk⟩ := Int.eq_ofNat_of_zero_le v7
  have np : npg l = ((N + (N + sz - 1) / sz * ck : Nat) : Int) := by
    unfold npg
    rw [hN, hs, hk, show (N : Int) + (sz : Int) - 1 = ((N + sz - 1 : Nat) : Int) by omega]
    push_cast
    rfl
  have := hf.1
  exact ⟨N, sz, ck, hv, hf, hN, hs, hk, by omega, by omega, by omega, by omega, by omega, by omega, np⟩
theorem gc_ok {l : L5} {N sz ck : Nat} (h : Nl l N sz ck) : m_group_count l.c l.d = .ok (((N + sz - 1) / sz : Nat) : Int) := by
  have := h.s1; have := h.s2; have := h.n1
  unfold m_group_count
  rw [h.c, h.d, show (N : Int) + (sz : Int) - 1 = ((N + sz - 1 : Nat) : Int) by omega, chk_ok ⟨by omega, by omega⟩]
  show M.ok _ = _
  rw [← Int.natCast_ediv]
theorem grp_lt {N sz g : Nat} (hs : 1 ≤ sz) (hg : g < (N + sz - 1) / sz) : g * sz < N := by
  have h1 : (g + 1) * sz ≤ (N + sz - 1) / sz * sz := Nat.mul_le_mul_right _ hg
  have h2 := Nat.div_mul_le_self (N + sz - 1) sz
  rw [Nat.succ_mul] at h1
  omega
def gpl (N sz ck g : Nat) : List Int := rng ((g * sz : Nat) : Int) ((min N ((g + 1) * sz) : Nat) : Int) ++ rng ((N + g * ck : Nat) : Int) ((N + g * ck + ck : Nat) : Int)
theorem gp_ok {l : L5} {N sz ck g : Nat} (h : Nl l N sz ck) (hg : g < (N + sz - 1) / sz) : m_group_pages l (g : Int) = .ok (gpl N sz ck g) := by
  have hlt := grp_lt h.s1 hg
  have hs2 := h.s2
  have hn2 := h.n2
  have hk1 := h.k1
  have hsz : (g + 1) * sz = g * sz + sz := Nat.succ_mul g sz
  have hgk : g * ck + ck ≤ (N + sz - 1) / sz * ck := by
    rw [← Nat.succ_mul]
    exact Nat.mul_le_mul_right _ hg
  have hpg := h.pg
  have hgN : g ≤ g * sz := Nat.le_mul_of_pos_right _ h.s1
  unfold m_group_pages
  rw [check_ok, if_pos ⟨h.v, h.f⟩, M.ok_bind, M.ok_bind, gc_ok h, M.ok_bind, bOr_l, decide_eq_false (show ¬ (g : Int) < 0 by omega)]
  show (M.ok (decide ((g : Int) ≥ (((N + sz - 1) / sz : Nat) : Int))) >>= _) = _
  rw [decide_eq_false (show ¬ (g : Int) ≥ (((N + sz - 1) / sz : Nat) : Int) by omega), M.ok_bind, if_neg (by simp), h.c, h.d, h.e, chk_ok (.inl ⟨by omega, by omega⟩), M.ok_bind, M.ok_bind, M.ok_bind, chk_ok (.inl ⟨by omega, by omega⟩), M.ok_bind, M.ok_bind, chk_ok (.inl ⟨by omega, by omega⟩), M.ok_bind, M.ok_bind, M.ok_bind]
  have e1 : (if ((g : Int) + 1) * (sz : Int) < (N : Int) then ((g : Int) + 1) * (sz : Int) else (N : Int)) = ((min N ((g + 1) * sz) : Nat) : Int) := by
    rw [show ((g : Int) + 1) * (sz : Int) = (((g + 1) * sz : Nat) : Int) by push_cast; rfl]
    split <;> omega
  rw [e1, show (g : Int) * (sz : Int) = ((g * sz : Nat) : Int) by push_cast; rfl, show (N : Int) + (g : Int) * (ck : Int) = ((N + g * ck : Nat) : Int) by push_cast; rfl, show ((N + g * ck : Nat) : Int) + (ck : Int) = ((N + g * ck + ck : Nat) : Int) by push_cast; rfl]
  rw [chk_ok (show RgOk _ _ from ⟨by omega, by omega, by omega, by omega, by omega⟩), M.ok_bind, M.ok_bind, chk_ok (show RgOk _ _ from ⟨by omega, by omega, by omega, by omega, by omega⟩), M.ok_bind, M.ok_bind]
  unfold catM
  rw [chk_ok (show _ ≤ sizeLine by rw [rng_len, rng_len]; have : sizeLine = 2 ^ 24 := rfl; omega), M.ok_bind, M.ok_bind]
  rfl
theorem gp_bad {l : L5} {N sz ck : Nat} {g : Int} (h : Nl l N sz ck) (hg : g < 0 ∨ (((N + sz - 1) / sz : Nat) : Int) ≤ g) : m_group_pages l g = .exc ⟨"InvalidLabel", []⟩ := by
  unfold m_group_pages
  rw [check_ok, if_pos ⟨h.v, h.f⟩, M.ok_bind, M.ok_bind, gc_ok h, M.ok_bind]
  have : (bOr (M.ok (decide (g < 0))) (M.ok (decide (g ≥ (((N + sz - 1) / sz : Nat) : Int))))) = .ok true := by
    rw [bOr_l]
    by_cases z : g < 0
    · rw [decide_eq_true z]; rfl
    · rw [decide_eq_false z, decide_eq_true (show g ≥ (((N + sz - 1) / sz : Nat) : Int) by omega)]; rfl
  rw [this]
  rfl
theorem refused_ok {l : L5} {g : Int} (h : m_group_pages l g = .exc ⟨"InvalidLabel", []⟩) : m__law_refused l g = .ok true := by
  unfold m__law_refused
  rw [h]
  rfl
theorem islist_ok {l : List Int} (h : ∀ x ∈ l, 0 ≤ x ∧ x ≤ 254) : m__law_is_list l 0 254 = .ok true := by
  unfold m__law_is_list
  rw [if_neg (by decide), loopM_all]
  · rfl
  · intro a ha
    obtain ⟨h1, h2⟩ := h a ha
    unfold m__law_is_int
    rw [M.ok_bind, bOr_l]
    simp
    omega
end Q

set_option Elab.async false
set_option linter.all false
set_option maxRecDepth 100000
namespace Q
open PySem PySem.Spec PyProof.Rows L2 Vc
theorem ex_step {α β : Type} {m : M α} {P : α → Prop} {f : α → M β} {r : M β} (h : ∃ x, m = .ok x ∧ P x) (k : ∀ x, P x → f x = r) : (m >>= f) = r := by
  obtain ⟨x, e, p⟩ := h
  rw [e, M.ok_bind]
  exact k x p
theorem bAnd_tt {y : M Bool} (h : y = .ok true) : bAnd (.ok true) y = .ok true := by rw [bAnd_l, h]; rfl
theorem gpl_mem {N sz ck g : Nat} {x : Int} (hN : N + g * ck + ck ≤ 255) (hn : N ≤ 255) (h : x ∈ gpl N sz ck g) : 0 ≤ x ∧ x ≤ 254 := by
  rcases List.mem_append.mp h with h | h
  · have := rng_mem h
    omega
  · have := rng_mem h
    omega
def gB (l : L5) (N sz ck : Nat) : List Int → Int → M (Stp (List Int) Bool) := (fun (s74 : (List Int)) (a75 : Int) => ((m_group_pages l a75) >>= fun pages_76 => ((((chk (rOk (N : Int)) >>= fun _ => M.ok (rng 0 (N : Int))) >>= fun x83 => lcM (fun (a81 : Int) => ((chk (CDiv a81 (sz : Int)) >>= fun _ => M.ok (a81 / (sz : Int))) >>= fun x82 => M.ok (decide (x82 = a75)))) (fun (a81 : Int) => (M.ok a81)) x83) >>= fun x84 => ((chk (rOk (ck : Int)) >>= fun _ => M.ok (rng 0 (ck : Int))) >>= fun x80 => lcM (fun (a77 : Int) => M.ok true) (fun (a77 : Int) => (((chk (CMul a75 (ck : Int)) >>= fun _ => M.ok (a75 * (ck : Int))) >>= fun x78 => M.ok ((N : Int) + x78)) >>= fun x79 => M.ok (x79 + a77))) x80) >>= fun x85 => catM x84 x85) >>= fun due_86 => ((bOr ((m__law_is_list pages_76 (0 : Int) (254 : Int)) >>= fun x87 => M.ok (!x87)) (M.ok (!decide (pages_76 = due_86)))) >>= fun c89 => if c89 then (M.ok (Stp.rt false : (Stp ((List Int)) Bool))) else ((catM s74 pages_76) >>= fun seen_88 => (M.ok (Stp.nx seen_88 : (Stp ((List Int)) Bool))))))))
def gP (N sz ck i : Nat) (s : List Int) : Prop := s.Perm (rng 0 ((min N (i * sz) : Nat) : Int) ++ rng (N : Int) ((N + i * ck : Nat) : Int))
theorem grp_step {l : L5} {N sz ck G : Nat} (h : Nl l N sz ck) (hGd : (N + sz - 1) / sz = G) (hG : G ≤ N) (g : Nat) (hg : g < G) (s : List Int) (hp : gP N sz ck g s) : ∃ s', gB l N sz ck s (g : Int) = .ok (.nx s') ∧ gP N sz ck (g + 1) s' := by
  have hs1 := h.s1; have hs2 := h.s2; have hn1 := h.n1; have hn2 := h.n2; have hk1 := h.k1; have hpg := h.pg
  rw [hGd] at hpg
  unfold gP at hp ⊢
  unfold gB
  have hg' : g < (N + sz - 1) / sz := by omega
  have hlt := grp_lt hs1 hg'
  have hgk : g * ck + ck ≤ G * ck := by
    rw [← Nat.succ_mul]
    exact Nat.mul_le_mul_right _ hg
  have hsz : (g + 1) * sz = g * sz + sz := Nat.succ_mul g sz
  have hck : (g + 1) * ck = g * ck + ck := Nat.succ_mul g ck
  rw [gp_ok h hg', M.ok_bind, chk_ok (rOk_nat (by omega)), M.ok_bind, M.ok_bind]
  rw [lcM_filter (p := fun a => decide (a / (sz : Int) = (g : Int))) (h := fun a => a) (by rw [show (0 : Int) = ((0 : Nat) : Int) from rfl, rng_len]; omega) (fun a _ => by rw [chk_ok ⟨by omega, by omega⟩, M.ok_bind, M.ok_bind]) (fun a _ _ => rfl), List.map_id', flt_grp (by omega) (by omega), M.ok_bind, chk_ok (rOk_nat (by omega)), M.ok_bind, M.ok_bind]
  rw [lcM_map (h := fun a => (N : Int) + (g : Int) * (ck : Int) + a) (by rw [show (0 : Int) = ((0 : Nat) : Int) from rfl, rng_len]; omega) (fun a _ => by rw [chk_ok (.inl ⟨by omega, by omega⟩), M.ok_bind, M.ok_bind, M.ok_bind]), M.ok_bind]
  have em : (rng 0 (ck : Int)).map (fun a => (N : Int) + (g : Int) * (ck : Int) + a) = rng ((N + g * ck : Nat) : Int) ((N + g * ck + ck : Nat) : Int) := by
    rw [rng_nat, rng_from, List.map_map, show N + g * ck + ck - (N + g * ck) = ck by omega]
    refine List.map_congr_left fun i _ => ?_
    show (N : Int) + (g : Int) * (ck : Int) + (i : Int) = ((N + g * ck + i : Nat) : Int)
    push_cast
    rfl
  have ec : catM (rng ((g * sz : Nat) : Int) ((min N ((g + 1) * sz) : Nat) : Int)) (rng ((N + g * ck : Nat) : Int) ((N + g * ck + ck : Nat) : Int)) = .ok (gpl N sz ck g) := by
    unfold catM
    rw [chk_ok (show _ ≤ sizeLine by rw [rng_len, rng_len]; have : sizeLine = 2 ^ 24 := rfl; omega)]
    rfl
  rw [em, ec, M.ok_bind, islist_ok fun x hx => gpl_mem (by omega) (by omega) hx, M.ok_bind, bOr_l, decide_eq_true rfl]
  show ∃ s', (M.ok (!true) >>= _) = _ ∧ _
  rw [M.ok_bind, Bool.not_true, if_neg (by simp)]
  have hl := hp.length_eq
  rw [List.length_append, show (0 : Int) = ((0 : Nat) : Int) from rfl, rng_len, rng_len] at hl
  have hgl : (gpl N sz ck g).length ≤ 1000 := by unfold gpl; rw [List.length_append, rng_len, rng_len]; omega
  unfold catM
  rw [chk_ok (show _ ≤ sizeLine by have : sizeLine = 2 ^ 24 := rfl; omega), M.ok_bind, M.ok_bind]
  refine ⟨_, rfl, ?_⟩
  have q1 := rng_app (a := 0) (b := min N (g * sz)) (c := min N ((g + 1) * sz)) (Nat.zero_le _) (by omega)
  have q2 := rng_app (a := N) (b := N + g * ck) (c := N + (g + 1) * ck) (by omega) (by omega)
  rw [show (0 : Int) = ((0 : Nat) : Int) from rfl, ← q1, ← q2]
  unfold gpl
  rw [show N + (g + 1) * ck = N + g * ck + ck by omega, show min N (g * sz) = g * sz by omega]
  rw [show min N (g * sz) = g * sz by omega, show (0 : Int) = ((0 : Nat) : Int) from rfl] at hp
  generalize rng ((0 : Nat) : Int) ((g * sz : Nat) : Int) = A at *
  generalize rng ((g * sz : Nat) : Int) ((min N ((g + 1) * sz) : Nat) : Int) = A' at *
  generalize rng (N : Int) ((N + g * ck : Nat) : Int) = B at *
  generalize rng ((N + g * ck : Nat) : Int) ((N + g * ck + ck : Nat) : Int) = B' at *
  refine (hp.append_right _).trans ?_
  rw [List.append_assoc, List.append_assoc]
  refine List.Perm.append_left _ ?_
  rw [← List.append_assoc, ← List.append_assoc]
  exact List.Perm.append_right _ List.perm_append_comm
theorem grp_zero (N sz ck : Nat) : gP N sz ck 0 [] := by
  unfold gP
  rw [Nat.zero_mul, Nat.zero_mul, Nat.min_zero]
  have e0 : rng 0 ((0 : Nat) : Int) = [] := rfl
  have e1 : rng (N : Int) ((N + 0 : Nat) : Int) = [] := List.eq_nil_of_length_eq_zero (by rw [rng_len]; omega)
  rw [e0, e1]
  exact .refl _
theorem on_nx {S α : Type} (s : S) (k : S → M α) : (Stp.nx s : Stp S α).on k = k s := rfl
theorem rg_small {n : Nat} (h : n ≤ 255) : RgOk 0 (n : Int) := by
  unfold RgOk
  refine ⟨by decide, by decide, by omega, by omega, by omega⟩
theorem first_ok (ns : List Int) : m__law_first_part ns = .ok true := by
  unfold m__law_first_part
  rw [cell_lit ns 0 0 rfl, M.ok_bind]
  obtain ⟨l, el, hv, hf⟩ := label_ok (scell ns 0)
  obtain ⟨N, sz, ck, h⟩ := nl hv hf
  rw [el, M.ok_bind, cell_lit ns 1 1 rfl, M.ok_bind, M.ok_bind, M.ok_bind]
  cases decide (scell ns 1 % 6 = 2) with
  | true =>
    rw [if_pos rfl]
    have r1 : m__law_refused (⟨l.a, (255 : Int), l.c, l.d, l.e⟩ : L5) 0 = .ok true := refused_ok (by
      unfold m_group_pages
      rw [check_ok, if_neg fun z => ?_]
      · rfl
      · have h1 := z.2.2.2
        have h2 := z.2.1
        have : npg (⟨l.a, (255 : Int), l.c, l.d, l.e⟩ : L5) = npg l := rfl
        rw [this] at h1 h2
        have : (255 : Int) < npg l := h1
        omega)
    have r2 : m__law_refused (⟨l.a, l.b, (0 : Int), (1 : Int), (0 : Int)⟩ : L5) 0 = .ok true := refused_ok (by
      unfold m_group_pages
      rw [check_ok, if_neg fun z => ?_]
      · rfl
      · have h1 : (1 : Int) ≤ 0 := z.1.2.2.1
        omega)
    rw [r1, bAnd_tt r2, M.ok_bind]
  | false =>
    have hs1 := h.s1; have hs2 := h.s2; have hn1 := h.n1; have hn2 := h.n2; have hk1 := h.k1; have hpg := h.pg
    have hG : (N + sz - 1) / sz ≤ N := by
      rw [Nat.div_le_iff_le_mul_add_pred (by omega)]
      have : N ≤ sz * N := Nat.le_mul_of_pos_left _ (by omega)
      omega
    generalize hGd : (N + sz - 1) / sz = G at hG hpg
    rw [if_neg (by simp), M.ok_bind, M.ok_bind, h.c, h.d, h.e, show (N : Int) + (sz : Int) - 1 = ((N + sz - 1 : Nat) : Int) by omega, chk_ok ⟨by omega, by omega⟩, M.ok_bind, ← Int.natCast_ediv, hGd, M.ok_bind, chk_ok ⟨by omega, by omega⟩, M.ok_bind, M.ok_bind, rng_nat G]
    refine ex_step (P := fun r => ∃ s, r = .nx s ∧ s.Perm (rng 0 ((N + G * ck : Nat) : Int))) ?_ ?_
    · obtain ⟨s, e, hp⟩ := loopM_nx (gP N sz ck) (grp_zero N sz ck) (grp_step h hGd hG)
      unfold gP at hp
      refine ⟨_, e, s, rfl, ?_⟩
      have hGs : N ≤ G * sz := by
        have e1 := Nat.div_add_mod (N + sz - 1) sz
        have e2 := Nat.mod_lt (N + sz - 1) (show sz > 0 by omega)
        rw [hGd, Nat.mul_comm sz G] at e1
        omega
      rw [Nat.min_eq_left hGs] at hp
      rwa [show (0 : Int) = ((0 : Nat) : Int) from rfl, rng_app (Nat.zero_le _) (by omega)] at hp
    · rintro _ ⟨s, rfl, hp⟩
      rw [on_nx]
      rw [chk_ok (.inl ⟨by omega, by omega⟩), M.ok_bind, M.ok_bind, M.ok_bind, show (N : Int) + (G : Int) * (ck : Int) = ((N + G * ck : Nat) : Int) by push_cast; rfl, chk_ok (rg_small (show N + G * ck ≤ 255 by omega)), M.ok_bind, M.ok_bind]
      have es := isort_of hp.symm (by rw [show (0 : Int) = ((0 : Nat) : Int) from rfl]; exact rng_srt _ _)
      rw [← es, decide_eq_true rfl, M.ok_bind, Bool.not_true, if_neg (by simp)]
      rw [refused_ok (gp_bad h (.inl (by omega))), bAnd_tt ?_, M.ok_bind]
      rw [refused_ok (gp_bad h (.inr (by rw [hGd]; omega))), bAnd_tt ?_]
      rw [cell_lit ns 2 2 rfl, M.ok_bind, M.ok_bind, M.ok_bind]
      have := Int.emod_nonneg (scell ns 2) (show (1000 : Int) ≠ 0 by decide)
      exact refused_ok (gp_bad h (.inr (by rw [hGd]; omega)))
end Q

set_option Elab.async false
set_option linter.all false
set_option maxRecDepth 100000
namespace Q
open PySem PySem.Spec PyProof.Rows L2 Vc
theorem place_ok {n p : Nat} {ch : Int} (hn : 16 ≤ n) (hn2 : n ≤ 40) (hp : p < 16 * ncw n) : m_place_cells ⟨(n : Int), ch⟩ (p : Int) = .ok (plc n p) := by
  obtain ⟨w1, w2, w3, w4⟩ := ncw_rng hn hn2
  unfold m_place_cells
  rw [cws_ok hn hn2, nox_ok, M.ok_bind, M.ok_bind, bOr_l, decide_eq_false (show ¬ (p : Int) < 0 by omega)]
  have e : (if false = true then M.ok true else M.ok (decide ((p : Int) ≥ 16 * ((ncw n : Nat) : Int)))) = .ok false := by
    rw [if_neg (by simp), decide_eq_false (by omega)]
  show ((M.ok (decide ((p : Int) ≥ 16 * ((ncw n : Nat) : Int)))) >>= _) = _
  rw [decide_eq_false (by omega), M.ok_bind, if_neg (by simp), M.ok_bind, M.ok_bind]
  rw [show (n : Int) - (2 : Int) * (2 : Int) = ((n - 4 : Nat) : Int) by omega, show (4 : Int) * (p : Int) = ((4 * p : Nat) : Int) by omega, show ((4 * p : Nat) : Int) + 4 = ((4 * p + 4 : Nat) : Int) by omega, chk_ok ⟨rOk_nat (by omega), rOk_nat (by omega)⟩, M.ok_bind, M.ok_bind, rng_from, show 4 * p + 4 - 4 * p = 4 by omega]
  rw [lcM_map (h := fun a : Int => ((2 : Int) + a / ((n - 4 : Nat) : Int), (2 : Int) + a % ((n - 4 : Nat) : Int))) (by simp) (fun a ha => ?_), M.ok_bind, List.map_map]
  · refine congrArg M.ok (List.map_congr_left fun k _ => ?_)
    show ((2 : Int) + ((4 * p + k : Nat) : Int) / ((n - 4 : Nat) : Int), (2 : Int) + ((4 * p + k : Nat) : Int) % ((n - 4 : Nat) : Int)) = _
    unfold e2
    rw [← Int.natCast_ediv, ← Int.natCast_emod]
    rfl
  · rw [chk_ok (show CDiv a ((n - 4 : Nat) : Int) from ⟨by omega, by omega⟩), M.ok_bind, M.ok_bind, chk_ok (by omega), M.ok_bind, M.ok_bind, M.ok_bind, M.ok_bind]
theorem place_bad {n : Nat} {p ch : Int} (hn : 16 ≤ n) (hn2 : n ≤ 40) (hp : p < 0 ∨ 16 * ((ncw n : Nat) : Int) ≤ p) : m_place_cells ⟨(n : Int), ch⟩ p = .exc ⟨"InvalidSymbol", []⟩ := by
  unfold m_place_cells
  rw [cws_ok hn hn2, nox_ok, M.ok_bind, M.ok_bind]
  have : (bOr (M.ok (decide (p < 0))) (M.ok (decide (p ≥ 16 * ((ncw n : Nat) : Int))))) = .ok true := by
    rw [bOr_l]
    by_cases z : p < 0
    · rw [decide_eq_true z]; rfl
    · rw [decide_eq_false z, decide_eq_true (show p ≥ 16 * ((ncw n : Nat) : Int) by omega)]; rfl
  rw [this]
  rfl
theorem refused2_ok {f : C_Format} {p : Int} (h : m_place_cells f p = .exc ⟨"InvalidSymbol", []⟩) : m__law_refused_too f p = .ok true := by
  unfold m__law_refused_too
  rw [h]
  rfl
/-! ### the cells, all different -/
def cI (n q : Nat) : Int × Int := e2 (2 + q / (n - 4), 2 + q % (n - 4))
def stD (n m : Nat) : DT := ⟨(List.range m).map fun q => (cI n q, true)⟩
theorem cI_inj {n q r : Nat} (hn : 16 ≤ n) (h : cI n q = cI n r) : q = r := by
  unfold cI e2 at h
  have h1 : ((2 + q / (n - 4) : Nat) : Int) = ((2 + r / (n - 4) : Nat) : Int) := congrArg Prod.fst h
  have h2 : ((2 + q % (n - 4) : Nat) : Int) = ((2 + r % (n - 4) : Nat) : Int) := congrArg Prod.snd h
  rw [← Nat.div_add_mod q (n - 4), ← Nat.div_add_mod r (n - 4), show q / (n - 4) = r / (n - 4) by omega, show q % (n - 4) = r % (n - 4) by omega]
theorem st_has {n m : Nat} (hn : 16 ≤ n) : (stD n m).has (cI n m) = false := by
  unfold DT.has stD
  rw [List.any_map, List.any_eq_false]
  intro q hq
  have := List.mem_range.mp hq
  show ¬ decide (cI n q = cI n m) = true
  rw [decide_eq_true_iff]
  intro e
  have := cI_inj hn e
  omega
theorem st_put {n m : Nat} (hn : 16 ≤ n) : (stD n m).put (cI n m) true = stD n (m + 1) := by
  unfold DT.put
  rw [st_has hn, if_neg (by simp)]
  unfold stD
  rw [List.range_succ, List.map_append]
  rfl
theorem st_len (n m : Nat) : (stD n m).l.length = m := by unfold stD; rw [List.length_map, List.length_range]
theorem inner_run {n : Nat} {τ : Type} {f : DT → Int × Int → M (Stp DT τ)} (hf : ∀ q, q < (n - 4) * (n - 4) → f (stD n q) (cI n q) = .ok (.nx (stD n (q + 1)))) : ∀ (k m : Nat), m + k ≤ (n - 4) * (n - 4) → loopM f ((List.range k).map fun i => cI n (m + i)) (stD n m) = .ok (.nx (stD n (m + k)))
  | 0, m, _ => rfl
  | k + 1, m, h => by
    rw [List.range_succ_eq_map, List.map_cons, loopM_cons, Nat.add_zero, hf m (by omega), M.ok_bind]
    dsimp only
    have ih := inner_run hf k (m + 1) (by omega)
    rw [List.map_map, show m + (k + 1) = m + 1 + k by omega, ← ih]
    refine congrArg (fun l => loopM f l (stD n (m + 1))) (List.map_congr_left fun i _ => ?_)
    show cI n (m + (i + 1)) = cI n (m + 1 + i)
    rw [show m + (i + 1) = m + 1 + i by omega]
theorem plc_cI (n p : Nat) : plc n p = (List.range 4).map fun k => cI n (4 * p + k) := rfl
theorem cell_rng {n q : Nat} (hn : 16 ≤ n) (hq : q < (n - 4) * (n - 4)) : 2 ≤ (cI n q).1 ∧ (cI n q).1 ≤ (n : Int) - 3 ∧ 2 ≤ (cI n q).2 ∧ (cI n q).2 ≤ (n : Int) - 3 := by
  have h1 : q % (n - 4) < n - 4 := Nat.mod_lt _ (by omega)
  have h2 : q / (n - 4) < n - 4 := Nat.div_lt_of_lt_mul hq
  show (2 : Int) ≤ ((2 + q / (n - 4) : Nat) : Int) ∧ ((2 + q / (n - 4) : Nat) : Int) ≤ (n : Int) - 3 ∧ (2 : Int) ≤ ((2 + q % (n - 4) : Nat) : Int) ∧ ((2 + q % (n - 4) : Nat) : Int) ≤ (n : Int) - 3
  generalize q % (n - 4) = x at *
  generalize q / (n - 4) = y at *
  omega
def inB (n : Nat) : DT → Int × Int → M (Stp DT (Stp DT Bool)) := (fun (s123 : DT) (a124 : (Int × Int)) => (if ((!true) || ((DT.has s123 a124) || ((decide ((if a124.2 < a124.1 then a124.2 else a124.1) < (2 : Int))) || (decide ((if a124.2 > a124.1 then a124.2 else a124.1) > ((n : Int) - (3 : Int))))))) then (M.ok (Stp.rt (Stp.rt false : (Stp (DT) Bool)) : (Stp (DT) (Stp (DT) Bool)))) else (chk (s123.l.length < sizeLine) >>= fun _ => (fun d125 : DT => (M.ok (Stp.nx d125 : (Stp (DT) (Stp (DT) Bool))))) (DT.put s123 a124 true))))
theorem in_ok {n q : Nat} (hn : 16 ≤ n) (hn2 : n ≤ 40) (hq : q < (n - 4) * (n - 4)) (h4 : (n - 4) * (n - 4) ≤ 1296) : inB n (stD n q) (cI n q) = .ok (.nx (stD n (q + 1))) := by
  obtain ⟨a1, a2, a3, a4⟩ := cell_rng hn hq
  unfold inB
  rw [st_has hn, st_len, st_put hn]
  generalize (cI n q).1 = x at *
  generalize (cI n q).2 = y at *
  have e1 : ¬ (if y < x then y else x) < 2 := by split <;> omega
  have e2 : ¬ (if y > x then y else x) > (n : Int) - 3 := by split <;> omega
  rw [decide_eq_false e1, decide_eq_false e2, if_neg (by simp), chk_ok (show q < sizeLine by have : sizeLine = 2 ^ 24 := rfl; omega), M.ok_bind]
def cB (n ch : Nat) : DT → Int → M (Stp DT Bool) := (fun (s119 : DT) (a120 : Int) => ((m_place_cells ⟨(n : Int), (ch : Int)⟩ a120) >>= fun cells_121 => ((bOr (M.ok (!true)) ((m__law_place (n : Int) a120) >>= fun x122 => M.ok (!decide (cells_121 = x122)))) >>= fun c128 => if c128 then (M.ok (Stp.rt false : (Stp (DT) Bool))) else ((loopM (inB n) cells_121 s119 : (M (Stp (DT) (Stp (DT) Bool)))) >>= fun r => r.on (fun s123 : DT => (M.ok (Stp.nx s123 : (Stp (DT) Bool))))))))
theorem cB_ok {n ch p : Nat} (hn : 16 ≤ n) (hn2 : n ≤ 40) (hp : p < 16 * ncw n) : cB n ch (stD n (4 * p)) (p : Int) = .ok (.nx (stD n (4 * (p + 1)))) := by
  obtain ⟨w1, w2, w3, w4⟩ := ncw_rng hn hn2
  unfold cB
  rw [place_ok hn hn2 hp, M.ok_bind, lplace_ok hn (by omega) (by omega), M.ok_bind, decide_eq_true rfl]
  have e : bOr (M.ok (!true)) (M.ok (!true)) = M.ok false := rfl
  rw [e, M.ok_bind, if_neg (by simp), plc_cI, inner_run (fun q hq => in_ok hn hn2 hq w4) 4 (4 * p) (by omega), M.ok_bind, on_nx]
  rfl
theorem second_ok (ns : List Int) : m__law_second_part ns = .ok true := by
  unfold m__law_second_part
  rw [cell_lit ns 0 0 rfl, M.ok_bind]
  obtain ⟨n, ch, e0, hn, hn2, hch, hs⟩ := form_ok (scell ns 0)
  obtain ⟨ds, hd⟩ : ∃ ds, ds + ch = 16 := ⟨16 - ch, by omega⟩
  obtain ⟨w1, w2, w3, w4⟩ := ncw_rng hn hn2
  rw [e0, M.ok_bind]
  dsimp only
  rw [init_ok hn hn2 hd hch hs, M.ok_bind, M.ok_bind]
  dsimp only
  rw [lwords_ok hn hn2, M.ok_bind, M.ok_bind, cell_lit ns 1 1 rfl, M.ok_bind, M.ok_bind, M.ok_bind]
  cases decide (scell ns 1 % 4 = 1) with
  | true =>
    have h0 := Int.emod_nonneg (scell ns 1 / 4) (show (9 : Int) ≠ 0 by decide)
    rw [if_pos rfl, M.ok_bind, M.ok_bind, M.ok_bind, M.ok_bind, refused2_ok (place_bad hn hn2 (.inl (by omega))), bAnd_tt ?_, M.ok_bind]
    rw [M.ok_bind, M.ok_bind]
    exact refused2_ok (place_bad hn hn2 (.inr (by omega)))
  | false =>
    rw [if_neg (by simp), show (16 : Int) * ((ncw n : Nat) : Int) = ((16 * ncw n : Nat) : Int) by omega, chk_ok (rOk_nat (by omega)), M.ok_bind, M.ok_bind, rng_nat]
    refine ex_step (P := fun r => r = .nx (stD n (4 * (16 * ncw n)))) ?_ ?_
    · obtain ⟨s', e, h⟩ := loopM_nx (n := 16 * ncw n) (s := (⟨[]⟩ : DT)) (f := cB n ch) (fun i s => s = stD n (4 * i)) rfl (by
        rintro p hp _ rfl
        exact ⟨_, cB_ok hn hn2 hp, rfl⟩)
      exact ⟨_, e, by rw [h]⟩
    · rintro _ rfl
      rw [on_nx, st_len, decide_eq_true (by omega)]
theorem law_ok (ns : List Int) (h : ns.length ≤ 63) : m_law ns = .ok true := by
  unfold m_law
  rw [first_ok, second_ok, bAnd_l]
  rfl
end Q

open PySem PySem.W PyProof.Rows Vc
set_option maxRecDepth 100000 in
set_option maxHeartbeats 0 in
theorem PySem.Challenge.cw_paperark_k34_groups_of_pages_and_places_holds : PySem.Challenge.rw_paperark_k34_groups_of_pages_and_places.Holds := by
  w_on; o_law; k_head; (case hw => w_witness2)
  k_fill
  refine Vc.law_walk (l := PySem.Challenge.rw_paperark_k34_groups_of_pages_and_places) (k := 10) (m := fun x => Q.m_law x.1) rfl rfl rfl ⟨rfl, by decide, by decide⟩ (fun w h Y => PySem.W.kIn_of Y) Q.law_ok ?F
  case F =>
    intro w mg h KX G
    obtain ⟨f0, d0, D0⟩ : ∃ f fd, Vc.DefAt _ mg "group_count" Q.s_group_count f fd ["data", "size"] := by
      refine' ⟨_, _, Vc.def_mk KX G (fun _ _ _ _ _ _ us hl => match us, hl with | [_, _], _ => rfl) ?a ?l ?c ?k⟩
      (case a => k_is); (case l => k_is); (case c => k_is); (case k => k_is)
    obtain ⟨f1, d1, D1⟩ : ∃ f fd, Vc.PrpAt _ mg "Format" "data_symbols" "Format.data_symbols" Q.s_Format_data_symbols f fd ["self"] := by
      refine' ⟨_, _, Vc.prp_mk KX G (fun _ _ _ _ _ _ us hl => match us, hl with | [_], _ => rfl) ?aC ?pg ?hd ?po ?sa ?ap ?g ?t ?r ?l ?c ?k⟩
      (case aC => k_is); (case pg => k_is); (case hd => k_is); (case po => k_is); (case sa => k_is); (case ap => k_is); (case g => k_is); (case t => k_is); (case r => k_is); (case l => k_is); (case c => k_is); (case k => k_is)
    obtain ⟨f2, d2, D2⟩ : ∃ f fd, Vc.PrpAt _ mg "Format" "codewords" "Format.codewords" Q.s_Format_codewords f fd ["self"] := by
      refine' ⟨_, _, Vc.prp_mk KX G (fun _ _ _ _ _ _ us hl => match us, hl with | [_], _ => rfl) ?aC ?pg ?hd ?po ?sa ?ap ?g ?t ?r ?l ?c ?k⟩
      (case aC => k_is); (case pg => k_is); (case hd => k_is); (case po => k_is); (case sa => k_is); (case ap => k_is); (case g => k_is); (case t => k_is); (case r => k_is); (case l => k_is); (case c => k_is); (case k => k_is)
    obtain ⟨f3, d3, D3⟩ : ∃ f fd, Vc.DefAt _ mg "_law_cell" Q.s__law_cell f fd ["script", "k"] := by
      refine' ⟨_, _, Vc.def_mk KX G (fun _ _ _ _ _ _ us hl => match us, hl with | [_, _], _ => rfl) ?a ?l ?c ?k⟩
      (case a => k_is); (case l => k_is); (case c => k_is); (case k => k_is)
    obtain ⟨f4, d4, D4⟩ : ∃ f fd, Vc.DefAt _ mg "_law_is_int" Q.s__law_is_int f fd ["value"] := by
      refine' ⟨_, _, Vc.def_mk KX G (fun _ _ _ _ _ _ us hl => match us, hl with | [_], _ => rfl) ?a ?l ?c ?k⟩
      (case a => k_is); (case l => k_is); (case c => k_is); (case k => k_is)
    obtain ⟨f5, d5, D5⟩ : ∃ f fd, Vc.DefAt _ mg "_law_label" Q.s__law_label f fd ["cell"] := by
      refine' ⟨_, _, Vc.def_mk KX G (fun _ _ _ _ _ _ us hl => match us, hl with | [_], _ => rfl) ?a ?l ?c ?k⟩
      (case a => k_is); (case l => k_is); (case c => k_is); (case k => k_is)
    obtain ⟨f6, d6, D6⟩ : ∃ f fd, Vc.DefAt _ mg "_law_form" Q.s__law_form f fd ["cell"] := by
      refine' ⟨_, _, Vc.def_mk KX G (fun _ _ _ _ _ _ us hl => match us, hl with | [_], _ => rfl) ?a ?l ?c ?k⟩
      (case a => k_is); (case l => k_is); (case c => k_is); (case k => k_is)
    obtain ⟨f7, d7, D7⟩ : ∃ f fd, Vc.DefAt _ mg "_law_words" Q.s__law_words f fd ["side"] := by
      refine' ⟨_, _, Vc.def_mk KX G (fun _ _ _ _ _ _ us hl => match us, hl with | [_], _ => rfl) ?a ?l ?c ?k⟩
      (case a => k_is); (case l => k_is); (case c => k_is); (case k => k_is)
    obtain ⟨f8, d8, D8⟩ : ∃ f fd, Vc.DefAt _ mg "_law_place" Q.s__law_place f fd ["side", "place"] := by
      refine' ⟨_, _, Vc.def_mk KX G (fun _ _ _ _ _ _ us hl => match us, hl with | [_, _], _ => rfl) ?a ?l ?c ?k⟩
      (case a => k_is); (case l => k_is); (case c => k_is); (case k => k_is)
    obtain ⟨f9, d9, D9⟩ : ∃ f fd, Vc.DefAt _ mg "check_label" Q.s_check_label f fd ["label"] := by
      refine' ⟨_, _, Vc.def_mk KX G (fun _ _ _ _ _ _ us hl => match us, hl with | [_], _ => rfl) ?a ?l ?c ?k⟩
      (case a => k_is); (case l => k_is); (case c => k_is); (case k => k_is)
    obtain ⟨f10, d10, D10⟩ : ∃ f fd, Vc.DefAt _ mg "_law_is_list" Q.s__law_is_list f fd ["value", "least", "greatest"] := by
      refine' ⟨_, _, Vc.def_mk KX G (fun _ _ _ _ _ _ us hl => match us, hl with | [_, _, _], _ => rfl) ?a ?l ?c ?k⟩
      (case a => k_is); (case l => k_is); (case c => k_is); (case k => k_is)
    obtain ⟨f11, d11, D11⟩ : ∃ f fd, Vc.DefAt _ mg "group_pages" Q.s_group_pages f fd ["label", "group"] := by
      refine' ⟨_, _, Vc.def_mk KX G (fun _ _ _ _ _ _ us hl => match us, hl with | [_, _], _ => rfl) ?a ?l ?c ?k⟩
      (case a => k_is); (case l => k_is); (case c => k_is); (case k => k_is)
    obtain ⟨f12, d12, D12⟩ : ∃ f fd, Vc.PrpAt _ mg "Format" "body_size" "Format.body_size" Q.s_Format_body_size f fd ["self"] := by
      refine' ⟨_, _, Vc.prp_mk KX G (fun _ _ _ _ _ _ us hl => match us, hl with | [_], _ => rfl) ?aC ?pg ?hd ?po ?sa ?ap ?g ?t ?r ?l ?c ?k⟩
      (case aC => k_is); (case pg => k_is); (case hd => k_is); (case po => k_is); (case sa => k_is); (case ap => k_is); (case g => k_is); (case t => k_is); (case r => k_is); (case l => k_is); (case c => k_is); (case k => k_is)
    obtain ⟨f13, d13, D13⟩ : ∃ f fd, Vc.DefAt _ mg "place_cells" Q.s_place_cells f fd ["form", "place"] := by
      refine' ⟨_, _, Vc.def_mk KX G (fun _ _ _ _ _ _ us hl => match us, hl with | [_, _], _ => rfl) ?a ?l ?c ?k⟩
      (case a => k_is); (case l => k_is); (case c => k_is); (case k => k_is)
    obtain ⟨f14, d14, D14⟩ : ∃ f fd, Vc.DefAt _ mg "_law_refused" Q.s__law_refused f fd ["label", "group"] := by
      refine' ⟨_, _, Vc.def_mk KX G (fun _ _ _ _ _ _ us hl => match us, hl with | [_, _], _ => rfl) ?a ?l ?c ?k⟩
      (case a => k_is); (case l => k_is); (case c => k_is); (case k => k_is)
    obtain ⟨f15, d15, D15⟩ : ∃ f fd, Vc.DefAt _ mg "_law_refused_too" Q.s__law_refused_too f fd ["form", "place"] := by
      refine' ⟨_, _, Vc.def_mk KX G (fun _ _ _ _ _ _ us hl => match us, hl with | [_, _], _ => rfl) ?a ?l ?c ?k⟩
      (case a => k_is); (case l => k_is); (case c => k_is); (case k => k_is)
    obtain ⟨f16, d16, D16⟩ : ∃ f fd, Vc.PrpAt _ mg "Format" "capacity" "Format.capacity" Q.s_Format_capacity f fd ["self"] := by
      refine' ⟨_, _, Vc.prp_mk KX G (fun _ _ _ _ _ _ us hl => match us, hl with | [_], _ => rfl) ?aC ?pg ?hd ?po ?sa ?ap ?g ?t ?r ?l ?c ?k⟩
      (case aC => k_is); (case pg => k_is); (case hd => k_is); (case po => k_is); (case sa => k_is); (case ap => k_is); (case g => k_is); (case t => k_is); (case r => k_is); (case l => k_is); (case c => k_is); (case k => k_is)
    obtain ⟨f17, d17, D17⟩ : ∃ f fd, Vc.DefAt _ mg "_law_first_part" Q.s__law_first_part f fd ["script"] := by
      refine' ⟨_, _, Vc.def_mk KX G (fun _ _ _ _ _ _ us hl => match us, hl with | [_], _ => rfl) ?a ?l ?c ?k⟩
      (case a => k_is); (case l => k_is); (case c => k_is); (case k => k_is)
    obtain ⟨f18, d18, D18⟩ : ∃ f fd, Vc.IniAt _ mg "Format" "Format.__init__" Q.s_Format___init__ f fd ["self", "side", "checks"] := by
      refine' ⟨_, _, Vc.ini_mk KX G (fun _ _ _ _ _ _ us hl => match us, hl with | [_, _, _], _ => rfl) ?aC ?a ?i ?l ?c ?k ?m ?kc⟩
      (case aC => k_is); (case a => k_is); (case i => k_is); (case l => k_is); (case c => k_is); (case k => k_is); (case m => k_is); (case kc => k_is)
    obtain ⟨f19, d19, D19⟩ : ∃ f fd, Vc.DefAt _ mg "_law_second_part" Q.s__law_second_part f fd ["script"] := by
      refine' ⟨_, _, Vc.def_mk KX G (fun _ _ _ _ _ _ us hl => match us, hl with | [_], _ => rfl) ?a ?l ?c ?k⟩
      (case a => k_is); (case l => k_is); (case c => k_is); (case k => k_is)
    obtain ⟨f20, d20, D20, BT⟩ : ∃ f fd, Vc.DefAt _ mg "law" Q.s_law f fd ["script"] ∧ ∀ (s : Shared) (u : Value), BindsTo s fd ⟨[u], []⟩ [("script", u)] := by
      refine' ⟨_, _, Vc.def_mk KX G (fun _ _ _ _ _ _ us hl => match us, hl with | [_], _ => rfl) ?a ?l ?c ?k, fun s u => .of_eq rfl⟩
      (case a => k_is); (case l => k_is); (case c => k_is); (case k => k_is)
    refine' ⟨f20, d20, D20.g, BT, fun base => Q.G_law (a := fun i => [f0, f1, f2, f3, f4, f5, f6, f7, f8, f9, f10, f11, f12, f13, f14, f15, f16, f17, f18, f19, f20].getD i f0) (d := fun i => [d0, d1, d2, d3, d4, d5, d6, d7, d8, d9, d10, d11, d12, d13, d14, d15, d16, d17, d18, d19, d20].getD i d0) ⟨D0, D1, D2, D3, D4, D5, D6, D7, D8, D9, D10, D11, D12, D13, D14, D15, D16, D17, D18, D19, D20, Vc.cls_mk KX G ?a0 ?p0 ?h0 ?o0 ?s0 ?q0, PySem.W.mg_none_of KX G ?z1, PySem.W.mg_none_of KX G ?z2, PySem.W.mg_none_of KX G ?z3, PySem.W.mg_none_of KX G ?z4, PySem.W.mg_none_of KX G ?z5, PySem.W.mg_none_of KX G ?z6, PySem.W.mg_none_of KX G ?z7, PySem.W.mg_none_of KX G ?z8, PySem.W.mg_none_of KX G ?z9, PySem.W.mg_none_of KX G ?z10, Vc.int_mk KX G ?z11, Vc.int_mk KX G ?z12, Vc.int_mk KX G ?z13, Vc.int_mk KX G ?z14, Vc.int_mk KX G ?z15, Vc.int_mk KX G ?z16, Vc.int_mk KX G ?z17, Vc.int_mk KX G ?z18, Vc.int_mk KX G ?z19, Vc.int_mk KX G ?z20, Vc.const_mk KX G ?z21 ?y21, Vc.ExcCls.mk' KX G ?a22 ?q22 ?k22 ?b22 ?t22, Vc.ExcCls.mk' KX G ?a23 ?q23 ?k23 ?b23 ?t23, Vc.ExcCls.mk' KX G ?a24 ?q24 ?k24 ?b24 ?t24, Vc.eex_mk KX G ?a25 ?q25, Vc.iex_mk KX G ?a26 ?q26, Vc.iex_mk KX G ?a27 ?q27, Vc.NoT.mk ?q28⟩⟩
    (case a0 => k_is) ; (case p0 => k_is) ; (case h0 => k_is) ; (case o0 => k_is) ; (case s0 => k_is) ; (case q0 => kernel_rfl)
    (case z1 => k_is)
    (case z2 => k_is)
    (case z3 => k_is)
    (case z4 => k_is)
    (case z5 => k_is)
    (case z6 => k_is)
    (case z7 => k_is)
    (case z8 => k_is)
    (case z9 => k_is)
    (case z10 => k_is)
    (case z11 => k_is)
    (case z12 => k_is)
    (case z13 => k_is)
    (case z14 => k_is)
    (case z15 => k_is)
    (case z16 => k_is)
    (case z17 => k_is)
    (case z18 => k_is)
    (case z19 => k_is)
    (case z20 => k_is)
    (case z21 => k_is) ; (case y21 => kernel_rfl)
    (case a22 => k_is) ; (case q22 => k_exc) ; (case k22 => k_is) ; (case b22 => k_is) ; (case t22 => k_is)
    (case a23 => k_is) ; (case q23 => k_exc) ; (case k23 => k_is) ; (case b23 => k_is) ; (case t23 => k_is)
    (case a24 => k_is) ; (case q24 => k_exc) ; (case k24 => k_is) ; (case b24 => k_is) ; (case t24 => k_is)
    (case a25 => k_is) ; (case q25 => kernel_rfl)
    (case a26 => k_is) ; (case q26 => kernel_rfl)
    (case a27 => k_is) ; (case q27 => kernel_rfl)
    (case q28 => kernel_rfl)

