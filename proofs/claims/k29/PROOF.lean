import PyProof.Rows.All
import Wide.All
import OpenK.AllK
import Wide.FinOn
import HandS.ForMost
import HandS.ForExc
import HandS.HotCalls
import HandS.ExcIs
import HandS.IsInst
import HandS.Style
import HandS.Conv
import HandS.List
import HandS.ListItems
import KE.KDictZip
import KE.KItemsList
import PySem.Challenge.RW_paperark_k29_codewords_and_missing_symbo
set_option Elab.async false
set_option linter.all false
set_option maxRecDepth 100000
namespace Vc
open PySem PySem.Spec PyProof.Rows L2

/-! ### results -/
inductive D where
  | non | bl (b : Bool) | int (i : Int) | str (x : Str) | lst (l : List D) | tup (l : List D)
  /-- an object's address alone; an error with its fields; an instance; a dict -/
  | adr (a : Addr) | exn (a dd : Addr) (fs : List (Str × D)) | ins (n : Str) (fs : List (Str × D)) | dic (kvs : List (Key × D))
structure Exn where
  nm : Str
  fs : List (Str × D)
inductive M (α : Type) where
  | ok (a : α)
  | stuck
  | exc (e : Exn)
namespace M
variable {α β : Type}
def bind (m : M α) (f : α → M β) : M β := match m with
  | .ok a => f a
  | .stuck => .stuck
  | .exc e => .exc e
instance : Monad M where
  pure := .ok
  bind := bind
theorem ok_bind_rfl (a : α) (f : α → M β) : (M.ok a >>= f) = f a := rfl
@[simp] theorem ok_bind (a : α) (f : α → M β) : (M.ok a >>= f) = f a := by rw [ok_bind_rfl]
theorem stuck_bind_rfl (f : α → M β) : ((M.stuck : M α) >>= f) = .stuck := rfl
theorem exc_bind_rfl (e : Exn) (f : α → M β) : ((M.exc e : M α) >>= f) = .exc e := rfl
@[simp] theorem pure_eq (a : α) : (pure a : M α) = .ok a := rfl
@[simp] theorem stuck_bind (f : α → M β) : ((M.stuck : M α) >>= f) = .stuck := by rw [stuck_bind_rfl]
@[simp] theorem exc_bind (e : Exn) (f : α → M β) : ((M.exc e : M α) >>= f) = .exc e := by rw [exc_bind_rfl]
theorem bind_assoc {γ : Type} (m : M α) (f : α → M β) (g : β → M γ) : (m >>= f) >>= g = m >>= fun a => f a >>= g := by cases m <;> rfl
theorem bind_ok (m : M α) : (m >>= fun a => .ok a) = m := by cases m <;> rfl
end M
/-- stuck unless p -/
def chk (p : Prop) [Decidable p] : M Unit := if p then .ok () else .stuck
theorem chk_ok {p : Prop} [Decidable p] (h : p) : chk p = .ok () := if_pos h
/-- no exception may leave here -/
def nox {α : Type} : M α → M α
  | .ok a => .ok a
  | _ => .stuck

def Out {α : Type} (m : M α) (P : α → Prop) (E : Exn → Prop) : Prop := match m with
  | .ok a => P a
  | .exc e => E e
  | .stuck => False
theorem Out.bind {α β : Type} {m : M α} {f : α → M β} {P : β → Prop} {E : Exn → Prop} (h : Out (m >>= f) P E) : Out m (fun a => Out (f a) P E) E := by
  cases m <;> exact h
theorem Out.of_bind {α β : Type} {m : M α} {f : α → M β} {P : β → Prop} {E : Exn → Prop} (h : Out m (fun a => Out (f a) P E) E) : Out (m >>= f) P E := by
  cases m <;> exact h
theorem Out.mono {α : Type} {m : M α} {P P' : α → Prop} {E E' : Exn → Prop} (h : Out m P E) (hP : ∀ a, m = .ok a → P a → P' a) (hE : ∀ e, m = .exc e → E e → E' e) : Out m P' E' := by
  cases m with
  | ok a => exact hP a rfl h
  | exc e => exact hE e rfl h
  | stuck => exact h
theorem Out.chk {β : Type} {p : Prop} [Decidable p] {f : Unit → M β} {P : β → Prop} {E : Exn → Prop} (h : Out (Vc.chk p >>= f) P E) : p ∧ Out (f ()) P E := by
  unfold Vc.chk at h
  split at h
  · exact ⟨by assumption, h⟩
  · exact h.elim

/-! ### a value stands for data -/
mutual
inductive R (K : PySem.W.Frag) (mg : Str → Option Value) (H : Hp) : V → D → Prop
  | non : R K mg H .non .non
  | bl (b : Bool) : R K mg H (.bl b) (.bl b)
  | int (i : Int) : R K mg H (.int i) (.int i)
  | str (x : Str) : R K mg H (.str x) (.str x)
  | lst {p : Addr} {xs : List V} {ds : List D} : SqL K H p xs → Rs K mg H xs ds → R K mg H (.ref p) (.lst ds)
  | tup {p : Addr} {xs : List V} {ds : List D} : SqT K H p xs → Rs K mg H xs ds → R K mg H (.ref p) (.tup ds)
  | adr (a : Addr) : R K mg H (.ref a) (.adr a)
  | exn {a dd : Addr} {vs : List (Str × V)} {fs : List (Str × D)} : H dd = some (.xd vs) → RF K mg H vs fs → R K mg H (.ref a) (.exn a dd fs)
  | ins {a C dx : Addr} {n : Str} {vs : List (Str × V)} {fs : List (Str × D)} : mg n = some (.ref C) → H a = some (.ins C dx vs) → RF K mg H vs fs → R K mg H (.ref a) (.ins n fs)
  | dic {a : Addr} {vs : List (Key × V)} {fs : List (Key × D)} : H a = some (.dK vs) → RK K mg H vs fs → R K mg H (.ref a) (.dic fs)
inductive RF (K : PySem.W.Frag) (mg : Str → Option Value) (H : Hp) : List (Str × V) → List (Str × D) → Prop
  | nil : RF K mg H [] []
  | cons {n : Str} {v : V} {d : D} {vs : List (Str × V)} {ds : List (Str × D)} : R K mg H v d → RF K mg H vs ds → RF K mg H ((n, v) :: vs) ((n, d) :: ds)
inductive RK (K : PySem.W.Frag) (mg : Str → Option Value) (H : Hp) : List (Key × V) → List (Key × D) → Prop
  | nil : RK K mg H [] []
  | cons {n : Key} {v : V} {d : D} {vs : List (Key × V)} {ds : List (Key × D)} : R K mg H v d → RK K mg H vs ds → RK K mg H ((n, v) :: vs) ((n, d) :: ds)
inductive Rs (K : PySem.W.Frag) (mg : Str → Option Value) (H : Hp) : List V → List D → Prop
  | nil : Rs K mg H [] []
  | cons {v : V} {d : D} {vs : List V} {ds : List D} : R K mg H v d → Rs K mg H vs ds → Rs K mg H (v :: vs) (d :: ds)
end
theorem Same.seqT {K : PySem.W.Frag} {H H' : Hp} {a : Addr} {xs : List V} (e : Same H H') (h : SqT K H a xs) : SqT K H' a xs := by
  rcases h with (h | ⟨o, h⟩) | h
  · exact .inl (.inl (e _ _ h))
  · exact .inl (.inr ⟨o, e _ _ h⟩)
  · exact .inr h
section
variable {K : PySem.W.Frag} {mg : Str → Option Value} {H H' : Hp}
mutual
theorem R.mono (e : Same H H') : ∀ {v : V} {d : D}, R K mg H v d → R K mg H' v d
  | _, _, .non => .non
  | _, _, .bl b => .bl b
  | _, _, .int b => .int b
  | _, _, .str b => .str b
  | _, _, .lst h r => .lst (e.seq h) (Rs.mono e r)
  | _, _, .tup h r => .tup (Same.seqT e h) (Rs.mono e r)
  | _, _, .adr a => .adr a
  | _, _, .exn h r => .exn (e _ _ h) (RF.mono e r)
  | _, _, .ins q h r => .ins q (e _ _ h) (RF.mono e r)
  | _, _, .dic h r => .dic (e _ _ h) (RK.mono e r)
theorem RF.mono (e : Same H H') : ∀ {v : List (Str × V)} {d : List (Str × D)}, RF K mg H v d → RF K mg H' v d
  | _, _, .nil => .nil
  | _, _, .cons h r => .cons (R.mono e h) (RF.mono e r)
theorem RK.mono (e : Same H H') : ∀ {v : List (Key × V)} {d : List (Key × D)}, RK K mg H v d → RK K mg H' v d
  | _, _, .nil => .nil
  | _, _, .cons h r => .cons (R.mono e h) (RK.mono e r)
theorem Rs.mono (e : Same H H') : ∀ {v : List V} {d : List D}, Rs K mg H v d → Rs K mg H' v d
  | _, _, .nil => .nil
  | _, _, .cons h r => .cons (R.mono e h) (Rs.mono e r)
end
theorem RF.lookup : ∀ {v : List (Str × V)} {d : List (Str × D)} {n : Str} {x : D}, RF K mg H v d → d.lookup n = some x → ∃ y, v.lookup n = some y ∧ R K mg H y x
  | _, _, n, x, .nil, h => by cases h
  | _, _, n, x, .cons (n := m) h r, e => by
    rw [List.lookup_cons] at e ⊢
    cases q : n == m with
    | true => rw [q] at e; cases e; exact ⟨_, rfl, h⟩
    | false => rw [q] at e; exact RF.lookup r e
theorem Rs.length : ∀ {v : List V} {d : List D}, Rs K mg H v d → v.length = d.length
  | _, _, .nil => rfl
  | _, _, .cons _ r => congrArg (· + 1) (Rs.length r)
theorem Rs.get : ∀ {v : List V} {d : List D} {i : Nat} {x : D}, Rs K mg H v d → d[i]? = some x → ∃ y, v[i]? = some y ∧ R K mg H y x
  | _, _, _, _, .nil, h => by simp at h
  | _, _, 0, _, .cons h r, e => by simp at e; subst e; exact ⟨_, rfl, h⟩
  | _, _, i + 1, _, .cons h r, e => by
    obtain ⟨y, h1, h2⟩ := Rs.get (i := i) r (by simpa using e)
    exact ⟨y, by simpa using h1, h2⟩
theorem Rs.getV : ∀ {v : List V} {d : List D} {i : Nat} {y : V}, Rs K mg H v d → v[i]? = some y → ∃ x, d[i]? = some x ∧ R K mg H y x
  | _, _, _, _, .nil, h => by simp at h
  | _, _, 0, _, .cons h r, e => by simp at e; subst e; exact ⟨_, rfl, h⟩
  | _, _, i + 1, _, .cons h r, e => by
    obtain ⟨y, h1, h2⟩ := Rs.getV (i := i) r (by simpa using e)
    exact ⟨y, by simpa using h1, h2⟩
theorem Rs.append : ∀ {v w : List V} {d e : List D}, Rs K mg H v d → Rs K mg H w e → Rs K mg H (v ++ w) (d ++ e)
  | _, _, _, _, .nil, h => h
  | _, _, _, _, .cons h r, q => .cons h (Rs.append r q)
theorem Rs.set {y : V} {x : D} (q : R K mg H y x) : ∀ {v : List V} {d : List D} (i : Nat), Rs K mg H v d → Rs K mg H (v.set i y) (d.set i x)
  | _, _, _, .nil => .nil
  | _, _, 0, .cons _ r => .cons q r
  | _, _, i + 1, .cons h r => .cons h (Rs.set q i r)
theorem Rs.take : ∀ {v : List V} {d : List D} (n : Nat), Rs K mg H v d → Rs K mg H (v.take n) (d.take n)
  | _, _, 0, _ => by simp; exact .nil
  | _, _, _ + 1, .nil => .nil
  | _, _, n + 1, .cons h r => .cons h (Rs.take n r)
theorem Rs.drop : ∀ {v : List V} {d : List D} (n : Nat), Rs K mg H v d → Rs K mg H (v.drop n) (d.drop n)
  | _, _, 0, r => r
  | _, _, _ + 1, .nil => .nil
  | _, _, n + 1, .cons h r => Rs.drop n r
theorem Rs.reverse : ∀ {v : List V} {d : List D}, Rs K mg H v d → Rs K mg H v.reverse d.reverse
  | _, _, .nil => .nil
  | _, _, .cons h r => by simp only [List.reverse_cons]; exact (Rs.reverse r).append (.cons h .nil)
theorem Rs.replicate {y : V} {x : D} (q : R K mg H y x) : ∀ n, Rs K mg H (List.replicate n y) (List.replicate n x)
  | 0 => .nil
  | n + 1 => by simp only [List.replicate_succ]; exact .cons q (Rs.replicate q n)
theorem Rs.ints : ∀ {v : List V} {l : List Int}, Rs K mg H v (l.map D.int) → v = l.map V.int
  | _, [], .nil => rfl
  | _, i :: l, .cons (.int _) r => by rw [Rs.ints r]; rfl
theorem Rs.of_ints : ∀ {l : List Int}, Rs K mg H (l.map V.int) (l.map D.int)
  | [] => .nil
  | i :: l => .cons (.int i) Rs.of_ints
theorem Rs.bools : ∀ {v : List V} {l : List Bool}, Rs K mg H v (l.map D.bl) → v = l.map V.bl
  | _, [], .nil => rfl
  | _, i :: l, .cons (.bl _) r => by rw [Rs.bools r]; rfl
theorem Rs.strs : ∀ {v : List V} {l : List Str}, Rs K mg H v (l.map D.str) → v = l.map V.str
  | _, [], .nil => rfl
  | _, i :: l, .cons (.str _) r => by rw [Rs.strs r]; rfl
end
/-- needs no heap -/
def atom : D → Bool
  | .lst _ => false
  | .tup _ => false
  | .exn _ _ _ => false
  | .ins _ _ => false
  | .dic _ => false
  | _ => true
theorem R.atom {K : PySem.W.Frag} {mg : Str → Option Value} {H H' : Hp} {v : V} {d : D} (h : R K mg H v d) (a : atom d = true) : R K mg H' v d := by
  cases h with
  | non => exact .non
  | bl b => exact .bl b
  | int b => exact .int b
  | str b => exact .str b
  | lst _ _ => cases a
  | tup _ _ => cases a
  | adr b => exact .adr b
  | exn _ _ => cases a
  | ins _ _ _ => cases a
  | dic _ _ => cases a

/-! ### what the def owns -/
inductive O where
  | imm (d : D) | lst (l : List O)
mutual
inductive Ow (K : PySem.W.Frag) (mg : Str → Option Value) (I H : Hp) : V → O → List Addr → Prop
  | imm {v : V} {d : D} : R K mg I v d → Ow K mg I H v (.imm d) []
  | lst {p : Addr} {xs : List V} {os : List O} {T : List Addr} : H p = some (.lst xs) → Ows K mg I H xs os T → Ow K mg I H (.ref p) (.lst os) (p :: T)
inductive Ows (K : PySem.W.Frag) (mg : Str → Option Value) (I H : Hp) : List V → List O → List Addr → Prop
  | nil : Ows K mg I H [] [] []
  | cons {v : V} {o : O} {vs : List V} {os : List O} {T T' : List Addr} : Ow K mg I H v o T → Ows K mg I H vs os T' → Ows K mg I H (v :: vs) (o :: os) (T ++ T')
end
section
variable {K : PySem.W.Frag} {mg : Str → Option Value} {I I' H H' : Hp}
mutual
theorem Ow.mono (e : Same I I') : ∀ {v : V} {o : O} {T : List Addr}, Ow K mg I H v o T → (∀ p ∈ T, H' p = H p) → Ow K mg I' H' v o T
  | _, _, _, .imm r, _ => .imm (r.mono e)
  | _, _, _, .lst h r, k => .lst ((k _ List.mem_cons_self).trans h) (Ows.mono e r fun p hp => k p (List.mem_cons_of_mem _ hp))
theorem Ows.mono (e : Same I I') : ∀ {v : List V} {o : List O} {T : List Addr}, Ows K mg I H v o T → (∀ p ∈ T, H' p = H p) → Ows K mg I' H' v o T
  | _, _, _, .nil, _ => .nil
  | _, _, _, .cons h r, k => .cons (Ow.mono e h fun p hp => k p (List.mem_append_left _ hp)) (Ows.mono e r fun p hp => k p (List.mem_append_right _ hp))
end
end
/-- all of it as data -/
def O.toD : O → D
  | .imm d => d
  | .lst l => .lst (l.attach.map fun ⟨o, _⟩ => o.toD)
theorem O.toD_imm (d : D) : (O.imm d).toD = d := by unfold O.toD; rfl
theorem O.toD_lst (l : List O) : (O.lst l).toD = .lst (l.map O.toD) := by
  unfold O.toD
  simp
section
variable {K : PySem.W.Frag} {mg : Str → Option Value} {I H : Hp}
mutual
/-- in a heap that holds both -/
theorem Ow.toR {G : Hp} (e : Same I G) : ∀ {v : V} {o : O} {T : List Addr}, Ow K mg I H v o T → (∀ p ∈ T, G p = H p) → R K mg G v o.toD
  | _, _, _, .imm r, _ => by rw [O.toD_imm]; exact r.mono e
  | _, _, _, .lst h r, k => by rw [O.toD_lst]; exact .lst (.of ((k _ List.mem_cons_self).trans h)) (Ows.toR e r fun p hp => k p (List.mem_cons_of_mem _ hp))
theorem Ows.toR {G : Hp} (e : Same I G) : ∀ {v : List V} {o : List O} {T : List Addr}, Ows K mg I H v o T → (∀ p ∈ T, G p = H p) → Rs K mg G v (o.map O.toD)
  | _, _, _, .nil, _ => .nil
  | _, _, _, .cons h r, k => .cons (Ow.toR e h fun p hp => k p (List.mem_append_left _ hp)) (Ows.toR e r fun p hp => k p (List.mem_append_right _ hp))
end
/-- lists of plain things -/
theorem Ows.of_imm : ∀ {v : List V} {d : List D}, Rs K mg I v d → Ows K mg I H v (d.map O.imm) []
  | _, _, .nil => .nil
  | _, _, .cons h r => .cons (T := []) (T' := []) (.imm h) (Ows.of_imm r)
theorem Ows.imm : ∀ {v : List V} {d : List D} {T : List Addr}, Ows K mg I H v (d.map O.imm) T → T = [] ∧ Rs K mg I v d
  | _, [], _, .nil => ⟨rfl, .nil⟩
  | _, d :: ds, _, .cons (.imm h) r => by
    obtain ⟨e, q⟩ := Ows.imm r
    subst e
    exact ⟨rfl, .cons h q⟩
end

/-! ### slots -/
inductive SL where
  | any | val (o : O)
inductive Sls (K : PySem.W.Frag) (mg : Str → Option Value) (I H : Hp) : L2.St → List SL → List Addr → Prop
  | nil : Sls K mg I H [] [] []
  | any {x : Option V} {σ : L2.St} {Γ : List SL} {T : List Addr} : Sls K mg I H σ Γ T → Sls K mg I H (x :: σ) (.any :: Γ) T
  | val {v : V} {o : O} {σ : L2.St} {Γ : List SL} {T T' : List Addr} : Ow K mg I H v o T → Sls K mg I H σ Γ T' → Sls K mg I H (some v :: σ) (.val o :: Γ) (T ++ T')

/-- from one pair of worlds to the next: I immutable, H all; T owned -/
structure Wd (I0 H0 I H : Hp) (T : List Addr) : Prop where
  ih : Same I H
  i0 : Same I0 I
  h0 : Same H0 H
  fr : ∀ p ∈ T, I p = none ∧ H0 p = none
  nd : T.Nodup
  sep : ∀ p, H0 p ≠ none → I0 p = none → I p = none
abbrev Gr (I H I' H' : Hp) : Prop := Wd I H I' H' []
theorem Gr.refl {I H : Hp} (h : Same I H) : Gr I H I H := ⟨h, .refl _, .refl _, fun _ z => (nomatch z), List.nodup_nil, fun _ _ z => z⟩
theorem Wd.gr {I0 H0 I H I' H' : Hp} {T : List Addr} (w : Wd I0 H0 I H T) (hT : ∀ p ∈ T, H p ≠ none) (g : Gr I H I' H') : Wd I0 H0 I' H' T :=
  ⟨g.ih, w.i0.trans g.i0, w.h0.trans g.h0, fun p hp => ⟨g.sep p (hT p hp) (w.fr p hp).1, (w.fr p hp).2⟩, w.nd, fun p h h' => by
    have h1 := w.sep p h h'
    refine g.sep p ?_ h1
    cases q : H0 p with
    | none => exact absurd q h
    | some o => rw [w.h0 p o q]; simp⟩
theorem Gr.trans {I H I1 H1 I2 H2 : Hp} (a : Gr I H I1 H1) (b : Gr I1 H1 I2 H2) : Gr I H I2 H2 := Wd.gr a (fun _ z => (nomatch z)) b
/-- a new immutable object -/
theorem Gr.new {I H : Hp} {p : Addr} {o : HO} (h : Same I H) (hp : H p = none) : Gr I H (upd I p o) (upd H p o) := by
  have ip : I p = none := h.free hp
  refine ⟨fun b u e => ?_, fun b u e => ?_, fun b u e => ?_, fun _ z => (nomatch z), List.nodup_nil, fun b hb hi => ?_⟩
  · by_cases hbp : b = p
    · subst hbp; rw [upd_same] at e ⊢; exact e
    · rw [upd_ne hbp] at e ⊢; exact h b u e
  · rw [upd_ne (ne_of_none e ip)]; exact e
  · rw [upd_ne (ne_of_none e hp)]; exact e
  · rw [upd_ne (fun z => hb (by rw [z]; exact hp))]; exact hi
theorem Gr.refl' {I0 H0 I H : Hp} {T : List Addr} (h : Wd I0 H0 I H T) : Gr I H I H := .refl h.ih

section
variable {K : PySem.W.Frag} {mg : Str → Option Value} {I H I' H' : Hp}
mutual
theorem Ow.there : ∀ {v : V} {o : O} {T : List Addr}, Ow K mg I H v o T → ∀ p ∈ T, ∃ xs, H p = some (.lst xs)
  | _, _, _, .imm _, _, h => nomatch h
  | _, _, _, .lst h r, p, hp => by
    rcases List.mem_cons.mp hp with e | e
    · subst e; exact ⟨_, h⟩
    · exact Ows.there r p e
theorem Ows.there : ∀ {v : List V} {o : List O} {T : List Addr}, Ows K mg I H v o T → ∀ p ∈ T, ∃ xs, H p = some (.lst xs)
  | _, _, _, .nil, _, h => nomatch h
  | _, _, _, .cons h r, p, hp => by
    rcases List.mem_append.mp hp with e | e
    · exact Ow.there h p e
    · exact Ows.there r p e
end
theorem Sls.there : ∀ {σ : L2.St} {Γ : List SL} {T : List Addr}, Sls K mg I H σ Γ T → ∀ p ∈ T, ∃ xs, H p = some (.lst xs)
  | _, _, _, .nil, _, h => nomatch h
  | _, _, _, .any r, p, hp => Sls.there r p hp
  | _, _, _, .val h r, p, hp => by
    rcases List.mem_append.mp hp with e | e
    · exact Ow.there h p e
    · exact Sls.there r p e
theorem Sls.mono (e : Same I I') : ∀ {σ : L2.St} {Γ : List SL} {T : List Addr}, Sls K mg I H σ Γ T → (∀ p ∈ T, H' p = H p) → Sls K mg I' H' σ Γ T
  | _, _, _, .nil, _ => .nil
  | _, _, _, .any r, k => .any (Sls.mono e r k)
  | _, _, _, .val h r, k => .val (Ow.mono e h fun p hp => k p (List.mem_append_left _ hp)) (Sls.mono e r fun p hp => k p (List.mem_append_right _ hp))
theorem Sls.length : ∀ {σ : L2.St} {Γ : List SL} {T : List Addr}, Sls K mg I H σ Γ T → σ.length = Γ.length
  | _, _, _, .nil => rfl
  | _, _, _, .any r => congrArg (· + 1) (Sls.length r)
  | _, _, _, .val _ r => congrArg (· + 1) (Sls.length r)
theorem Sls.gr {σ : L2.St} {Γ : List SL} {T : List Addr} (s : Sls K mg I H σ Γ T) (g : Gr I H I' H') : Sls K mg I' H' σ Γ T :=
  s.mono g.i0 fun p hp => by
    obtain ⟨xs, e⟩ := s.there p hp
    rw [e]; exact g.h0 p _ e
/-- what a slot holds -/
theorem Sls.get : ∀ {σ : L2.St} {Γ : List SL} {T : List Addr} {i : Nat} {o : O}, Sls K mg I H σ Γ T → Γ[i]? = some (.val o) → ∃ v T1 T2 T3, σ[i]? = some (some v) ∧ T = T1 ++ (T2 ++ T3) ∧ Ow K mg I H v o T2
  | _, _, _, _, _, .nil, h => by simp at h
  | _, _, _, 0, _, .any r, h => by simp at h
  | _, _, _, 0, _, .val (T := T) (T' := T') q r, h => by simp at h; subst h; exact ⟨_, [], T, T', rfl, by simp, q⟩
  | _, _, _, i + 1, _, .any r, h => by
    obtain ⟨v, T1, T2, T3, h1, h2, h3⟩ := Sls.get (i := i) r (by simpa using h)
    exact ⟨v, T1, T2, T3, by simpa using h1, h2, h3⟩
  | _, _, _, i + 1, _, .val (T := T) (T' := T') q r, h => by
    obtain ⟨v, T1, T2, T3, h1, h2, h3⟩ := Sls.get (i := i) r (by simpa using h)
    exact ⟨v, T ++ T1, T2, T3, by simpa using h1, by rw [h2]; simp [List.append_assoc], h3⟩
theorem Sls.imm {σ : L2.St} {Γ : List SL} {T : List Addr} {i : Nat} {d : D} (s : Sls K mg I H σ Γ T) (h : Γ[i]? = some (.val (.imm d))) : ∃ v, σ[i]? = some (some v) ∧ R K mg I v d := by
  obtain ⟨v, T1, T2, T3, h1, h2, h3⟩ := s.get h
  cases h3 with
  | imm r => exact ⟨v, h1, r⟩
/-- a slot is given anew; what stood there goes -/
theorem Sls.put : ∀ {σ : L2.St} {Γ : List SL} {T T2 : List Addr} {i : Nat} {v : V} {o : O}, Sls K mg I H σ Γ T → i < Γ.length → Ow K mg I H v o T2 →
    ∃ T', Sls K mg I H (σ.set i (some v)) (Γ.set i (.val o)) T' ∧ (∀ p, p ∈ T' → p ∈ T2 ∨ p ∈ T) ∧ ((T2 ++ T).Nodup → T'.Nodup)
  | _, _, _, _, i, _, _, .nil, h, _ => by simp at h
  | _, _, _, T2, 0, v, o, .any r, _, q => ⟨_, .val q r, fun p hp => List.mem_append.mp hp, fun n => n⟩
  | _, _, _, T2, 0, v, o, .val (T := T) (T' := T') _ r, _, q => ⟨_, .val q r, fun p hp => (List.mem_append.mp hp).imp id fun z => List.mem_append_right _ z, fun n => by
      refine n.sublist ?_
      exact (List.Sublist.refl _).append (List.sublist_append_right _ _)⟩
  | _, _, _, T2, i + 1, v, o, .any r, h, q => by
    obtain ⟨T', s, k, n⟩ := Sls.put (i := i) r (by simpa using h) q
    exact ⟨T', .any s, k, n⟩
  | _, _, _, T2, i + 1, v, o, .val (T := T) (T' := T') w r, h, q => by
    obtain ⟨T3, s, k, n⟩ := Sls.put (i := i) r (by simpa using h) q
    refine ⟨T ++ T3, .val w s, fun p hp => ?_, fun nd => ?_⟩
    · rcases List.mem_append.mp hp with z | z
      · exact .inr (List.mem_append_left _ z)
      · exact (k p z).imp id fun z => List.mem_append_right _ z
    · obtain ⟨n1, n2, n3⟩ := List.nodup_append.mp nd
      obtain ⟨m1, m2, m3⟩ := List.nodup_append.mp n2
      refine List.nodup_append.mpr ⟨m1, n (List.nodup_append.mpr ⟨n1, m2, fun a ha b hb => n3 a ha b (List.mem_append_right _ hb)⟩), fun a ha b hb => ?_⟩
      rcases k b hb with z | z
      · exact fun e => n3 b z a (List.mem_append_left _ ha) e.symm
      · exact m3 a ha b z
/-- what is forgotten -/
inductive Sub : List SL → List SL → Prop
  | nil : Sub [] []
  | any {a : SL} {Γ Γ' : List SL} : Sub Γ Γ' → Sub (a :: Γ) (.any :: Γ')
  | eq {a : SL} {Γ Γ' : List SL} : Sub Γ Γ' → Sub (a :: Γ) (a :: Γ')
theorem Sub.refl : ∀ Γ, Sub Γ Γ
  | [] => .nil
  | a :: Γ => .eq (Sub.refl Γ)
theorem Sls.sub : ∀ {σ : L2.St} {Γ Γ' : List SL} {T : List Addr}, Sub Γ Γ' → Sls K mg I H σ Γ T → ∃ T', Sls K mg I H σ Γ' T' ∧ T'.Sublist T
  | _, _, _, _, .nil, .nil => ⟨[], .nil, .refl _⟩
  | _, _, _, _, .any w, .any r => let ⟨T', s, k⟩ := Sls.sub w r; ⟨T', .any s, k⟩
  | _, _, _, _, .any w, .val h r => let ⟨T', s, k⟩ := Sls.sub w r; ⟨T', .any s, k.trans (List.sublist_append_right _ _)⟩
  | _, _, _, _, .eq w, .any r => let ⟨T', s, k⟩ := Sls.sub w r; ⟨T', .any s, k⟩
  | _, _, _, _, .eq w, .val h r => let ⟨T', s, k⟩ := Sls.sub w r; ⟨_ ++ T', .val h s, (List.Sublist.refl _).append k⟩
end

/-- an expression's match: immutable world, all, slots -/
structure Mw (K : PySem.W.Frag) (mg : Str → Option Value) (Γ : List SL) (σ : L2.St) (I H : Hp) (T : List Addr) : Prop where
  ih : Same I H
  fr : ∀ p ∈ T, I p = none
  nd : T.Nodup
  sl : Sls K mg I H σ Γ T
theorem Mw.gr {K : PySem.W.Frag} {mg : Str → Option Value} {Γ : List SL} {σ : L2.St} {I H I' H' : Hp} {T : List Addr} (m : Mw K mg Γ σ I H T) (g : Gr I H I' H') : Mw K mg Γ σ I' H' T :=
  ⟨g.ih, fun p hp => g.sep p (by obtain ⟨xs, e⟩ := m.sl.there p hp; rw [e]; simp) (m.fr p hp), m.nd, m.sl.gr g⟩
/-- a statement's -/
structure Mt (K : PySem.W.Frag) (mg : Str → Option Value) (I0 H0 : Hp) (Γ : List SL) (σ : L2.St) (I H : Hp) (T : List Addr) : Prop where
  wd : Wd I0 H0 I H T
  sl : Sls K mg I H σ Γ T
section
variable {K : PySem.W.Frag} {mg : Str → Option Value} {I0 H0 : Hp} {Γ Γ' : List SL} {σ : L2.St} {I H I' H' : Hp} {T : List Addr}
theorem Mt.mw (m : Mt K mg I0 H0 Γ σ I H T) : Mw K mg Γ σ I H T := ⟨m.wd.ih, fun p hp => (m.wd.fr p hp).1, m.wd.nd, m.sl⟩
theorem Mt.gr (m : Mt K mg I0 H0 Γ σ I H T) (g : Gr I H I' H') : Mt K mg I0 H0 Γ σ I' H' T :=
  ⟨m.wd.gr (fun p hp => by obtain ⟨xs, e⟩ := m.sl.there p hp; rw [e]; simp) g, m.sl.gr g⟩
theorem Wd.subl {T' : List Addr} (w : Wd I0 H0 I H T) (h : T'.Sublist T) : Wd I0 H0 I H T' := ⟨w.ih, w.i0, w.h0, fun p hp => w.fr p (h.subset hp), w.nd.sublist h, w.sep⟩
theorem Mt.sub (m : Mt K mg I0 H0 Γ σ I H T) (h : Sub Γ Γ') : ∃ T', Mt K mg I0 H0 Γ' σ I H T' := by
  obtain ⟨T', s, k⟩ := m.sl.sub h
  exact ⟨T', m.wd.subl k, s⟩
theorem Mt.put {i : Nat} {v : V} {o : O} {T2 : List Addr} (m : Mt K mg I0 H0 Γ σ I H T) (hi : i < Γ.length) (q : Ow K mg I H v o T2) (w : Wd I0 H0 I H (T2 ++ T)) :
    ∃ T', Mt K mg I0 H0 (Γ.set i (.val o)) (σ.set i (some v)) I H T' := by
  obtain ⟨T', s, k, n⟩ := m.sl.put hi q
  exact ⟨T', ⟨w.ih, w.i0, w.h0, fun p hp => w.fr p ((k p hp).elim (List.mem_append_left _) (List.mem_append_right _)), n w.nd, w.sep⟩, s⟩
theorem Mt.putI {i : Nat} {v : V} {d : D} (m : Mt K mg I0 H0 Γ σ I H T) (hi : i < Γ.length) (q : R K mg I v d) : ∃ T', Mt K mg I0 H0 (Γ.set i (.val (.imm d))) (σ.set i (some v)) I H T' :=
  m.put hi (.imm q) m.wd
end
end Vc

set_option Elab.async false
set_option linter.all false
set_option maxRecDepth 100000
namespace Vc
open PySem PySem.Spec PyProof.Rows L2

/-! ### typed data -/
class Enc (α : Type) where
  enc : α → D
open Enc (enc)
class Atm (α : Type) [Enc α] : Prop where
  atm : ∀ a : α, atom (enc a) = true
instance : Enc Int := ⟨D.int⟩
instance : Enc Bool := ⟨D.bl⟩
instance : Enc Str := ⟨D.str⟩
instance : Enc Unit := ⟨fun _ => .non⟩
instance {α : Type} [Enc α] : Enc (List α) := ⟨fun l => .lst (l.map enc)⟩
instance {α : Type} [Enc α] : Enc (Option α) := ⟨fun o => match o with | none => .non | some a => enc a⟩
instance {α β : Type} [Enc α] [Enc β] : Enc (α ⊕ β) := ⟨fun o => match o with | .inl a => enc a | .inr a => enc a⟩
instance {α β : Type} [Enc α] [Enc β] : Enc (α × β) := ⟨fun p => .tup [enc p.1, enc p.2]⟩
/-- a tuple of any length -/
structure Tup (α : Type) where
  l : List α
instance {α : Type} [Enc α] : Enc (Tup α) := ⟨fun p => .tup (p.l.map enc)⟩
structure T3 (α β γ : Type) where
  a : α
  b : β
  c : γ
  deriving DecidableEq
structure T4 (α β γ δ : Type) where
  a : α
  b : β
  c : γ
  d : δ
  deriving DecidableEq
structure T5 (α β γ δ ε : Type) where
  a : α
  b : β
  c : γ
  d : δ
  e : ε
  deriving DecidableEq
instance {α β γ : Type} [Enc α] [Enc β] [Enc γ] : Enc (T3 α β γ) := ⟨fun p => .tup [enc p.a, enc p.b, enc p.c]⟩
instance {α β γ δ : Type} [Enc α] [Enc β] [Enc γ] [Enc δ] : Enc (T4 α β γ δ) := ⟨fun p => .tup [enc p.a, enc p.b, enc p.c, enc p.d]⟩
instance {α β γ δ ε : Type} [Enc α] [Enc β] [Enc γ] [Enc δ] [Enc ε] : Enc (T5 α β γ δ ε) := ⟨fun p => .tup [enc p.a, enc p.b, enc p.c, enc p.d, enc p.e]⟩
instance : Atm Int := ⟨fun _ => rfl⟩
instance : Atm Bool := ⟨fun _ => rfl⟩
instance : Atm Str := ⟨fun _ => rfl⟩
instance : Atm Unit := ⟨fun _ => rfl⟩
instance {α : Type} [Enc α] [Atm α] : Atm (Option α) := ⟨fun o => match o with | none => rfl | some a => Atm.atm a⟩
instance {α β : Type} [Enc α] [Enc β] [Atm α] [Atm β] : Atm (α ⊕ β) := ⟨fun o => match o with | .inl a => Atm.atm a | .inr a => Atm.atm a⟩

abbrev sI {α : Type} [Enc α] (a : α) : SL := .val (.imm (enc a))
/-- an owned list -/
def ow1 {α : Type} [Enc α] (l : List α) : O := .lst (l.map fun a => O.imm (enc a))
/-- an owned list of owned lists -/
def ow2 {α : Type} [Enc α] (l : List (List α)) : O := .lst (l.map ow1)
abbrev sO {α : Type} [Enc α] (l : List α) : SL := .val (ow1 l)
theorem ow1_toD {α : Type} [Enc α] (l : List α) : (ow1 l).toD = enc l := by
  unfold ow1
  rw [O.toD_lst]
  show D.lst _ = D.lst _
  rw [List.map_map]
  congr 1
  apply List.map_congr_left
  intro a _
  exact O.toD_imm _

/-! ### exceptions -/
structure ExcAt (K : PySem.W.Frag) (mg : Str → Option Value) (I : Hp) (ex : Exn) (cl : Value) (d : Option Addr) : Prop where
  cls : mg ex.nm = some cl
  non : ex.fs = [] → d = none
  fld : ex.fs ≠ [] → ∃ dd vs, d = some dd ∧ I dd = some (.xd vs) ∧ RF K mg I vs ex.fs

/-! ### canonical readings -/
structure tOf (X : Cx) (e : Expr) (σ : L2.St) (H : Hp) (Q : VK) : Prop where
  run : ∀ pins s, Inv X pins σ H s → wpAny (model X.prog X.w) X.A (eval e X.env) (EP X pins σ Q) X.xe s
structure kOf (X : Cx) (e : Expr) (σ : L2.St) (H : Hp) (Q : Bool → Hp → Prop) : Prop where
  run : ∀ pins s, Inv X pins σ H s → wpAny (model X.prog X.w) X.A (isTrue e X.env (eval e X.env)) (TP X pins σ Q) X.xe s
structure wOf (X : Cx) (e : Expr) (σ : L2.St) (H : Hp) (Q : Bool → Hp → Prop) : Prop where
  run : ∀ whole pins s, Inv X pins σ H s → wpAny (model X.prog X.w) X.A (isTrue e X.env whole) (TP X pins σ Q) X.xe s
structure aOf (X : Cx) (es : List Expr) (σ : L2.St) (H : Hp) (Q : List V → Hp → Prop) : Prop where
  run : ∀ pos pins s, Inv X pins σ H s → wpAny (model X.prog X.w) X.A (spliced (backTo pos (starEach es X.env))) (AP X pins σ Q) X.xe s
structure sOf (X : Cx) (st : List Stmt) (D : Ends) (σ : L2.St) (H : Hp) : Prop where
  run : ∀ pins s, Inv X pins σ H s → wpAny (model X.prog X.w) X.A (execs st X.env) (SP X pins D) X.xe s
structure s1Of (X : Cx) (st : Stmt) (D : Ends) (σ : L2.St) (H : Hp) : Prop where
  run : ∀ pins s, Inv X pins σ H s → wpAny (model X.prog X.w) X.A (exec st X.env) (SP X pins D) X.xe s
structure gOf (X : Cx) (tg : Expr) (v : V) (σ : L2.St) (H : Hp) (Q : L2.St → Hp → Prop) : Prop where
  run : ∀ pins s u, Inv X pins σ H s → RelV v u → wpAny (model X.prog X.w) X.A (assign tg X.env u) (fun _ s' => ∃ σ' H', Inv X pins σ' H' s' ∧ Q σ' H') X.xe s
structure gsOf (X : Cx) (ts : List Expr) (vs : List V) (σ : L2.St) (H : Hp) (Q : L2.St → Hp → Prop) : Prop where
  run : ∀ pins s us, Inv X pins σ H s → Vals vs us → wpAny (model X.prog X.w) X.A (assignInOrder ((assignEach ts X.env).map (·.2)) us) (fun _ s' => ∃ σ' H', Inv X pins σ' H' s' ∧ Q σ' H') X.xe s
structure iOf (X : Cx) (tg e : Expr) (σ : L2.St) (H : Hp) (R : It → Hp → Prop) : Prop where
  run : ∀ pins s, Inv X pins σ H s → wpAny (model X.prog X.w) X.A (eval e X.env) (fun v s1 => wpAny (model X.prog X.w) X.A (pyIter v) (PIE X pins σ tg R) X.xe s1) X.xe s
section
variable {X : Cx} {e tg : Expr} {es : List Expr} {st : Stmt} {sts : List Stmt}
theorem pe_of : PE X e (tOf X e) := ⟨fun pins s σ H Q I h => h.run pins s I⟩
theorem pt_of : PT X e (kOf X e) := ⟨fun pins s σ H Q I h => h.run pins s I⟩
theorem pw_of : PW X e (wOf X e) := ⟨fun wh pins s σ H Q I h => h.run wh pins s I⟩
theorem pa_of : PA X es (aOf X es) := ⟨fun pos pins s σ H Q I h => h.run pos pins s I⟩
theorem pss_of : PSs X sts (sOf X sts) := ⟨fun pins s σ H D I h => h.run pins s I⟩
theorem ps_of : PS X st (s1Of X st) := ⟨fun pins s σ H D I h => h.run pins s I⟩
theorem pg_of : PG X tg (gOf X tg) := ⟨fun pins s σ H v u Q I r h => h.run pins s u I r⟩
theorem pgs_of : PGs X es (gsOf X es) := ⟨fun pins s σ H v u Q I r h => h.run pins s u I r⟩
theorem pi_of : PI X tg e (iOf X tg e) := ⟨fun pins s σ H R I h => h.run pins s I⟩
theorem to_t {t : TE} {σ : L2.St} {H : Hp} {Q : VK} (p : PE X e t) (h : t σ H Q) : tOf X e σ H Q := ⟨fun pins s I => p.run pins s σ H Q I h⟩
theorem to_k {t : TT} {σ : L2.St} {H : Hp} {Q : Bool → Hp → Prop} (p : PT X e t) (h : t σ H Q) : kOf X e σ H Q := ⟨fun pins s I => p.run pins s σ H Q I h⟩
theorem to_w {t : TT} {σ : L2.St} {H : Hp} {Q : Bool → Hp → Prop} (p : PW X e t) (h : t σ H Q) : wOf X e σ H Q := ⟨fun wh pins s I => p.run wh pins s σ H Q I h⟩
theorem to_a {t : TA} {σ : L2.St} {H : Hp} {Q : List V → Hp → Prop} (p : PA X es t) (h : t σ H Q) : aOf X es σ H Q := ⟨fun pos pins s I => p.run pos pins s σ H Q I h⟩
theorem to_s {t : TS} {σ : L2.St} {H : Hp} {D : Ends} (p : PSs X sts t) (h : t D σ H) : sOf X sts D σ H := ⟨fun pins s I => p.run pins s σ H D I h⟩
theorem to_s1 {t : TS} {σ : L2.St} {H : Hp} {D : Ends} (p : PS X st t) (h : t D σ H) : s1Of X st D σ H := ⟨fun pins s I => p.run pins s σ H D I h⟩
theorem to_g {t : TG} {v : V} {σ : L2.St} {H : Hp} {Q : L2.St → Hp → Prop} (p : PG X tg t) (h : t v σ H Q) : gOf X tg v σ H Q := ⟨fun pins s u I r => p.run pins s σ H v u Q I r h⟩
theorem to_gs {t : TGs} {v : List V} {σ : L2.St} {H : Hp} {Q : L2.St → Hp → Prop} (p : PGs X es t) (h : t v σ H Q) : gsOf X es v σ H Q := ⟨fun pins s u I r => p.run pins s σ H v u Q I r h⟩
theorem to_i {t : TI} {σ : L2.St} {H : Hp} {R : It → Hp → Prop} (p : PI X tg e t) (h : t σ H R) : iOf X tg e σ H R := ⟨fun pins s I => p.run pins s σ H R I h⟩
end

/-! ### judgements -/
/-- where the value may be read: all that stands (true), or the immutable world -/
def wsel (b : Bool) (I H : Hp) : Hp := if b then H else I
theorem wsel_same {b : Bool} {I H I' H' : Hp} (g : Gr I H I' H') : Same (wsel b I H) (wsel b I' H') := by
  cases b
  · exact g.i0
  · exact g.h0
theorem wsel_le {b : Bool} {I H : Hp} (h : Same I H) : Same (wsel b I H) H := by
  cases b
  · exact h
  · exact .refl _
def XO (X : Cx) (W : WX) (σ : L2.St) (I H : Hp) (ex : Exn) : Prop := ∀ cl d I' H', Gr I H I' H' → ExcAt X.K X.mg I' ex cl d → W cl d σ H'
/-- e's value in Γ is m's -/
def VX (b : Bool) (X : Cx) (Γ : List SL) (e : Expr) {α : Type} [Enc α] (m : M α) : Prop :=
  ∀ (W : WX), L2N.Takes X W → ∀ σ I H T, Mw X.K X.mg Γ σ I H T → ∀ Q : VK,
    Out m (fun a => ∀ v I' H', Gr I H I' H' → R X.K X.mg (wsel b I' H') v (enc a) → Q v H') (XO X W σ I H) → tOf X e σ H Q
abbrev VE (X : Cx) (Γ : List SL) (e : Expr) {α : Type} [Enc α] (m : M α) : Prop := VX false X Γ e m
/-- the value is new and owned -/
def VO (X : Cx) (Γ : List SL) (e : Expr) {α : Type} (o : α → O) (m : M α) : Prop :=
  ∀ (W : WX), L2N.Takes X W → ∀ σ I H T, Mw X.K X.mg Γ σ I H T → ∀ Q : VK,
    Out m (fun a => ∀ v I' H' T2, Wd I H I' H' T2 → Ow X.K X.mg I' H' v (o a) T2 → Q v H') (XO X W σ I H) → tOf X e σ H Q
/-- a test -/
def VT (X : Cx) (Γ : List SL) (e : Expr) (m : M Bool) : Prop :=
  ∀ (W : WX), L2N.Takes X W → ∀ σ I H T, Mw X.K X.mg Γ σ I H T → ∀ Q : Bool → Hp → Prop,
    Out m (fun a => ∀ I' H', Gr I H I' H' → Q a H') (XO X W σ I H) → kOf X e σ H Q
def VW (X : Cx) (Γ : List SL) (e : Expr) (m : M Bool) : Prop :=
  ∀ (W : WX), L2N.Takes X W → ∀ σ I H T, Mw X.K X.mg Γ σ I H T → ∀ Q : Bool → Hp → Prop,
    Out m (fun a => ∀ I' H', Gr I H I' H' → Q a H') (XO X W σ I H) → wOf X e σ H Q
/-- arguments -/
def VA (b : Bool) (X : Cx) (Γ : List SL) (es : List Expr) {A : Type} (ea : A → List D) (m : M A) : Prop :=
  ∀ (W : WX), L2N.Takes X W → ∀ σ I H T, Mw X.K X.mg Γ σ I H T → ∀ Q : List V → Hp → Prop,
    Out m (fun a => ∀ vs I' H', Gr I H I' H' → Rs X.K X.mg (wsel b I' H') vs (ea a) → Q vs H') (XO X W σ I H) → aOf X es σ H Q

theorem XO.gr {X : Cx} {W : WX} {σ : L2.St} {I H I' H' : Hp} {ex : Exn} (h : XO X W σ I H ex) (g : Gr I H I' H') : XO X W σ I' H' ex := fun cl d I2 H2 g2 a => h cl d I2 H2 (g.trans g2) a

section
variable {X : Cx} {Γ : List SL} {e a b c : Expr} {es : List Expr} {pos : Pos} {α β γ : Type} [Enc α] [Enc β] [Enc γ] {w w' : Bool}
theorem VX.le {m : M α} (h : VE X Γ e m) : VX w X Γ e m := fun W tk σ I H T mw Q o => h W tk σ I H T mw Q (o.mono (fun a _ k v I' H' g r => k v I' H' g (by
  cases w
  · exact r
  · exact r.mono g.ih)) fun _ _ k => k)
theorem VX.br {m : M α} (h : VX w X Γ e m) : VX true X Γ e m := fun W tk σ I H T mw Q o => h W tk σ I H T mw Q (o.mono (fun a _ k v I' H' g r => k v I' H' g (by
  cases w
  · exact r.mono g.ih
  · exact r)) fun _ _ k => k)
theorem VX.atm [Atm α] {m : M α} (h : VX w X Γ e m) : VX w' X Γ e m := fun W tk σ I H T mw Q o => h W tk σ I H T mw Q (o.mono (fun a _ k v I' H' g r => k v I' H' g (r.atom (Atm.atm a))) fun _ _ k => k)
/-- what the reading of an expression asks, from what is known of its values -/
theorem VX.ap {m : M α} (h : VX w X Γ e m) {W : WX} (tk : L2N.Takes X W) {σ : L2.St} {I H : Hp} {T : List Addr} (mw : Mw X.K X.mg Γ σ I H T) {Q : VK} {P : α → Prop} {E : Exn → Prop} (o : Out m P E)
    (hP : ∀ a, m = .ok a → P a → ∀ v I' H', Gr I H I' H' → R X.K X.mg (wsel w I' H') v (enc a) → Q v H') (hE : ∀ ex, E ex → XO X W σ I H ex) : tOf X e σ H Q :=
  h W tk σ I H T mw Q (o.mono hP fun ex _ k => hE ex k)
theorem VX.congr {m m' : M α} (h : VX w X Γ e m) (q : m = m') : VX w X Γ e m' := q ▸ h

/-! ### names, constants -/
theorem ve_var (i : Nat) {x : Str} {p : Pos} {a : α} (hΓ : Γ[i]? = some (sI a) := by rfl) (hN : X.N[i]? = some x := by rfl) (hv : Vis X.env.scope x := by first | exact Or.inl rfl | exact Or.inr (Or.inl rfl) | exact Or.inr (Or.inr rfl))
    (hd : (x == ("__debug__" : Str)) = false := by decide) (hcd : (x == ("__classdict__" : Str)) = false := by decide) : VX w X Γ (.Name x p) (.ok a) := fun W tk σ I H T mw Q o => by
  obtain ⟨v, h1, r⟩ := mw.sl.imm hΓ
  exact to_t (pe_var hN hv hd hcd) ⟨v, h1, o v I H (.refl mw.ih) (by
    cases w
    · exact r
    · exact r.mono mw.ih)⟩
/-- an owned name, read -/
theorem vb_own (i : Nat) {x : Str} {p : Pos} {l : List α} (hΓ : Γ[i]? = some (sO l) := by rfl) (hN : X.N[i]? = some x := by rfl) (hv : Vis X.env.scope x := by first | exact Or.inl rfl | exact Or.inr (Or.inl rfl) | exact Or.inr (Or.inr rfl))
    (hd : (x == ("__debug__" : Str)) = false := by decide) (hcd : (x == ("__classdict__" : Str)) = false := by decide) : VX true X Γ (.Name x p) (M.ok l) := fun W tk σ I H T mw Q o => by
  obtain ⟨v, T1, T2, T3, h1, h2, r⟩ := mw.sl.get hΓ
  refine to_t (pe_var hN hv hd hcd) ⟨v, h1, o v I H (.refl mw.ih) ?_⟩
  have q := r.toR (G := H) mw.ih fun _ _ => rfl
  rw [ow1_toD] at q
  exact q
theorem ve_int {i : Int} {j : Nat} : VX w X Γ (.Constant (.int i) j pos) (M.ok i) := fun W tk σ I H T mw Q o => to_t pe_int (o _ I H (.refl mw.ih) (.int i))
theorem ve_bl {i : Bool} {j : Nat} : VX w X Γ (.Constant (.bool i) j pos) (M.ok i) := fun W tk σ I H T mw Q o => to_t pe_bl (o _ I H (.refl mw.ih) (.bl i))
theorem ve_str {i : Str} {j : Nat} : VX w X Γ (.Constant (.str i) j pos) (M.ok i) := fun W tk σ I H T mw Q o => to_t pe_str (o _ I H (.refl mw.ih) (.str i))
theorem ve_non {j : Nat} : VX w X Γ (.Constant .none j pos) (M.ok ()) := fun W tk σ I H T mw Q o => to_t pe_non (o _ I H (.refl mw.ih) .non)
/-- a constant of the module -/
theorem ve_glob {x : Str} {v : V} {u : Value} {p : Pos} {a : α} (hg : Gl X x) (hm : X.mg x = some u) (r : RelV v u) (h : ∀ H, R X.K X.mg H v (enc a)) (hd : (x == ("__debug__" : Str)) = false := by decide) : VX w X Γ (.Name x p) (.ok a) :=
  fun W tk σ I H T mw Q o => to_t (pe_glob hg hm r hd) (o _ I H (.refl mw.ih) (h _))

/-! ### operators -/
/-- an operator that takes values to a value -/
theorem ve_bin {op : Operator} {r : R2} {m1 : M α} {m2 : M β} {f : α → β → M γ} (ho : OpR X (binaryOp op) r) (ha : VX true X Γ a m1) (hb : VX true X Γ b m2)
    (hr : ∀ x y I H v u, Same I H → R X.K X.mg H v (enc x) → R X.K X.mg H u (enc y) → ∀ Q : VK, Out (f x y) (fun z => ∀ t I' H', Gr I H I' H' → R X.K X.mg (wsel w I' H') t (enc z) → Q t H') (fun _ => False) → r v u H Q)
    (hx : ∀ x y e, f x y ≠ .exc e) : VX w X Γ (.BinOp a op b pos) (m1 >>= fun x => m2 >>= fun y => f x y) := fun W tk σ I H T mw Q o => by
  refine to_t (pe_op ho pe_of pe_of) (ha.ap tk mw o.bind (fun x _ o1 v I1 H1 g1 r1 => ?_) fun _ z => z)
  refine hb.ap tk (mw.gr g1) o1.bind (fun y _ o2 u I2 H2 g2 r2 => ?_) fun _ z => z.gr g1
  refine hr x y I2 H2 v u g2.ih (r1.mono g2.h0) r2 Q (o2.mono (fun z _ k t I' H' g rr => k t I' H' ((g1.trans g2).trans g) rr) fun e q _ => hx x y e q)
theorem ve_binI {op : Operator} {g : Int → Int → Int} {m1 m2 : M Int} (ho : OpR X (binaryOp op) (rI0 fun i j => .int (g i j))) (ha : VX true X Γ a m1) (hb : VX true X Γ b m2) : VX w X Γ (.BinOp a op b pos) (m1 >>= fun x => m2 >>= fun y => M.ok (g x y)) :=
  ve_bin ho ha hb (fun x y I H v u s r1 r2 Q o => by
    cases r1; cases r2
    exact ⟨x, y, rfl, rfl, o _ I H (.refl s) (.int _)⟩) fun _ _ _ z => nomatch z
theorem ve_binC {op : Operator} {C : Int → Int → Prop} [∀ x y, Decidable (C x y)] {g : Int → Int → Int} {m1 m2 : M Int} (ho : OpR X (binaryOp op) (rI C fun i j => .int (g i j))) (ha : VX true X Γ a m1) (hb : VX true X Γ b m2) :
    VX w X Γ (.BinOp a op b pos) (m1 >>= fun x => m2 >>= fun y => chk (C x y) >>= fun _ => M.ok (g x y)) :=
  ve_bin ho ha hb (fun x y I H v u s r1 r2 Q o => by
    cases r1; cases r2
    obtain ⟨hc, o⟩ := o.chk
    exact ⟨x, y, rfl, rfl, hc, o _ I H (.refl s) (.int _)⟩) fun _ _ _ z => by unfold chk at z; split at z <;> cases z
theorem ve_neg {m : M Int} (ha : VX true X Γ a m) : VX w X Γ (.UnaryOp .USub a pos) (m >>= fun x => M.ok (-x)) := fun W tk σ I H T mw Q o => by
  refine to_t (pe_un un_neg pe_of) (ha.ap tk mw o.bind (fun x _ o1 v I1 H1 g1 r1 => ?_) fun _ z => z)
  cases r1
  exact ⟨x, rfl, o1 _ I1 H1 g1 (.int _)⟩
/-- comparisons of ints -/
theorem ve_cmp {op : CmpOp} {r : R2} {m1 : M α} {m2 : M β} {f : α → β → M Bool} (ho : OpR X (compareOp op) r) (ha : VX true X Γ a m1) (hb : VX true X Γ b m2) (hm : behindInMarks op b = false)
    (hr : ∀ x y H v u, R X.K X.mg H v (enc x) → R X.K X.mg H u (enc y) → ∀ Q : VK, Out (f x y) (fun z => Q (.bl z) H) (fun _ => False) → r v u H Q) (hx : ∀ x y e, f x y ≠ .exc e) : VX w X Γ (.Compare a [op] [b] pos) (m1 >>= fun x => m2 >>= fun y => f x y) := fun W tk σ I H T mw Q o => by
  refine to_t (pe_cmpR ho pe_of pe_of hm) (ha.ap tk mw o.bind (fun x _ o1 v I1 H1 g1 r1 => ?_) fun _ z => z)
  refine hb.ap tk (mw.gr g1) o1.bind (fun y _ o2 u I2 H2 g2 r2 => ?_) fun _ z => z.gr g1
  refine hr x y H2 v u (r1.mono g2.h0) r2 Q (o2.mono (fun z _ k => k _ I2 H2 (g1.trans g2) (.bl z)) fun e q _ => hx x y e q)
theorem vt_cmp {op : CmpOp} {r : R2} {m1 : M α} {m2 : M β} {f : α → β → M Bool} (ho : OpR X (compareOp op) r) (ha : VX true X Γ a m1) (hb : VX true X Γ b m2) (hm : behindInMarks op b = false)
    (hr : ∀ x y H v u, R X.K X.mg H v (enc x) → R X.K X.mg H u (enc y) → ∀ Q : VK, Out (f x y) (fun z => Q (.bl z) H) (fun _ => False) → r v u H Q) (hx : ∀ x y e, f x y ≠ .exc e) : VT X Γ (.Compare a [op] [b] pos) (m1 >>= fun x => m2 >>= fun y => f x y) := fun W tk σ I H T mw Q o => by
  refine to_k (pt_cmpR ho pe_of pe_of hm) (ha.ap tk mw o.bind (fun x _ o1 v I1 H1 g1 r1 => ?_) fun _ z => z)
  refine hb.ap tk (mw.gr g1) o1.bind (fun y _ o2 u I2 H2 g2 r2 => ?_) fun _ z => z.gr g1
  refine hr x y H2 v u (r1.mono g2.h0) r2 _ (o2.mono (fun z _ k => ⟨z, rfl, k I2 H2 (g1.trans g2)⟩) fun e q _ => hx x y e q)
theorem ve_cmpI {op : CmpOp} {p : Int → Int → Bool} {m1 m2 : M Int} (ho : OpR X (compareOp op) (rI0 fun i j => .bl (p i j))) (ha : VX true X Γ a m1) (hb : VX true X Γ b m2) (hm : behindInMarks op b = false) :
    VX w X Γ (.Compare a [op] [b] pos) (m1 >>= fun x => m2 >>= fun y => M.ok (p x y)) := ve_cmp ho ha hb hm (fun x y H v u r1 r2 Q o => by
    cases r1; cases r2
    exact ⟨x, y, rfl, rfl, o⟩) fun _ _ _ z => nomatch z
theorem vt_cmpI {op : CmpOp} {p : Int → Int → Bool} {m1 m2 : M Int} (ho : OpR X (compareOp op) (rI0 fun i j => .bl (p i j))) (ha : VX true X Γ a m1) (hb : VX true X Γ b m2) (hm : behindInMarks op b = false) :
    VT X Γ (.Compare a [op] [b] pos) (m1 >>= fun x => m2 >>= fun y => M.ok (p x y)) := vt_cmp ho ha hb hm (fun x y H v u r1 r2 Q o => by
    cases r1; cases r2
    exact ⟨x, y, rfl, rfl, o⟩) fun _ _ _ z => nomatch z
/-! scalars by == -/
class Scl (α : Type) [Enc α] [DecidableEq α] : Prop where
  eq : ∀ (K : PySem.W.Frag) (mg : Str → Option Value) (H : Hp) (x y : α) (v u : V), R K mg H v (enc x) → R K mg H u (enc y) → scal v u = true ∧ decide (v = u) = decide (x = y)
instance : Scl Int := ⟨fun K mg H x y v u a b => by cases a; cases b; exact ⟨rfl, by rw [dec_int]; by_cases h : x = y <;> simp [h]⟩⟩
instance : Scl Bool := ⟨fun K mg H x y v u a b => by cases a; cases b; exact ⟨rfl, by rw [dec_bl]; by_cases h : x = y <;> simp [h]⟩⟩
instance : Scl Str := ⟨fun K mg H x y v u a b => by cases a; cases b; exact ⟨rfl, by rw [dec_str]; by_cases h : x = y <;> simp [h]⟩⟩
variable [DecidableEq α] [Scl α]
theorem ve_eq {m1 m2 : M α} (ha : VX true X Γ a m1) (hb : VX true X Γ b m2) : VX w X Γ (.Compare a [.Eq] [b] pos) (m1 >>= fun x => m2 >>= fun y => M.ok (decide (x = y))) := ve_cmp op_eq ha hb (nomark _) (fun x y H v u r1 r2 Q o => by
    obtain ⟨h1, h2⟩ := Scl.eq X.K X.mg H x y v u r1 r2
    exact ⟨h1, by rw [h2]; exact o⟩) fun _ _ _ z => nomatch z
theorem vt_eq {m1 m2 : M α} (ha : VX true X Γ a m1) (hb : VX true X Γ b m2) : VT X Γ (.Compare a [.Eq] [b] pos) (m1 >>= fun x => m2 >>= fun y => M.ok (decide (x = y))) := vt_cmp op_eq ha hb (nomark _) (fun x y H v u r1 r2 Q o => by
    obtain ⟨h1, h2⟩ := Scl.eq X.K X.mg H x y v u r1 r2
    exact ⟨h1, by rw [h2]; exact o⟩) fun _ _ _ z => nomatch z
theorem ve_ne {m1 m2 : M α} (ha : VX true X Γ a m1) (hb : VX true X Γ b m2) : VX w X Γ (.Compare a [.NotEq] [b] pos) (m1 >>= fun x => m2 >>= fun y => M.ok (!decide (x = y))) := ve_cmp op_ne ha hb (nomark _) (fun x y H v u r1 r2 Q o => by
    obtain ⟨h1, h2⟩ := Scl.eq X.K X.mg H x y v u r1 r2
    exact ⟨h1, by rw [h2]; exact o⟩) fun _ _ _ z => nomatch z
theorem vt_ne {m1 m2 : M α} (ha : VX true X Γ a m1) (hb : VX true X Γ b m2) : VT X Γ (.Compare a [.NotEq] [b] pos) (m1 >>= fun x => m2 >>= fun y => M.ok (!decide (x = y))) := vt_cmp op_ne ha hb (nomark _) (fun x y H v u r1 r2 Q o => by
    obtain ⟨h1, h2⟩ := Scl.eq X.K X.mg H x y v u r1 r2
    exact ⟨h1, by rw [h2]; exact o⟩) fun _ _ _ z => nomatch z
end

/-! ### tests -/
section
variable {X : Cx} {Γ : List SL} {e a b c : Expr} {rest : List Expr} {pos : Pos} {α β γ : Type} [Enc α] {w w' : Bool}
theorem vt_val {m : M Bool} (h : VX true X Γ e m) (he : ∀ whole, isTrue e X.env whole = (do let v ← whole; standAt e.pos; holding [v] (truthy v)) := by intro _; rfl) : VT X Γ e m := fun W tk σ I H T mw Q o =>
  to_k (pt_val pe_of he) (h W tk σ I H T mw _ (o.mono (fun k _ z v I' H' g r => by cases r; exact ⟨k, rfl, z I' H' g⟩) fun _ _ z => z))
theorem VT.ap {m : M Bool} (h : VT X Γ e m) {W : WX} (tk : L2N.Takes X W) {σ : L2.St} {I H : Hp} {T : List Addr} (mw : Mw X.K X.mg Γ σ I H T) {Q : Bool → Hp → Prop} {P : Bool → Prop} {E : Exn → Prop} (o : Out m P E)
    (hP : ∀ a, m = .ok a → P a → ∀ I' H', Gr I H I' H' → Q a H') (hE : ∀ ex, E ex → XO X W σ I H ex) : kOf X e σ H Q := h W tk σ I H T mw Q (o.mono hP fun ex _ k => hE ex k)
theorem VW.ap {m : M Bool} (h : VW X Γ e m) {W : WX} (tk : L2N.Takes X W) {σ : L2.St} {I H : Hp} {T : List Addr} (mw : Mw X.K X.mg Γ σ I H T) {Q : Bool → Hp → Prop} {P : Bool → Prop} {E : Exn → Prop} (o : Out m P E)
    (hP : ∀ a, m = .ok a → P a → ∀ I' H', Gr I H I' H' → Q a H') (hE : ∀ ex, E ex → XO X W σ I H ex) : wOf X e σ H Q := h W tk σ I H T mw Q (o.mono hP fun ex _ k => hE ex k)
theorem VW.vt {m : M Bool} (h : VW X Γ e m) : VT X Γ e m := fun W tk σ I H T mw Q o => to_k pw_of.pt (h W tk σ I H T mw Q o)
theorem vw_and1 {m : M Bool} (h : VT X Γ a m) : VW X Γ (.BoolOp .And [a] pos) m := fun W tk σ I H T mw Q o => to_w (pw_and1 pt_of) (h W tk σ I H T mw Q o)
theorem vw_or1 {m : M Bool} (h : VT X Γ a m) : VW X Γ (.BoolOp .Or [a] pos) m := fun W tk σ I H T mw Q o => to_w (pw_or1 pt_of) (h W tk σ I H T mw Q o)
/-- a and b, a or b, by what is known -/
def bAnd (m1 m2 : M Bool) : M Bool := m1 >>= fun x => if x then m2 else .ok false
def bOr (m1 m2 : M Bool) : M Bool := m1 >>= fun x => if x then .ok true else m2
@[simp] theorem bAnd_t (m : M Bool) : bAnd (.ok true) m = m := rfl
@[simp] theorem bAnd_f (m : M Bool) : bAnd (.ok false) m = .ok false := rfl
@[simp] theorem bOr_t (m : M Bool) : bOr (.ok true) m = .ok true := rfl
@[simp] theorem bOr_f (m : M Bool) : bOr (.ok false) m = m := rfl
theorem bAnd_ok (x y : Bool) : bAnd (.ok x) (.ok y) = .ok (x && y) := by cases x <;> rfl
theorem bOr_ok (x y : Bool) : bOr (.ok x) (.ok y) = .ok (x || y) := by cases x <;> rfl
theorem vw_and {m1 m2 : M Bool} (h : VT X Γ a m1) (h2 : VW X Γ (.BoolOp .And (b :: rest) pos) m2) : VW X Γ (.BoolOp .And (a :: b :: rest) pos) (bAnd m1 m2) := fun W tk σ I H T mw Q o => by
  refine to_w (pw_and pt_of pw_of) (h.ap tk mw o.bind (fun x _ o1 I1 H1 g1 => ?_) fun _ z => z)
  cases x with
  | true => exact iteT (h2.ap tk (mw.gr g1) o1 (fun y _ k I2 H2 g2 => k I2 H2 (g1.trans g2)) fun _ z => z.gr g1)
  | false => exact iteF (o1 I1 H1 g1)
theorem vw_or {m1 m2 : M Bool} (h : VT X Γ a m1) (h2 : VW X Γ (.BoolOp .Or (b :: rest) pos) m2) : VW X Γ (.BoolOp .Or (a :: b :: rest) pos) (bOr m1 m2) := fun W tk σ I H T mw Q o => by
  refine to_w (pw_or pt_of pw_of) (h.ap tk mw o.bind (fun x _ o1 I1 H1 g1 => ?_) fun _ z => z)
  cases x with
  | true => exact iteT (o1 I1 H1 g1)
  | false => exact iteF (h2.ap tk (mw.gr g1) o1 (fun y _ k I2 H2 g2 => k I2 H2 (g1.trans g2)) fun _ z => z.gr g1)
theorem vt_not {m : M Bool} (h : VT X Γ a m) : VT X Γ (.UnaryOp .Not a pos) (m >>= fun x => M.ok (!x)) := fun W tk σ I H T mw Q o =>
  to_k (pt_not pt_of) (h.ap tk mw o.bind (fun x _ o1 I1 H1 g1 => o1 I1 H1 g1) fun _ z => z)
/-! values of and, or, not -/
theorem ve_one {op : BoolOp} {m : M Bool} (h : VX w X Γ a m) : VX w X Γ (.BoolOp op [a] pos) m := fun W tk σ I H T mw Q o => to_t (pe_one pe_of) (h W tk σ I H T mw Q o)
theorem ve_and {m1 m2 : M Bool} (h : VX true X Γ a m1) (h2 : VX true X Γ (.BoolOp .And (b :: rest) pos) m2) : VX w X Γ (.BoolOp .And (a :: b :: rest) pos) (bAnd m1 m2) := fun W tk σ I H T mw Q o => by
  refine to_t (pe_and pe_of pe_of) (h.ap tk mw o.bind (fun x _ o1 v I1 H1 g1 r1 => ?_) fun _ z => z)
  cases r1
  refine ⟨x, rfl, ?_⟩
  cases x with
  | true => exact iteT (h2.ap tk (mw.gr g1) o1 (fun y _ k u I2 H2 g2 r2 => k u I2 H2 (g1.trans g2) (by cases r2; exact .bl y)) fun _ z => z.gr g1)
  | false => exact iteF (o1 _ I1 H1 g1 (.bl _))
theorem ve_or {m1 m2 : M Bool} (h : VX true X Γ a m1) (h2 : VX true X Γ (.BoolOp .Or (b :: rest) pos) m2) : VX w X Γ (.BoolOp .Or (a :: b :: rest) pos) (bOr m1 m2) := fun W tk σ I H T mw Q o => by
  refine to_t (pe_or pe_of pe_of) (h.ap tk mw o.bind (fun x _ o1 v I1 H1 g1 r1 => ?_) fun _ z => z)
  cases r1
  refine ⟨x, rfl, ?_⟩
  cases x with
  | true => exact iteT (o1 _ I1 H1 g1 (.bl _))
  | false => exact iteF (h2.ap tk (mw.gr g1) o1 (fun y _ k u I2 H2 g2 r2 => k u I2 H2 (g1.trans g2) (by cases r2; exact .bl y)) fun _ z => z.gr g1)
theorem ve_not {m : M Bool} (h : VX true X Γ a m) : VX w X Γ (.UnaryOp .Not a pos) (m >>= fun x => M.ok (!x)) := fun W tk σ I H T mw Q o =>
  to_t (pe_not pe_of) (h.ap tk mw o.bind (fun x _ o1 v I1 H1 g1 r1 => by cases r1; exact ⟨x, rfl, o1 _ I1 H1 g1 (.bl _)⟩) fun _ z => z)
theorem ve_ite {m : M Bool} {m1 m2 : M α} (h : VT X Γ c m) (h1 : VX w X Γ a m1) (h2 : VX w X Γ b m2) : VX w X Γ (.IfExp c a b pos) (m >>= fun x => if x then m1 else m2) := fun W tk σ I H T mw Q o => by
  refine to_t (pe_ifExp pt_of pe_of pe_of) (h.ap tk mw o.bind (fun x _ o1 I1 H1 g1 => ?_) fun _ z => z)
  cases x with
  | true => exact iteT (h1.ap tk (mw.gr g1) o1 (fun y _ k u I2 H2 g2 r2 => k u I2 H2 (g1.trans g2) r2) fun _ z => z.gr g1)
  | false => exact iteF (h2.ap tk (mw.gr g1) o1 (fun y _ k u I2 H2 g2 r2 => k u I2 H2 (g1.trans g2) r2) fun _ z => z.gr g1)
end

/-! ### arguments -/
section
variable {X : Cx} {Γ : List SL} {e : Expr} {es : List Expr} {pos : Pos} {α A : Type} [Enc α] {w : Bool}
def eNil : Unit → List D := fun _ => []
def eCons {α A : Type} [Enc α] (ea : A → List D) : α × A → List D := fun p => enc p.1 :: ea p.2
theorem va_nil : VA w X Γ [] eNil (M.ok ()) := fun W tk σ I H T mw Q o => to_a pa_nil (o [] I H (.refl mw.ih) .nil)
theorem va_cons {m1 : M α} {ea : A → List D} {m2 : M A} (h : VX w X Γ e m1) (h2 : VA w X Γ es ea m2) (hs : starEach (e :: es) X.env = (false, eval e X.env) :: starEach es X.env := by rfl) :
    VA w X Γ (e :: es) (eCons ea) (m1 >>= fun x => m2 >>= fun y => M.ok (x, y)) := fun W tk σ I H T mw Q o => by
  refine to_a (pa_cons pe_of pa_of hs) (h.ap tk mw o.bind (fun x _ o1 v I1 H1 g1 r1 => ?_) fun _ z => z)
  refine h2 W tk σ I1 H1 T (mw.gr g1) _ (o1.bind.mono (fun y _ k vs I2 H2 g2 r2 => ?_) fun _ _ z => z.gr g1)
  exact k (v :: vs) I2 H2 (g1.trans g2) (.cons (r1.mono (wsel_same g2)) r2)
theorem VA.ap {ea : A → List D} {m : M A} (h : VA w X Γ es ea m) {W : WX} (tk : L2N.Takes X W) {σ : L2.St} {I H : Hp} {T : List Addr} (mw : Mw X.K X.mg Γ σ I H T) {Q : List V → Hp → Prop} {P : A → Prop} {E : Exn → Prop} (o : Out m P E)
    (hP : ∀ a, m = .ok a → P a → ∀ vs I' H', Gr I H I' H' → Rs X.K X.mg (wsel w I' H') vs (ea a) → Q vs H') (hE : ∀ ex, E ex → XO X W σ I H ex) : aOf X es σ H Q := h W tk σ I H T mw Q (o.mono hP fun ex _ k => hE ex k)
end
end Vc

set_option Elab.async false
set_option linter.all false
set_option maxRecDepth 100000
namespace Vc
open PySem PySem.Spec PyProof.Rows L2
open Enc (enc)

/-! ### targets -/
theorem wipe_set_comm (σ : L2.St) : ∀ (vs : List Nat) (i : Nat), wipe (σ.set i none) vs = (wipe σ vs).set i none
  | [], _ => rfl
  | v :: vs, i => by
    show (wipe (σ.set i none) vs).set v none = ((wipe σ vs).set v none).set i none
    rw [wipe_set_comm σ vs i]
    by_cases h : i = v
    · subst h; rfl
    · rw [List.set_comm _ _ h]
theorem wipe_wipe (σ : L2.St) : ∀ (us vs : List Nat), wipe (wipe σ us) vs = wipe (wipe σ vs) us
  | [], _ => rfl
  | u :: us, vs => by
    show wipe ((wipe σ us).set u none) vs = (wipe (wipe σ vs) us).set u none
    rw [wipe_set_comm, wipe_wipe σ us vs]
theorem wipe_append (σ : L2.St) : ∀ (us vs : List Nat), wipe σ (us ++ vs) = wipe (wipe σ vs) us
  | [], _ => rfl
  | u :: us, vs => by
    show (wipe σ (us ++ vs)).set u none = _
    rw [wipe_append σ us vs]
    rfl
/-- a value of type α stored at tg: the slots vs change, Γ becomes u a Γ -/
def VG (X : Cx) (n : Nat) (tg : Expr) (vs : List Nat) {α : Type} [Enc α] (u : α → List SL → List SL) : Prop :=
  ∀ Γ, Γ.length = n → ∀ v a σ I H T, Mw X.K X.mg Γ σ I H T → R X.K X.mg I v (enc a) → ∀ Q : L2.St → Hp → Prop,
    (∀ σ' T', wipe σ' vs = wipe σ vs → (u a Γ).length = n → Sls X.K X.mg I H σ' (u a Γ) T' → (∀ p ∈ T', p ∈ T) → T'.Nodup → Q σ' H) → gOf X tg v σ H Q
def VGs (X : Cx) (n : Nat) (ts : List Expr) (vs : List Nat) {A : Type} (ea : A → List D) (u : A → List SL → List SL) : Prop :=
  ∀ Γ, Γ.length = n → ∀ us a σ I H T, Mw X.K X.mg Γ σ I H T → Rs X.K X.mg I us (ea a) → ∀ Q : L2.St → Hp → Prop,
    (∀ σ' T', wipe σ' vs = wipe σ vs → (u a Γ).length = n → Sls X.K X.mg I H σ' (u a Γ) T' → (∀ p ∈ T', p ∈ T) → T'.Nodup → Q σ' H) → gsOf X ts us σ H Q
section
variable {X : Cx} {n : Nat} {pos : Pos} {α A : Type} [Enc α]
theorem vg_name (i : Nat) {x : Str} (hN : X.N.Nodup) (hi : X.N[i]? = some x := by rfl) (hn : Nat.blt i n = true := by rfl) (hx : Loc X.env.scope x := by first | exact .inl rfl | exact .inr rfl) (hf : X.fn x = true ∨ X.env.scope.names.lookup x = some .local := by first | exact .inl rfl | exact .inr rfl) :
    VG X n (.Name x pos) [i] (fun a Γ => Γ.set i (sI a) : α → List SL → List SL) := fun Γ hl v a σ I H T mw r Q k => by
  refine to_g (pg_name hN hi hx hf) ?_
  obtain ⟨T', s, c, d⟩ := mw.sl.put (i := i) (by rw [hl]; exact Nat.blt_eq.mp hn) (Ow.imm r)
  refine k _ T' ?_ (by simpa using hl) s (fun p hp => (c p hp).elim (fun z => nomatch z) id) (d mw.nd)
  show (σ.set i (some v)).set i none = σ.set i none
  rw [List.set_set]
theorem vgs_nil : VGs X n [] [] eNil (fun _ Γ => Γ) := fun Γ hl us a σ I H T mw r Q k => by
  cases r
  exact to_gs pgs_nil ⟨rfl, k σ T rfl hl mw.sl (fun _ h => h) mw.nd⟩
theorem vgs_cons {tg : Expr} {ts : List Expr} {vs ws : List Nat} {u : α → List SL → List SL} {ea : A → List D} {u2 : A → List SL → List SL} (h1 : VG X n tg vs u) (h2 : VGs X n ts ws ea u2)
    (hs : (assignEach (tg :: ts) X.env).map (·.2) = assign tg X.env :: (assignEach ts X.env).map (·.2) := by rfl) : VGs X n (tg :: ts) (vs ++ ws) (eCons ea) (fun a Γ => u2 a.2 (u a.1 Γ)) := fun Γ hl us a σ I H T mw r Q k => by
  cases r with
  | cons r1 r2 =>
    refine to_gs (pgs_cons pg_of pgs_of hs) ⟨_, _, rfl, h1 Γ hl _ a.1 σ I H T mw r1 _ fun σ1 T1 w1 l1 s1 c1 d1 => ?_⟩
    refine h2 _ l1 _ a.2 σ1 I H T1 ⟨mw.ih, fun p hp => mw.fr p (c1 p hp), d1, s1⟩ r2 _ fun σ2 T2 w2 l2 s2 c2 d2 => k σ2 T2 ?_ l2 s2 (fun p hp => c1 p (c2 p hp)) d2
    rw [wipe_append, w2, wipe_wipe, w1, wipe_wipe, ← wipe_append]
theorem vg_tup {es : List Expr} {kk m : Nat} {vs : List Nat} {ea : A → List D} {u : A → List SL → List SL} (f : α → A) (hc : X.calm = true) (h : VGs X n es vs ea u) (he : ∀ a : α, enc a = .tup (ea (f a))) (hm : ∀ a : α, (ea (f a)).length = m)
    (hn : (assignEach es X.env).length = m := by rfl) (hst : (assignEach es X.env).findIdx? (·.1) = none := by rfl) : VG X n (.Tuple es kk pos) vs (fun a Γ => u (f a) Γ) := fun Γ hl v a σ I H T mw r Q k => by
  rw [he a] at r
  cases r with
  | tup hs r =>
    refine to_g (pg_tup hc pgs_of hn hst) ⟨_, _, rfl, Same.seqT mw.ih hs, by rw [r.length, hm], ?_⟩
    exact h Γ hl _ (f a) σ I H T mw r Q k
end

/-! ### statements -/
structure Eds (τ : Type) where
  nx : List SL → τ → Prop := fun _ _ => False
  rt : O → τ → Prop := fun _ _ => False
  bk : List SL → τ → Prop := fun _ _ => False
  ct : List SL → τ → Prop := fun _ _ => False
structure DO (X : Cx) (I0 H0 : Hp) {τ : Type} (E : Eds τ) (D : Ends) (t : τ) : Prop where
  nx : ∀ Γ' σ' I' H' T', E.nx Γ' t → Mt X.K X.mg I0 H0 Γ' σ' I' H' T' → D.nx σ' H'
  bk : ∀ Γ' σ' I' H' T', E.bk Γ' t → Mt X.K X.mg I0 H0 Γ' σ' I' H' T' → D.bk σ' H'
  ct : ∀ Γ' σ' I' H' T', E.ct Γ' t → Mt X.K X.mg I0 H0 Γ' σ' I' H' T' → D.ct σ' H'
  rt : ∀ o v I' H' T', E.rt o t → Wd I0 H0 I' H' T' → Ow X.K X.mg I' H' v o T' → D.rt v H'
def XS (X : Cx) (W : WX) (I0 H0 : Hp) (Γx : List SL) (ex : Exn) : Prop := ∀ cl d σ' I' H' T', Mt X.K X.mg I0 H0 Γx σ' I' H' T' → ExcAt X.K X.mg I' ex cl d → W cl d σ' H'
def VS (X : Cx) (Γ Γx : List SL) (sts : List Stmt) {τ : Type} (E : Eds τ) (m : M τ) : Prop :=
  ∀ (W : WX), L2N.Takes X W → ∀ I0 H0 σ I H T, Mt X.K X.mg I0 H0 Γ σ I H T → ∀ D : Ends, Out m (DO X I0 H0 E D) (XS X W I0 H0 Γx) → sOf X sts D σ H
theorem XS.xo {X : Cx} {W : WX} {I0 H0 : Hp} {Γ Γx : List SL} {σ : L2.St} {I H : Hp} {T : List Addr} {ex : Exn} (h : XS X W I0 H0 Γx ex) (mt : Mt X.K X.mg I0 H0 Γ σ I H T) (s : Sub Γ Γx) : XO X W σ I H ex := fun cl d I' H' g a => by
  obtain ⟨T', mt'⟩ := (mt.gr g).sub s
  exact h cl d σ I' H' T' mt' a
theorem Wd.ow {I0 H0 I H I' H' : Hp} {T T2 : List Addr} (w : Wd I0 H0 I H T) (hT : ∀ p ∈ T, H p ≠ none) (g : Wd I H I' H' T2) : Wd I0 H0 I' H' (T2 ++ T) :=
  ⟨g.ih, w.i0.trans g.i0, w.h0.trans g.h0, fun p hp => by
    rcases List.mem_append.mp hp with z | z
    · exact ⟨(g.fr p z).1, w.h0.free (g.fr p z).2⟩
    · exact ⟨g.sep p (hT p z) (w.fr p z).1, (w.fr p z).2⟩, List.nodup_append.mpr ⟨g.nd, w.nd, fun a ha b hb e => hT b hb (e ▸ (g.fr a ha).2)⟩, fun p h h' => by
    have h1 := w.sep p h h'
    refine g.sep p ?_ h1
    cases q : H0 p with
    | none => exact absurd q h
    | some o => rw [w.h0 p o q]; simp⟩
/-- what is owned becomes immutable -/
theorem Wd.freeze {K : PySem.W.Frag} {mg : Str → Option Value} {I0 H0 I H : Hp} {T T2 : List Addr} {v : V} {o : O} (w : Wd I0 H0 I H (T2 ++ T)) (q : Ow K mg I H v o T2) : ∃ I', Wd I0 H0 I' H T ∧ Same I I' ∧ R K mg I' v o.toD := by
  obtain ⟨n1, n2, n3⟩ := List.nodup_append.mp w.nd
  have e1 : Same I fun p => if p ∈ T2 then H p else I p := fun b u e => by
    have : b ∉ T2 := fun hb => by have := (w.fr b (List.mem_append_left _ hb)).1; rw [this] at e; cases e
    show (if b ∈ T2 then H b else I b) = some u
    rw [if_neg this]; exact e
  refine ⟨fun p => if p ∈ T2 then H p else I p, ⟨fun b u e => ?_, w.i0.trans e1, w.h0, fun p hp => ⟨?_, (w.fr p (List.mem_append_right _ hp)).2⟩, n2, fun p h h' => ?_⟩, e1, ?_⟩
  · have e : (if b ∈ T2 then H b else I b) = some u := e
    split at e
    · exact e
    · exact w.ih b u e
  · show (if p ∈ T2 then H p else I p) = none
    rw [if_neg fun z => n3 p z p hp rfl]
    exact (w.fr p (List.mem_append_right _ hp)).1
  · show (if p ∈ T2 then H p else I p) = none
    rw [if_neg fun z => h (w.fr p (List.mem_append_left _ z)).2]
    exact w.sep p h h'
  · exact q.toR (G := fun p => if p ∈ T2 then H p else I p) e1 fun p hp => by
      show (if p ∈ T2 then H p else I p) = H p
      rw [if_pos hp]
/-- a new owned list -/
theorem Wd.new {I H : Hp} {p : Addr} {o : HO} (h : Same I H) (hp : H p = none) : Wd I H I (upd H p o) [p] := by
  refine ⟨fun b u e => ?_, .refl _, fun b u e => ?_, fun b hb => ?_, by simp, fun _ _ z => z⟩
  · rw [upd_ne (ne_of_none (h b u e) hp)]; exact h b u e
  · rw [upd_ne (ne_of_none e hp)]; exact e
  · have e : b = p := by simpa using hb
    subst e
    exact ⟨h.free hp, hp⟩
/-- an owned list is changed -/
theorem Wd.put {I0 H0 I H : Hp} {T : List Addr} {p : Addr} {o : HO} (w : Wd I0 H0 I H T) (hp : p ∈ T) : Wd I0 H0 I (upd H p o) T := by
  refine ⟨fun b u e => ?_, w.i0, fun b u e => ?_, w.fr, w.nd, w.sep⟩
  · rw [upd_ne (ne_of_none e (w.fr p hp).1)]; exact w.ih b u e
  · rw [upd_ne (ne_of_none e (w.fr p hp).2)]; exact w.h0 b u e
section
variable {K : PySem.W.Frag} {mg : Str → Option Value} {I H : Hp}
/-- an owned list in a slot is changed -/
theorem Sls.chg : ∀ {σ : L2.St} {Γ : List SL} {T : List Addr} {i : Nat} {os : List O}, Sls K mg I H σ Γ T → T.Nodup → Γ[i]? = some (.val (.lst os)) → ∃ p xs T2, σ[i]? = some (some (.ref p)) ∧ p ∈ T ∧ H p = some (.lst xs) ∧ Ows K mg I H xs os T2 ∧ (∀ q ∈ T2, q ∈ T) ∧
    ∀ xs' os', Ows K mg I (upd H p (.lst xs')) xs' os' T2 → Sls K mg I (upd H p (.lst xs')) σ (Γ.set i (.val (.lst os'))) T
  | _, _, _, _, _, .nil, _, h => by simp at h
  | _, _, _, 0, _, .any r, _, h => by simp at h
  | _, _, _, 0, os, .val (T := T) (T' := T') q r, nd, h => by
    simp at h
    subst h
    cases q with
    | lst e w =>
      rename_i p xs T2
      obtain ⟨n1, n2, n3⟩ := List.nodup_append.mp nd
      refine ⟨p, xs, T2, rfl, by simp, e, w, fun q hq => List.mem_append_left _ (List.mem_cons_of_mem _ hq), fun xs' os' w' => .val (.lst upd_same w') (r.mono (.refl _) fun q hq => upd_ne fun z => n3 p List.mem_cons_self q hq z.symm)⟩
  | _, _, _, i + 1, os, .any r, nd, h => by
    obtain ⟨p, xs, T2, h1, h2, h3, h4, h5, h6⟩ := Sls.chg (i := i) r nd (by simpa using h)
    exact ⟨p, xs, T2, by simpa using h1, h2, h3, h4, h5, fun xs' os' w' => .any (h6 xs' os' w')⟩
  | _, _, _, i + 1, os, .val (T := T) (T' := T') q r, nd, h => by
    obtain ⟨n1, n2, n3⟩ := List.nodup_append.mp nd
    obtain ⟨p, xs, T2, h1, h2, h3, h4, h5, h6⟩ := Sls.chg (i := i) r n2 (by simpa using h)
    exact ⟨p, xs, T2, by simpa using h1, List.mem_append_right _ h2, h3, h4, fun q hq => List.mem_append_right _ (h5 q hq), fun xs' os' w' => .val (q.mono (.refl _) fun z hz => upd_ne fun y => n3 z hz p h2 y) (h6 xs' os' w')⟩
end

theorem VO.ap {X : Cx} {Γ : List SL} {e : Expr} {α : Type} {o : α → O} {m : M α} (h : VO X Γ e o m) {W : WX} (tk : L2N.Takes X W) {σ : L2.St} {I H : Hp} {T : List Addr} (mw : Mw X.K X.mg Γ σ I H T) {Q : VK} {P : α → Prop} {E : Exn → Prop} (ou : Out m P E)
    (hP : ∀ a, m = .ok a → P a → ∀ v I' H' T2, Wd I H I' H' T2 → Ow X.K X.mg I' H' v (o a) T2 → Q v H') (hE : ∀ ex, E ex → XO X W σ I H ex) : tOf X e σ H Q :=
  h W tk σ I H T mw Q (ou.mono hP fun ex _ k => hE ex k)
theorem VO.ve {X : Cx} {Γ : List SL} {e : Expr} {α : Type} [Enc α] {o : α → O} {m : M α} {w : Bool} (h : VO X Γ e o m) (ho : ∀ a, (o a).toD = enc a) : VX w X Γ e m := VX.le fun W tk σ I H T mw Q ou =>
  h.ap tk mw ou (fun a _ k v I' H' T2 wd q => by
    obtain ⟨I2, w2, s2, r2⟩ := Wd.freeze (T := []) (by simpa using wd) q
    exact k v I2 H' w2 (by rw [ho a] at r2; exact r2)) fun _ z => z
theorem VO.ve1 {X : Cx} {Γ : List SL} {e : Expr} {α : Type} [Enc α] {m : M (List α)} {w : Bool} (h : VO X Γ e ow1 m) : VX w X Γ e m := h.ve ow1_toD

section
variable {X : Cx} {Γ Γx : List SL} {e : Expr} {rest : List Stmt} {pos : Pos} {α : Type} [Enc α] {τ : Type} {E : Eds τ}
theorem vs_nil {t : τ} (h : E.nx Γ t) : VS X Γ Γx [] E (.ok t) := fun W tk I0 H0 σ I H T mt D o => to_s pss_nil (o.nx Γ σ I H T h mt)
/-- the rest -/
theorem rest_s {m : M τ} (h : VS X Γ Γx rest E m) {W : WX} (tk : L2N.Takes X W) {I0 H0 : Hp} {σ : L2.St} {I H : Hp} {T : List Addr} (mt : Mt X.K X.mg I0 H0 Γ σ I H T) {D : Ends} (o : Out m (DO X I0 H0 E D) (XS X W I0 H0 Γx)) : sOf X rest D σ H := h W tk I0 H0 σ I H T mt D o
theorem seq_s {st : Stmt} {D : Ends} {σ : L2.St} {H : Hp} (h : s1Of X st { D with nx := sOf X rest D } σ H) : sOf X (st :: rest) D σ H := to_s (pss_cons ps_of pss_of) h
/-- name = e -/
theorem vs_set (i : Nat) {x : Str} {p : Pos} {m : M α} {k : α → M τ} (hN : X.N.Nodup) (he : VE X Γ e m) (hk : ∀ a, VS X (Γ.set i (sI a)) Γx rest E (k a)) (hs : Sub Γ Γx) (hi : X.N[i]? = some x := by rfl) (hl : Nat.blt i Γ.length = true := by rfl) (hx : Loc X.env.scope x := by first | exact .inl rfl | exact .inr rfl)
    (hsw : swapsWith e (some (.Name x p)) pos.line X.env = pure false := by rfl) (hf : X.fn x = true ∨ X.env.scope.names.lookup x = some .local := by first | exact .inl rfl | exact .inr rfl) : VS X Γ Γx (.Assign [.Name x p] e pos :: rest) E (m >>= k) := fun W tk I0 H0 σ I H T mt D o => by
  refine seq_s (to_s1 (ps_set hN hi hx pe_of hsw hf) ?_)
  show tOf X e σ H _
  refine he.ap tk mt.mw o.bind (fun a _ o1 v I1 H1 g1 r1 => ?_) fun _ z => z.xo mt hs
  obtain ⟨T', mt'⟩ := (mt.gr g1).putI (Nat.blt_eq.mp hl) r1
  exact rest_s (hk a) tk mt' o1
/-- name = e, e new and owned -/
theorem vs_setO (i : Nat) {x : Str} {p : Pos} {ow : α → O} {m : M α} {k : α → M τ} (hN : X.N.Nodup) (he : VO X Γ e ow m) (hk : ∀ a, VS X (Γ.set i (.val (ow a))) Γx rest E (k a)) (hs : Sub Γ Γx) (hi : X.N[i]? = some x := by rfl) (hl : Nat.blt i Γ.length = true := by rfl) (hx : Loc X.env.scope x := by first | exact .inl rfl | exact .inr rfl)
    (hsw : swapsWith e (some (.Name x p)) pos.line X.env = pure false := by rfl) (hf : X.fn x = true ∨ X.env.scope.names.lookup x = some .local := by first | exact .inl rfl | exact .inr rfl) : VS X Γ Γx (.Assign [.Name x p] e pos :: rest) E (m >>= k) := fun W tk I0 H0 σ I H T mt D o => by
  refine seq_s (to_s1 (ps_set hN hi hx pe_of hsw hf) ?_)
  show tOf X e σ H _
  refine he.ap tk mt.mw o.bind (fun a _ o1 v I1 H1 T2 w1 r1 => ?_) fun _ z => z.xo mt hs
  have there : ∀ p ∈ T, H p ≠ none := fun p hp => by obtain ⟨xs, e⟩ := mt.sl.there p hp; rw [e]; simp
  have mt1 : Sls X.K X.mg I1 H1 σ Γ T := mt.sl.mono w1.i0 fun p hp => by
    obtain ⟨xs, e⟩ := mt.sl.there p hp
    rw [e]; exact w1.h0 p _ e
  obtain ⟨T', s', c', d'⟩ := mt1.put (Nat.blt_eq.mp hl) r1
  have wd := mt.wd.ow there w1
  exact rest_s (hk a) tk ⟨⟨wd.ih, wd.i0, wd.h0, fun p hp => wd.fr p (List.mem_append.mpr (c' p hp)), d' wd.nd, wd.sep⟩, s'⟩ o1
/-- target = e -/
theorem vs_asg {tg : Expr} {vs : List Nat} {u : α → List SL → List SL} {n : Nat} {m : M α} {k : α → M τ} (he : VE X Γ e m) (hg : VG X n tg vs u) (hk : ∀ a, VS X (u a Γ) Γx rest E (k a)) (hs : Sub Γ Γx) (hn : Γ.length = n := by rfl)
    (hs1 : swapsWithSole [tg] e pos.line X.env = pure false := by rfl) (hw : swappedStores [tg] e X.env = pure none := by rfl) (h1 : (assignEach [tg] X.env).map (·.2) = [assign tg X.env] := by rfl) : VS X Γ Γx (.Assign [tg] e pos :: rest) E (m >>= k) := fun W tk I0 H0 σ I H T mt D o => by
  refine seq_s (to_s1 (ps_asg pe_of pg_of hs1 hw h1) ?_)
  show tOf X e σ H _
  refine he.ap tk mt.mw o.bind (fun a _ o1 v I1 H1 g1 r1 => ?_) fun _ z => z.xo mt hs
  have mt1 := mt.gr g1
  refine hg Γ hn v a σ I1 H1 T mt1.mw r1 _ fun σ' T' _ _ s' c' d' => ?_
  exact rest_s (hk a) tk ⟨⟨mt1.wd.ih, mt1.wd.i0, mt1.wd.h0, fun p hp => mt1.wd.fr p (c' p hp), d', mt1.wd.sep⟩, s'⟩ o1
/-- name op= e of ints -/
theorem vs_aug (i : Nat) {x : Str} {p : Pos} {op : Operator} {r : R2} {a : Int} {m : M Int} {f : Int → Int → M Int} {k : Int → M τ} (hN : X.N.Nodup) (ho : OpR X (inplaceOp op) r) (he : VX true X Γ e m)
    (hr : ∀ x y H, ∀ Q : VK, Out (f x y) (fun z => Q (.int z) H) (fun _ => False) → r (.int x) (.int y) H Q) (hxx : ∀ x y e, f x y ≠ .exc e) (hk : ∀ a, VS X (Γ.set i (sI a)) Γx rest E (k a)) (hs : Sub Γ Γx) (hΓ : Γ[i]? = some (sI a) := by rfl) (hi : X.N[i]? = some x := by rfl) (hl : Nat.blt i Γ.length = true := by rfl)
    (hx : Loc X.env.scope x := by first | exact .inl rfl | exact .inr rfl) (hf : X.fn x = true ∨ X.env.scope.names.lookup x = some .local := by first | exact .inl rfl | exact .inr rfl) : VS X Γ Γx (.AugAssign (.Name x p) op e pos :: rest) E (m >>= fun y => f a y >>= k) := fun W tk I0 H0 σ I H T mt D o => by
  obtain ⟨v, hv, rv⟩ := mt.sl.imm hΓ
  cases rv
  refine seq_s (to_s1 (ps_aug (ti := r) hN hi hx pe_of ho hf) ⟨_, hv, ?_⟩)
  refine he.ap tk mt.mw o.bind (fun b _ o1 v I1 H1 g1 r1 => ?_) fun _ z => z.xo mt hs
  cases r1
  refine hr a b H1 _ (o1.bind.mono (fun z _ o2 => ?_) fun ex q _ => hxx a b ex q)
  obtain ⟨T', mt'⟩ := (mt.gr g1).putI (Nat.blt_eq.mp hl) (R.int z)
  exact rest_s (hk z) tk mt' o2
theorem vs_augI (i : Nat) {x : Str} {p : Pos} {op : Operator} {a : Int} {m : M Int} {g : Int → Int → Int} {k : Int → M τ} (hN : X.N.Nodup) (ho : OpR X (inplaceOp op) (rI0 fun i j => .int (g i j))) (he : VX true X Γ e m)
    (hk : ∀ a, VS X (Γ.set i (sI a)) Γx rest E (k a)) (hs : Sub Γ Γx) (hΓ : Γ[i]? = some (sI a) := by rfl) (hi : X.N[i]? = some x := by rfl) (hl : Nat.blt i Γ.length = true := by rfl)
    (hx : Loc X.env.scope x := by first | exact .inl rfl | exact .inr rfl) (hf : X.fn x = true ∨ X.env.scope.names.lookup x = some .local := by first | exact .inl rfl | exact .inr rfl) : VS X Γ Γx (.AugAssign (.Name x p) op e pos :: rest) E (m >>= fun y => k (g a y)) :=
  vs_aug (f := fun x y => .ok (g x y)) i hN ho he (fun x y H Q o => ⟨x, y, rfl, rfl, o⟩) (fun _ _ _ z => nomatch z) hk hs hΓ hi hl hx hf
theorem vs_augC (i : Nat) {x : Str} {p : Pos} {op : Operator} {a : Int} {m : M Int} {C : Int → Int → Prop} [∀ x y, Decidable (C x y)] {g : Int → Int → Int} {k : Int → M τ} (hN : X.N.Nodup) (ho : OpR X (inplaceOp op) (rI C fun i j => .int (g i j))) (he : VX true X Γ e m)
    (hk : ∀ a, VS X (Γ.set i (sI a)) Γx rest E (k a)) (hs : Sub Γ Γx) (hΓ : Γ[i]? = some (sI a) := by rfl) (hi : X.N[i]? = some x := by rfl) (hl : Nat.blt i Γ.length = true := by rfl)
    (hx : Loc X.env.scope x := by first | exact .inl rfl | exact .inr rfl) (hf : X.fn x = true ∨ X.env.scope.names.lookup x = some .local := by first | exact .inl rfl | exact .inr rfl) : VS X Γ Γx (.AugAssign (.Name x p) op e pos :: rest) E (m >>= fun y => chk (C a y) >>= fun _ => k (g a y)) := by
  have h := vs_aug (E := E) (rest := rest) (Γx := Γx) (k := k) (f := fun x y => chk (C x y) >>= fun _ => .ok (g x y)) i hN ho he (fun x y H Q o => by obtain ⟨hc, o⟩ := o.chk; exact ⟨x, y, rfl, rfl, hc, o⟩) (fun _ _ _ z => by unfold chk at z; split at z <;> cases z) hk hs hΓ hi hl hx hf (p := p) (pos := pos)
  have e : (fun y => (chk (C a y) >>= fun _ => M.ok (g a y)) >>= k) = fun y => chk (C a y) >>= fun _ => k (g a y) := by
    funext y
    rw [M.bind_assoc]
    rfl
  rw [e] at h
  exact h
/-- return e -/
theorem vs_ret {m : M α} {f : α → τ} (he : VE X Γ e m) (hr : ∀ a, E.rt (.imm (enc a)) (f a)) (hs : Sub Γ Γx) : VS X Γ Γx (.Return (some e) pos :: rest) E (m >>= fun a => .ok (f a)) := fun W tk I0 H0 σ I H T mt D o => by
  refine seq_s (to_s1 (ps_ret pe_of) ?_)
  show tOf X e σ H _
  refine he.ap tk mt.mw o.bind (fun a _ o1 v I1 H1 g1 r1 => ?_) fun _ z => z.xo mt hs
  have mt1 := mt.gr g1
  exact o1.rt _ v I1 H1 [] (hr a) (mt1.wd.subl (List.nil_sublist _)) (.imm r1)
theorem vs_retO {m : M α} {ow : α → O} {f : α → τ} (he : VO X Γ e ow m) (hr : ∀ a, E.rt (ow a) (f a)) (hs : Sub Γ Γx) : VS X Γ Γx (.Return (some e) pos :: rest) E (m >>= fun a => .ok (f a)) := fun W tk I0 H0 σ I H T mt D o => by
  refine seq_s (to_s1 (ps_ret pe_of) ?_)
  show tOf X e σ H _
  refine he.ap tk mt.mw o.bind (fun a _ o1 v I1 H1 T2 w1 r1 => ?_) fun _ z => z.xo mt hs
  have there : ∀ p ∈ T, H p ≠ none := fun p hp => by obtain ⟨xs, e⟩ := mt.sl.there p hp; rw [e]; simp
  exact o1.rt _ v I1 H1 T2 (hr a) ((mt.wd.ow there w1).subl (List.sublist_append_left _ _)) r1
/-- return of an owned name -/
theorem vs_retV (i : Nat) {x : Str} {p : Pos} {ow : O} {t : τ} (hr : E.rt ow t) (hΓ : Γ[i]? = some (.val ow) := by rfl) (hN : X.N[i]? = some x := by rfl) (hv : Vis X.env.scope x := by first | exact Or.inl rfl | exact Or.inr (Or.inl rfl) | exact Or.inr (Or.inr rfl))
    (hd : (x == ("__debug__" : Str)) = false := by decide) (hcd : (x == ("__classdict__" : Str)) = false := by decide) : VS X Γ Γx (.Return (some (.Name x p)) pos :: rest) E (.ok t) := fun W tk I0 H0 σ I H T mt D o => by
  obtain ⟨v, T1, T2, T3, h1, h2, r⟩ := mt.sl.get hΓ
  refine seq_s (to_s1 (ps_ret (pe_var hN hv hd hcd)) ⟨v, h1, ?_⟩)
  exact o.rt _ v I H T2 hr (mt.wd.subl (by rw [h2]; exact (List.sublist_append_left T2 T3).trans (List.sublist_append_right T1 _))) r
theorem vs_retN {t : τ} (hr : E.rt (.imm .non) t) : VS X Γ Γx (.Return none pos :: rest) E (.ok t) := fun W tk I0 H0 σ I H T mt D o => by
  refine seq_s (to_s1 ps_retN ?_)
  exact o.rt _ .non I H [] hr (mt.wd.subl (List.nil_sublist _)) (.imm .non)
theorem vs_pass {m : M τ} (h : VS X Γ Γx rest E m) : VS X Γ Γx (.Pass pos :: rest) E m := fun W tk I0 H0 σ I H T mt D o => seq_s (to_s1 ps_pass (rest_s h tk mt o))
theorem vs_break {t : τ} (h : E.bk Γ t) : VS X Γ Γx (.Break pos :: rest) E (.ok t) := fun W tk I0 H0 σ I H T mt D o => seq_s (to_s1 ps_break (o.bk Γ σ I H T h mt))
theorem vs_cont {t : τ} (h : E.ct Γ t) : VS X Γ Γx (.Continue pos :: rest) E (.ok t) := fun W tk I0 H0 σ I H T mt D o => seq_s (to_s1 ps_continue (o.ct Γ σ I H T h mt))
/-- an expression for its effect: none -/
theorem vs_expr {m : M α} {k : M τ} (he : VX true X Γ e m) (hk : VS X Γ Γx rest E k) (hs : Sub Γ Γx) (hsw : swapsWith e none pos.line X.env = pure false := by rfl) : VS X Γ Γx (.Expr e pos :: rest) E (m >>= fun _ => k) := fun W tk I0 H0 σ I H T mt D o => by
  refine seq_s (to_s1 (ps_expr pe_of hsw) ?_)
  show tOf X e σ H _
  exact he.ap tk mt.mw o.bind (fun a _ o1 v I1 H1 g1 r1 => rest_s hk tk (mt.gr g1) o1) fun _ z => z.xo mt hs
/-! if -/
/-- both ways end what follows, or the first never falls through -/
theorem vs_ifx {c : Expr} {a b : List Stmt} {mc : M Bool} {m1 m2 : M τ} (hc : VT X Γ c mc) (ha : VS X Γ Γx a { E with nx := fun _ _ => False } m1) (hb : VS X Γ Γx rest E m2) (hs : Sub Γ Γx) : VS X Γ Γx (.If c a [] pos :: rest) E (mc >>= fun x => if x then m1 else m2) := fun W tk I0 H0 σ I H T mt D o => by
  refine seq_s (to_s1 (ps_if pt_of pss_of pss_of) ?_)
  show kOf X c σ H _
  refine hc.ap tk mt.mw o.bind (fun x _ o1 I1 H1 g1 => ?_) fun _ z => z.xo mt hs
  cases x with
  | true => exact iteT (ha W tk I0 H0 σ I1 H1 T (mt.gr g1) _ (o1.mono (fun t _ d => ⟨fun _ _ _ _ _ z => z.elim, d.bk, d.ct, d.rt⟩) fun _ _ z => z))
  | false => exact iteF (to_s pss_nil (rest_s hb tk (mt.gr g1) o1))
/-- both ways given, nothing behind falls through -/
theorem vs_ifxx {c : Expr} {a b : List Stmt} {mc : M Bool} {m1 m2 : M τ} (hc : VT X Γ c mc) (ha : VS X Γ Γx a { E with nx := fun _ _ => False } m1) (hb : VS X Γ Γx b { E with nx := fun _ _ => False } m2) (hs : Sub Γ Γx) : VS X Γ Γx (.If c a b pos :: rest) E (mc >>= fun x => if x then m1 else m2) := fun W tk I0 H0 σ I H T mt D o => by
  refine seq_s (to_s1 (ps_if pt_of pss_of pss_of) ?_)
  show kOf X c σ H _
  refine hc.ap tk mt.mw o.bind (fun x _ o1 I1 H1 g1 => ?_) fun _ z => z.xo mt hs
  cases x with
  | true => exact iteT (ha W tk I0 H0 σ I1 H1 T (mt.gr g1) _ (o1.mono (fun t _ d => ⟨fun _ _ _ _ _ z => z.elim, d.bk, d.ct, d.rt⟩) fun _ _ z => z))
  | false => exact iteF (hb W tk I0 H0 σ I1 H1 T (mt.gr g1) _ (o1.mono (fun t _ d => ⟨fun _ _ _ _ _ z => z.elim, d.bk, d.ct, d.rt⟩) fun _ _ z => z))
/-- last statement: both ways fall through as they are wanted -/
theorem vs_ifl {c : Expr} {a b : List Stmt} {mc : M Bool} {m1 m2 : M τ} (hc : VT X Γ c mc) (ha : VS X Γ Γx a E m1) (hb : VS X Γ Γx b E m2) (hs : Sub Γ Γx) : VS X Γ Γx [.If c a b pos] E (mc >>= fun x => if x then m1 else m2) := fun W tk I0 H0 σ I H T mt D o => by
  refine seq_s (to_s1 (ps_if pt_of pss_of pss_of) ?_)
  show kOf X c σ H _
  refine hc.ap tk mt.mw o.bind (fun x _ o1 I1 H1 g1 => ?_) fun _ z => z.xo mt hs
  cases x with
  | true => exact iteT (ha W tk I0 H0 σ I1 H1 T (mt.gr g1) _ (o1.mono (fun t _ d => ⟨fun _ _ _ _ _ z m => to_s pss_nil (d.nx _ _ _ _ _ z m), d.bk, d.ct, d.rt⟩) fun _ _ z => z))
  | false => exact iteF (hb W tk I0 H0 σ I1 H1 T (mt.gr g1) _ (o1.mono (fun t _ d => ⟨fun _ _ _ _ _ z m => to_s pss_nil (d.nx _ _ _ _ _ z m), d.bk, d.ct, d.rt⟩) fun _ _ z => z))
/-- what falls through: F of a state -/
abbrev eNx {S : Type} (F : S → List SL) : Eds S := { nx := fun Γ' s => Sub Γ' (F s) }
/-- a block that falls through in a state of F, then what follows -/
theorem vs_ifj {S : Type} (F : S → List SL) {c : Expr} {a b : List Stmt} {mc : M Bool} {m1 m2 : M S} {k : S → M τ} (hc : VT X Γ c mc) (ha : VS X Γ Γx a (eNx F) m1) (hb : VS X Γ Γx b (eNx F) m2) (hk : ∀ s, VS X (F s) Γx rest E (k s)) (hs : Sub Γ Γx) :
    VS X Γ Γx (.If c a b pos :: rest) E (mc >>= fun x => (if x then m1 else m2) >>= k) := fun W tk I0 H0 σ I H T mt D o => by
  refine seq_s (to_s1 (ps_if pt_of pss_of pss_of) ?_)
  show kOf X c σ H _
  have fin : ∀ s, Out (k s) (DO X I0 H0 E D) (XS X W I0 H0 Γx) → DO X I0 H0 (eNx F) { D with nx := sOf X rest D } s := fun s o => ⟨fun Γ' σ' I' H' T' z m => by
    obtain ⟨T2, m2⟩ := m.sub z
    exact rest_s (hk s) tk m2 o, fun _ _ _ _ _ z => z.elim, fun _ _ _ _ _ z => z.elim, fun _ _ _ _ _ z => z.elim⟩
  refine hc.ap tk mt.mw o.bind (fun x _ o1 I1 H1 g1 => ?_) fun _ z => z.xo mt hs
  cases x with
  | true => exact iteT (ha W tk I0 H0 σ I1 H1 T (mt.gr g1) _ (o1.bind.mono (fun s _ o2 => fin s o2) fun _ _ z => z))
  | false => exact iteF (hb W tk I0 H0 σ I1 H1 T (mt.gr g1) _ (o1.bind.mono (fun s _ o2 => fin s o2) fun _ _ z => z))
/-- falls through, or ends -/
inductive Jn (S τ : Type) where
  | go (s : S)
  | out (t : τ)
def Jn.on {S τ : Type} (j : Jn S τ) (k : S → M τ) : M τ := match j with
  | .go s => k s
  | .out t => .ok t
@[simp] theorem Jn.on_go {S τ : Type} (s : S) (k : S → M τ) : Jn.on (.go s) k = k s := rfl
@[simp] theorem Jn.on_out {S τ : Type} (t : τ) (k : S → M τ) : Jn.on (.out t) k = .ok t := rfl
def eJn {S τ : Type} (F : S → List SL) (E : Eds τ) : Eds (Jn S τ) where
  nx := fun Γ' j => ∃ s, j = .go s ∧ Sub Γ' (F s)
  rt := fun o j => ∃ t, j = .out t ∧ E.rt o t
  bk := fun Γ' j => ∃ t, j = .out t ∧ E.bk Γ' t
  ct := fun Γ' j => ∃ t, j = .out t ∧ E.ct Γ' t
theorem vs_ifg {S : Type} (F : S → List SL) {c : Expr} {a b : List Stmt} {mc : M Bool} {m1 m2 : M (Jn S τ)} {k : S → M τ} (hc : VT X Γ c mc) (ha : VS X Γ Γx a (eJn F E) m1) (hb : VS X Γ Γx b (eJn F E) m2) (hk : ∀ s, VS X (F s) Γx rest E (k s)) (hs : Sub Γ Γx) :
    VS X Γ Γx (.If c a b pos :: rest) E (mc >>= fun x => (if x then m1 else m2) >>= fun j => j.on k) := fun W tk I0 H0 σ I H T mt D o => by
  refine seq_s (to_s1 (ps_if pt_of pss_of pss_of) ?_)
  show kOf X c σ H _
  have fin : ∀ j : Jn S τ, Out (j.on k) (DO X I0 H0 E D) (XS X W I0 H0 Γx) → DO X I0 H0 (eJn F E) { D with nx := sOf X rest D } j := fun j o => ⟨fun Γ' σ' I' H' T' z m => by
      obtain ⟨s, rfl, z⟩ := z
      obtain ⟨T2, m2⟩ := m.sub z
      exact rest_s (hk s) tk m2 o, fun Γ' σ' I' H' T' z m => by
      obtain ⟨t, rfl, z⟩ := z
      exact DO.bk (E := E) o Γ' σ' I' H' T' z m, fun Γ' σ' I' H' T' z m => by
      obtain ⟨t, rfl, z⟩ := z
      exact DO.ct (E := E) o Γ' σ' I' H' T' z m, fun ow v I' H' T' z m r => by
      obtain ⟨t, rfl, z⟩ := z
      exact DO.rt (E := E) o ow v I' H' T' z m r⟩
  refine hc.ap tk mt.mw o.bind (fun x _ o1 I1 H1 g1 => ?_) fun _ z => z.xo mt hs
  cases x with
  | true => exact iteT (ha W tk I0 H0 σ I1 H1 T (mt.gr g1) _ (o1.bind.mono (fun s _ o2 => fin s o2) fun _ _ z => z))
  | false => exact iteF (hb W tk I0 H0 σ I1 H1 T (mt.gr g1) _ (o1.bind.mono (fun s _ o2 => fin s o2) fun _ _ z => z))
/-- a slot's value taken out -/
theorem Sls.take {K : PySem.W.Frag} {mg : Str → Option Value} {I H : Hp} : ∀ {σ : L2.St} {Γ : List SL} {T : List Addr} {i : Nat} {o : O}, Sls K mg I H σ Γ T → Γ[i]? = some (.val o) → T.Nodup → ∃ v T2 T', σ[i]? = some (some v) ∧ Ow K mg I H v o T2 ∧ Sls K mg I H σ (Γ.set i .any) T' ∧ (∀ p ∈ T2, p ∈ T) ∧ (∀ p ∈ T', p ∈ T) ∧ (T2 ++ T').Nodup
  | _, _, _, _, _, .nil, h, _ => by simp at h
  | _, _, _, 0, _, .any r, h, _ => by simp at h
  | _, _, _, 0, _, .val (T := T) (T' := T') q r, h, nd => by
    simp at h
    subst h
    exact ⟨_, T, T', rfl, q, .any r, fun p hp => List.mem_append_left _ hp, fun p hp => List.mem_append_right _ hp, nd⟩
  | _, _, _, i + 1, _, .any r, h, nd => by
    obtain ⟨v, T2, T', h1, h2, h3, h4, h5, h6⟩ := Sls.take (i := i) r (by simpa using h) nd
    exact ⟨v, T2, T', by simpa using h1, h2, .any h3, h4, h5, h6⟩
  | _, _, _, i + 1, _, .val (T := T) (T' := TT) q r, h, nd => by
    obtain ⟨n1, n2, n3⟩ := List.nodup_append.mp nd
    obtain ⟨v, T2, T', h1, h2, h3, h4, h5, h6⟩ := Sls.take (i := i) r (by simpa using h) n2
    obtain ⟨m1, m2, m3⟩ := List.nodup_append.mp h6
    refine ⟨v, T2, T ++ T', by simpa using h1, h2, .val q h3, fun p hp => List.mem_append_right _ (h4 p hp), fun p hp => ?_, ?_⟩
    · rcases List.mem_append.mp hp with z | z
      · exact List.mem_append_left _ z
      · exact List.mem_append_right _ (h5 p z)
    · refine List.nodup_append.mpr ⟨m1, List.nodup_append.mpr ⟨n1, m2, fun a ha b hb => n3 a ha b (h5 b hb)⟩, fun a ha b hb e => ?_⟩
      rcases List.mem_append.mp hb with z | z
      · exact n3 b z a (h4 a ha) e.symm
      · exact m3 a ha b z e
/-- a name that is no more changed becomes immutable -/
theorem vs_freeze (i : Nat) {ow : O} {m : M τ} (h : VS X (Γ.set i (.val (.imm ow.toD))) Γx rest E m) (hΓ : Γ[i]? = some (.val ow) := by rfl) : VS X Γ Γx rest E m := fun W tk I0 H0 σ I H T mt D o => by
  obtain ⟨v, T2, T', h1, q, s, c2, c', nd⟩ := mt.sl.take hΓ mt.wd.nd
  have w2 : Wd I0 H0 I H (T2 ++ T') := ⟨mt.wd.ih, mt.wd.i0, mt.wd.h0, fun p hp => mt.wd.fr p ((List.mem_append.mp hp).elim (c2 p) (c' p)), nd, mt.wd.sep⟩
  obtain ⟨I', w3, s3, r3⟩ := w2.freeze q
  have hi : i < (Γ.set i .any).length := by rw [List.length_set]; exact (List.getElem?_eq_some_iff.mp hΓ).1
  obtain ⟨T4, mt4⟩ := Mt.putI (⟨w3, s.mono s3 fun _ _ => rfl⟩ : Mt X.K X.mg I0 H0 (Γ.set i .any) σ I' H T') hi r3
  rw [List.set_set] at mt4
  have e : σ.set i (some v) = σ := by
    obtain ⟨hl, hv⟩ := List.getElem?_eq_some_iff.mp h1
    rw [← hv]; exact List.set_getElem_self hl
  rw [e] at mt4
  exact h W tk I0 H0 σ I' H T4 mt4 D o
theorem vs_freeze1 (i : Nat) {l : List α} {m : M τ} (h : VS X (Γ.set i (sI l)) Γx rest E m) (hΓ : Γ[i]? = some (sO l) := by rfl) : VS X Γ Γx rest E m := vs_freeze i (ow := ow1 l) (by rw [ow1_toD]; exact h) hΓ
end
end Vc

set_option Elab.async false
set_option linter.all false
set_option maxRecDepth 100000
namespace Vc
open PySem PySem.Spec PyProof.Rows L2
open Enc (enc)

/-! ### lists -/
def getI {α : Type} (l : List α) (i : Int) : M α := match atI l i with
  | some a => .ok a
  | none => .stuck
theorem getI_of {α : Type} {l : List α} {i : Int} {a : α} (h : atI l i = some a) : getI l i = .ok a := by unfold getI; rw [h]
theorem getI_nat {α : Type} {l : List α} {j : Nat} {a : α} (h : l[j]? = some a) : getI l (j : Int) = .ok a := getI_of (atI_nat h)
def setL {α : Type} (l : List α) (i : Int) (a : α) : M (List α) := match ixN l.length i with
  | some j => .ok (l.set j a)
  | none => .stuck
section
variable {K : PySem.W.Frag} {mg : Str → Option Value} {H : Hp} {α : Type} [Enc α]
theorem Rs.atI {xs : List V} {l : List α} {i : Int} {a : α} (h : Rs K mg H xs (l.map enc)) (e : L2.atI l i = some a) : ∃ v, L2.atI xs i = some v ∧ R K mg H v (enc a) := by
  have hl : xs.length = l.length := by rw [h.length, List.length_map]
  unfold L2.atI at e ⊢
  rw [hl]
  cases q : ixN l.length i with
  | none => rw [q] at e; cases e
  | some j =>
    rw [q] at e
    have e : l[j]? = some a := e
    obtain ⟨v, h1, h2⟩ := h.get (i := j) (x := enc a) (by rw [List.getElem?_map, e]; rfl)
    exact ⟨v, h1, h2⟩
theorem getI_out {l : List α} {i : Int} {P : α → Prop} {E : Exn → Prop} (o : Out (getI l i) P E) : ∃ a, L2.atI l i = some a ∧ P a := by
  unfold getI at o
  cases q : L2.atI l i with
  | none => rw [q] at o; exact o.elim
  | some a => rw [q] at o; exact ⟨a, rfl, o⟩
theorem R.lst_inv {v : V} {ds : List D} (r : R K mg H v (.lst ds)) : ∃ p xs, v = .ref p ∧ SqL K H p xs ∧ Rs K mg H xs ds := by
  cases r with
  | lst h q => exact ⟨_, _, rfl, h, q⟩
theorem R.tup_inv {v : V} {ds : List D} (r : R K mg H v (.tup ds)) : ∃ p xs, v = .ref p ∧ SqT K H p xs ∧ Rs K mg H xs ds := by
  cases r with
  | tup h q => exact ⟨_, _, rfl, h, q⟩
end
section
variable {X : Cx} {Γ : List SL} {e a b c : Expr} {es : List Expr} {pos : Pos} {α β γ : Type} [Enc α] [Enc β] [Enc γ] {w w' : Bool}
/-- l[i] of a list -/
theorem ve_idx {m1 : M (List α)} {m2 : M Int} (ha : VX w X Γ a m1) (hb : VX true X Γ b m2) (hs : PlainIx b := by exact fun _ _ => rfl) : VX w X Γ (.Subscript a b pos) (m1 >>= fun l => m2 >>= fun i => getI l i) := fun W tk σ I H T mw Q o => by
  refine to_t (pe_ix ix_list pe_of pe_of hs) (ha.ap tk mw o.bind (fun l _ o1 v I1 H1 g1 r1 => ?_) fun _ z => z)
  refine hb.ap tk (mw.gr g1) o1.bind (fun i _ o2 u I2 H2 g2 r2 => ?_) fun _ z => z.gr g1
  cases r2
  obtain ⟨a, e, o3⟩ := getI_out o2
  obtain ⟨p, xs, rfl, hq, rs⟩ := (r1.mono (wsel_same g2)).lst_inv
  obtain ⟨z, e2, r3⟩ := rs.atI e
  exact ⟨p, xs, i, z, rfl, rfl, (wsel_le g2.ih).seq hq, e2, o3 z I2 H2 (g1.trans g2) r3⟩
/-- t[i] of a tuple of one kind -/
theorem ve_idxT {m1 : M (Tup α)} {m2 : M Int} (ha : VX w X Γ a m1) (hb : VX true X Γ b m2) (hs : PlainIx b := by exact fun _ _ => rfl) : VX w X Γ (.Subscript a b pos) (m1 >>= fun l => m2 >>= fun i => getI l.l i) := fun W tk σ I H T mw Q o => by
  refine to_t (pe_ix ix_tup pe_of pe_of hs) (ha.ap tk mw o.bind (fun l _ o1 v I1 H1 g1 r1 => ?_) fun _ z => z)
  refine hb.ap tk (mw.gr g1) o1.bind (fun i _ o2 u I2 H2 g2 r2 => ?_) fun _ z => z.gr g1
  cases r2
  obtain ⟨a, e, o3⟩ := getI_out o2
  obtain ⟨p, xs, rfl, hq, rs⟩ := (r1.mono (wsel_same g2)).tup_inv
  obtain ⟨z, e2, r3⟩ := rs.atI e
  exact ⟨p, xs, i, z, rfl, rfl, Same.seqT (wsel_le g2.ih) hq, e2, o3 z I2 H2 (g1.trans g2) r3⟩
/-- t[2] of a tuple of a written form -/
theorem ve_proj {m : M α} {i : Int} (f : α → β) (ha : VX w X Γ a m) (hb : VX true X Γ b (M.ok i)) (hf : ∀ x : α, ∃ ds, enc x = .tup ds ∧ L2.atI ds i = some (enc (f x)) := by exact fun _ => ⟨_, rfl, rfl⟩) (hs : PlainIx b := by exact fun _ _ => rfl) : VX w X Γ (.Subscript a b pos) (m >>= fun x => M.ok (f x)) := fun W tk σ I H T mw Q o => by
  refine to_t (pe_ix ix_tup pe_of pe_of hs) (ha.ap tk mw o.bind (fun l _ o1 v I1 H1 g1 r1 => ?_) fun _ z => z)
  refine hb.ap tk (mw.gr g1) (P := fun _ => True) (E := fun _ => False) trivial (fun i' q _ u I2 H2 g2 r2 => ?_) fun _ z => z.elim
  cases q
  cases r2
  obtain ⟨ds, e1, e2⟩ := hf l
  rw [e1] at r1
  obtain ⟨p, xs, rfl, hq, rs⟩ := (r1.mono (wsel_same g2)).tup_inv
  have hl := rs.length
  unfold L2.atI at e2
  cases q : ixN ds.length i with
  | none => rw [q] at e2; cases e2
  | some j =>
    rw [q] at e2
    obtain ⟨z, h1, h2⟩ := rs.get (i := j) e2
    refine ⟨p, xs, i, z, rfl, rfl, Same.seqT (wsel_le g2.ih) hq, ?_, o1 z I2 H2 (g1.trans g2) h2⟩
    unfold L2.atI
    rw [hl, q]
    exact h1
/-- (a, b, ..) -/
theorem ve_tup {A : Type} {ea : A → List D} {m : M A} {k : Nat} (f : A → α) (h : VA false X Γ es ea m) (hf : ∀ x, enc (f x) = .tup (ea x) := by exact fun _ => rfl) (hz : ∀ x, Nat.ble (ea x).length sizeLine = true := by exact fun _ => rfl) : VX w X Γ (.Tuple es k pos) (m >>= fun x => M.ok (f x)) := VX.le fun W tk σ I H T mw Q o => by
  refine to_t (pe_tup pa_of) (h.ap tk mw o.bind (fun x _ o1 vs I1 H1 g1 r1 => ⟨by rw [r1.length]; exact Nat.le_of_ble_eq_true (hz x), fun p hp => ?_⟩) fun _ z => z)
  refine o1 _ _ _ (g1.trans (Gr.new g1.ih hp)) ?_
  rw [hf]
  exact .tup (.of upd_same) (r1.mono (Gr.new g1.ih hp).i0)
/-- [a, b, ..] -/
theorem vo_lst {A : Type} {ea : A → List D} {m : M A} (f : A → List α) (h : VA false X Γ es ea m) (hf : ∀ x, (f x).map enc = ea x := by exact fun _ => rfl) (hz : ∀ x, Nat.ble (ea x).length sizeLine = true := by exact fun _ => rfl) : VO X Γ (.List es pos) ow1 (m >>= fun x => M.ok (f x)) := fun W tk σ I H T mw Q o => by
  refine to_t (pe_lst pa_of) (h.ap tk mw o.bind (fun x _ o1 vs I1 H1 g1 r1 => ⟨by rw [r1.length]; exact Nat.le_of_ble_eq_true (hz x), fun p hp => ?_⟩) fun _ z => z)
  have w1 : Wd I1 H1 I1 (upd H1 p (.lst vs)) [p] := .new g1.ih hp
  refine o1 _ I1 _ [p] ?_ ?_
  · have := Wd.ow g1 (fun _ z => nomatch z) w1
    exact this
  · refine .lst (T := []) upd_same ?_
    rw [show (f x).map (fun a => O.imm (enc a)) = ((f x).map enc).map O.imm by rw [List.map_map]; rfl, hf]
    exact Ows.of_imm r1
/-- a built-in that takes values to a value, called -/
theorem ve_bcall {x : Str} {id : String} {p : Pos} {A : Type} {ea : A → List D} {m : M A} {f : A → M γ} {r : List V → Hp → VK → Prop} (hc : CallR X (.builtin id) r) (hg : Gl X x) (hm : X.mg x = none) (hv : bootBuiltins x = some (.builtin id)) (h : VA true X Γ (e :: es) ea m)
    (hr : ∀ a vs I H, Same I H → Rs X.K X.mg H vs (ea a) → ∀ Q : VK, Out (f a) (fun z => ∀ t I' H', Gr I H I' H' → R X.K X.mg (wsel w I' H') t (enc z) → Q t H') (fun _ => False) → r vs H Q) (hx : ∀ a e, f a ≠ .exc e)
    (hn : x ≠ "__name__" := by decide) (hdb : (x == ("__debug__" : Str)) = false := by decide) (he : starEach (e :: es) X.env = (false, eval e X.env) :: starEach es X.env := by rfl) (hpl : (backTo pos (starEach es X.env)).any (·.1) = false := by rfl) : VX w X Γ (.Call (.Name x p) (e :: es) [] pos) (m >>= f) := fun W tk σ I H T mw Q o => by
  refine to_t (pe_callB hc hg hm hv pa_of hn hdb he hpl) (h.ap tk mw o.bind (fun a _ o1 vs I1 H1 g1 r1 => ?_) fun _ z => z)
  exact hr a vs I1 H1 g1.ih r1 Q (o1.mono (fun z _ k t I' H' g rr => k t I' H' (g1.trans g) rr) fun e q _ => hx a e q)
theorem ve_tcall {x : Str} {id : String} {p : Pos} {A : Type} {ea : A → List D} {m : M A} {f : A → M γ} {r : List V → Hp → VK → Prop} (hc : CallR X (.type id) r) (hg : Gl X x) (hm : X.mg x = none) (hv : bootBuiltins x = some (.type id)) (h : VA true X Γ (e :: es) ea m)
    (hr : ∀ a vs I H, Same I H → Rs X.K X.mg H vs (ea a) → ∀ Q : VK, Out (f a) (fun z => ∀ t I' H', Gr I H I' H' → R X.K X.mg (wsel w I' H') t (enc z) → Q t H') (fun _ => False) → r vs H Q) (hx : ∀ a e, f a ≠ .exc e)
    (hn : x ≠ "__name__" := by decide) (hdb : (x == ("__debug__" : Str)) = false := by decide) (he : starEach (e :: es) X.env = (false, eval e X.env) :: starEach es X.env := by rfl) (hpl : (backTo pos (starEach es X.env)).any (·.1) = false := by rfl) : VX w X Γ (.Call (.Name x p) (e :: es) [] pos) (m >>= f) := fun W tk σ I H T mw Q o => by
  refine to_t (pe_callTy hc hg hm hv pa_of hn hdb he hpl) (h.ap tk mw o.bind (fun a _ o1 vs I1 H1 g1 r1 => ?_) fun _ z => z)
  exact hr a vs I1 H1 g1.ih r1 Q (o1.mono (fun z _ k t I' H' g rr => k t I' H' (g1.trans g) rr) fun e q _ => hx a e q)
/-- .. to a new owned thing -/
theorem vo_tcall {x : Str} {id : String} {p : Pos} {A G : Type} {ea : A → List D} {m : M A} {ow : G → O} {f : A → M G} {r : List V → Hp → VK → Prop} (hc : CallR X (.type id) r) (hg : Gl X x) (hm : X.mg x = none) (hv : bootBuiltins x = some (.type id)) (h : VA w X Γ (e :: es) ea m)
    (hr : ∀ a vs I H, Same I H → Rs X.K X.mg (wsel w I H) vs (ea a) → ∀ Q : VK, Out (f a) (fun z => ∀ t I' H' T', Wd I H I' H' T' → Ow X.K X.mg I' H' t (ow z) T' → Q t H') (fun _ => False) → r vs H Q) (hx : ∀ a e, f a ≠ .exc e)
    (hn : x ≠ "__name__" := by decide) (hdb : (x == ("__debug__" : Str)) = false := by decide) (he : starEach (e :: es) X.env = (false, eval e X.env) :: starEach es X.env := by rfl) (hpl : (backTo pos (starEach es X.env)).any (·.1) = false := by rfl) : VO X Γ (.Call (.Name x p) (e :: es) [] pos) ow (m >>= f) := fun W tk σ I H T mw Q o => by
  refine to_t (pe_callTy hc hg hm hv pa_of hn hdb he hpl) (h.ap tk mw o.bind (fun a _ o1 vs I1 H1 g1 r1 => ?_) fun _ z => z)
  exact hr a vs I1 H1 g1.ih r1 Q (o1.mono (fun z _ k t I' H' T' g rr => k t I' H' T' (by have := Wd.ow g1 (fun _ z => nomatch z) g; simpa using this) rr) fun e q _ => hx a e q)
end
abbrev e1 {α : Type} [Enc α] : α × Unit → List D := eCons eNil
abbrev e2 {α β : Type} [Enc α] [Enc β] : α × β × Unit → List D := eCons (eCons eNil)
section
variable {X : Cx} {Γ : List SL} {e a b c : Expr} {es : List Expr} {pos p : Pos} {α β γ : Type} [Enc α] [Enc β] [Enc γ] {w w' : Bool}
theorem Rs.one {K : PySem.W.Frag} {mg : Str → Option Value} {H : Hp} {vs : List V} {d : D} (h : Rs K mg H vs [d]) : ∃ v, vs = [v] ∧ R K mg H v d := by
  cases h with
  | cons h r => cases r; exact ⟨_, rfl, h⟩
theorem Rs.two {K : PySem.W.Frag} {mg : Str → Option Value} {H : Hp} {vs : List V} {d d' : D} (h : Rs K mg H vs [d, d']) : ∃ v v', vs = [v, v'] ∧ R K mg H v d ∧ R K mg H v' d' := by
  cases h with
  | cons h r => cases r with
    | cons h' r => cases r; exact ⟨_, _, rfl, h, h'⟩
theorem ve_len {m : M (List α)} (hm : X.mg "len" = none) (h : VX true X Γ e m) (hg : Gl X "len" := by rfl) (hs : starEach [e] X.env = (false, eval e X.env) :: starEach [] X.env := by rfl) : VX w X Γ (.Call (.Name "len" p) [e] [] pos) (m >>= fun l => M.ok (l.length : Int)) := by
  have q := ve_bcall (w := w) (f := fun a : List α × Unit => M.ok (a.1.length : Int)) (p := p) (pos := pos) call_len_seq hg hm boot_len (va_cons h va_nil hs) (fun a vs I H s rs Q o => by
    obtain ⟨v, rfl, r⟩ := rs.one
    obtain ⟨p, xs, rfl, hq, rs⟩ := r.lst_inv
    have hl : xs.length = a.1.length := by rw [rs.length, List.length_map]
    refine ⟨p, xs, rfl, .inl hq, ?_⟩
    rw [hl]
    exact o _ I H (.refl s) (.int _)) (fun _ _ z => nomatch z) (he := hs)
  refine q.congr ?_
  cases m <;> rfl
theorem ve_lenT {m : M (Tup α)} (hm : X.mg "len" = none) (h : VX true X Γ e m) (hg : Gl X "len" := by rfl) (hs : starEach [e] X.env = (false, eval e X.env) :: starEach [] X.env := by rfl) : VX w X Γ (.Call (.Name "len" p) [e] [] pos) (m >>= fun l => M.ok (l.l.length : Int)) := by
  have q := ve_bcall (w := w) (f := fun a : Tup α × Unit => M.ok (a.1.l.length : Int)) (p := p) (pos := pos) call_len_seq hg hm boot_len (va_cons h va_nil hs) (fun a vs I H s rs Q o => by
    obtain ⟨v, rfl, r⟩ := rs.one
    obtain ⟨p, xs, rfl, hq, rs⟩ := r.tup_inv
    have hl : xs.length = a.1.l.length := by rw [rs.length, List.length_map]
    refine ⟨p, xs, rfl, .inr hq, ?_⟩
    rw [hl]
    exact o _ I H (.refl s) (.int _)) (fun _ _ z => nomatch z) (he := hs)
  refine q.congr ?_
  cases m <;> rfl
theorem ve_abs {m : M Int} (hm : X.mg "abs" = none) (h : VX true X Γ e m) (hg : Gl X "abs" := by rfl) (hs : starEach [e] X.env = (false, eval e X.env) :: starEach [] X.env := by rfl) : VX w X Γ (.Call (.Name "abs" p) [e] [] pos) (m >>= fun i => M.ok (if i < 0 then -i else i)) := by
  have q := ve_bcall (w := w) (f := fun a : Int × Unit => M.ok (if a.1 < 0 then -a.1 else a.1)) (p := p) (pos := pos) call_abs hg hm (by decide +kernel) (va_cons h va_nil hs) (fun a vs I H s rs Q o => by
    obtain ⟨v, rfl, r⟩ := rs.one
    cases r
    exact ⟨a.1, rfl, o _ I H (.refl s) (.int _)⟩) (fun _ _ z => nomatch z) (he := hs)
  refine q.congr ?_
  cases m <;> rfl
theorem ve_toint {m : M Int} (hm : X.mg "int" = none) (h : VX true X Γ e m) (hg : Gl X "int" := by rfl) (hs : starEach [e] X.env = (false, eval e X.env) :: starEach [] X.env := by rfl) : VX w X Γ (.Call (.Name "int" p) [e] [] pos) m := by
  have q := ve_tcall (w := w) (f := fun a : Int × Unit => M.ok a.1) (p := p) (pos := pos) call_int1 hg hm (by decide +kernel) (va_cons h va_nil hs) (fun a vs I H s rs Q o => by
    obtain ⟨v, rfl, r⟩ := rs.one
    cases r
    exact .inl ⟨a.1, rfl, o _ I H (.refl s) (.int _)⟩) (fun _ _ z => nomatch z) (he := hs)
  refine q.congr ?_
  cases m <;> rfl
theorem ve_min2 {m1 m2 : M Int} (hc : X.calm = true) (hm : X.mg "min" = none) (h1 : VX true X Γ a m1) (h2 : VX true X Γ b m2) (hg : Gl X "min" := by rfl) (hs : starEach [a, b] X.env = (false, eval a X.env) :: starEach [b] X.env := by rfl) (hs2 : starEach [b] X.env = (false, eval b X.env) :: starEach [] X.env := by rfl) (hpl : (backTo pos (starEach [b] X.env)).any (·.1) = false := by rfl) :
    VX w X Γ (.Call (.Name "min" p) [a, b] [] pos) (m1 >>= fun x => m2 >>= fun y => M.ok (if y < x then y else x)) := by
  have q := ve_bcall (w := w) (f := fun a : Int × Int × Unit => M.ok (if a.2.1 < a.1 then a.2.1 else a.1)) (p := p) (pos := pos) (call_min2 hc) hg hm (by decide +kernel) (va_cons h1 (va_cons h2 va_nil hs2) hs) (fun a vs I H s rs Q o => by
    obtain ⟨v, v', rfl, r, r'⟩ := rs.two
    cases r; cases r'
    exact ⟨a.1, a.2.1, rfl, o _ I H (.refl s) (.int _)⟩) (fun _ _ z => nomatch z) (he := hs) (hpl := hpl)
  refine q.congr ?_
  cases m1 <;> cases m2 <;> rfl
theorem ve_max2 {m1 m2 : M Int} (hc : X.calm = true) (hm : X.mg "max" = none) (h1 : VX true X Γ a m1) (h2 : VX true X Γ b m2) (hg : Gl X "max" := by rfl) (hs : starEach [a, b] X.env = (false, eval a X.env) :: starEach [b] X.env := by rfl) (hs2 : starEach [b] X.env = (false, eval b X.env) :: starEach [] X.env := by rfl) (hpl : (backTo pos (starEach [b] X.env)).any (·.1) = false := by rfl) :
    VX w X Γ (.Call (.Name "max" p) [a, b] [] pos) (m1 >>= fun x => m2 >>= fun y => M.ok (if y > x then y else x)) := by
  have q := ve_bcall (w := w) (f := fun a : Int × Int × Unit => M.ok (if a.2.1 > a.1 then a.2.1 else a.1)) (p := p) (pos := pos) (call_max2 hc) hg hm (by decide +kernel) (va_cons h1 (va_cons h2 va_nil hs2) hs) (fun a vs I H s rs Q o => by
    obtain ⟨v, v', rfl, r, r'⟩ := rs.two
    cases r; cases r'
    exact ⟨a.1, a.2.1, rfl, o _ I H (.refl s) (.int _)⟩) (fun _ _ z => nomatch z) (he := hs) (hpl := hpl)
  refine q.congr ?_
  cases m1 <;> cases m2 <;> rfl
/-- list(xs): borrowed if its items are plain -/
theorem ow1_new {K : PySem.W.Frag} {mg : Str → Option Value} {I H : Hp} {xs : List V} {l : List α} {p : Addr} (r : Rs K mg I xs (l.map enc)) : Ow K mg I (upd H p (.lst xs)) (.ref p) (ow1 l) [p] := by
  refine .lst (T := []) upd_same ?_
  rw [show l.map (fun a => O.imm (enc a)) = (l.map enc).map O.imm by rw [List.map_map]; rfl]
  exact Ows.of_imm r
theorem vo_list {m : M (List α)} (hm : X.mg "list" = none) (h : VX false X Γ e m) (hg : Gl X "list" := by rfl) (hs : starEach [e] X.env = (false, eval e X.env) :: starEach [] X.env := by rfl) : VO X Γ (.Call (.Name "list" p) [e] [] pos) ow1 m := by
  have q := vo_tcall (w := false) (ow := ow1) (f := fun a : List α × Unit => M.ok a.1) (p := p) (pos := pos) call_list_of hg hm (by decide +kernel) (va_cons h va_nil hs) (fun a vs I H s rs Q o => by
    obtain ⟨v, rfl, r⟩ := rs.one
    obtain ⟨p, xs, rfl, hq, rs⟩ := r.lst_inv
    exact ⟨p, xs, rfl, .inl (s.seq hq), fun l hl => o _ I _ [l] (Wd.new s hl) (ow1_new rs)⟩) (fun _ _ z => nomatch z) (he := hs)
  have e : (m >>= fun x => M.ok () >>= fun y => M.ok (x, y)) >>= (fun a : List α × Unit => M.ok a.1) = m := by cases m <;> rfl
  rw [← e]
  exact q
theorem Rs.atoms {K : PySem.W.Frag} {mg : Str → Option Value} {H H' : Hp} [Atm α] : ∀ {xs : List V} {l : List α}, Rs K mg H xs (l.map enc) → Rs K mg H' xs (l.map enc)
  | _, [], .nil => .nil
  | _, a :: l, .cons h r => .cons (h.atom (Atm.atm a)) (Rs.atoms r)
theorem vo_listB [Atm α] {m : M (List α)} (hm : X.mg "list" = none) (h : VX true X Γ e m) (hg : Gl X "list" := by rfl) (hs : starEach [e] X.env = (false, eval e X.env) :: starEach [] X.env := by rfl) : VO X Γ (.Call (.Name "list" p) [e] [] pos) ow1 m := by
  have q := vo_tcall (w := true) (ow := ow1) (f := fun a : List α × Unit => M.ok a.1) (p := p) (pos := pos) call_list_of hg hm (by decide +kernel) (va_cons h va_nil hs) (fun a vs I H s rs Q o => by
    obtain ⟨v, rfl, r⟩ := rs.one
    obtain ⟨p, xs, rfl, hq, rs⟩ := r.lst_inv
    exact ⟨p, xs, rfl, .inl hq, fun l hl => o _ I _ [l] (Wd.new s hl) (ow1_new rs.atoms)⟩) (fun _ _ z => nomatch z) (he := hs)
  have e : (m >>= fun x => M.ok () >>= fun y => M.ok (x, y)) >>= (fun a : List α × Unit => M.ok a.1) = m := by cases m <;> rfl
  rw [← e]
  exact q
/-! slices -/
def cutL (l : List α) (lo hi : Option Int) : List α := (l.drop (HT.sIx l.length 0 lo)).take (HT.sIx l.length l.length hi - HT.sIx l.length 0 lo)
theorem Rs.cut {K : PySem.W.Frag} {mg : Str → Option Value} {H : Hp} {xs : List V} {l : List α} {lo hi : Option Int} (h : Rs K mg H xs (l.map enc)) : Rs K mg H (cutV xs lo hi) ((cutL l lo hi).map enc) := by
  have hl : xs.length = l.length := by rw [h.length, List.length_map]
  unfold cutV cutL
  rw [hl, List.map_take, List.map_drop]
  exact (h.drop _).take _
/-- a part of a slice -/
def VP (X : Cx) (Γ : List SL) (e : Option Expr) (m : M (Option Int)) : Prop :=
  ∀ (W : WX), L2N.Takes X W → ∀ σ I H T, Mw X.K X.mg Γ σ I H T → ∀ Q : Option Int → Hp → Prop,
    Out m (fun a => ∀ I' H', Gr I H I' H' → Q a H') (XO X W σ I H) → ∃ t : TO, PO X e t ∧ t σ H Q
theorem vp_none : VP X Γ none (.ok none) := fun W tk σ I H T mw Q o => ⟨_, po_none, o I H (.refl mw.ih)⟩
theorem vp_some {m : M Int} (h : VX true X Γ e m) : VP X Γ (some e) (m >>= fun i => .ok (some i)) := fun W tk σ I H T mw Q o =>
  ⟨_, po_some pe_of, h.ap tk mw o.bind (fun i _ o1 v I1 H1 g1 r1 => by cases r1; exact ⟨i, rfl, o1 I1 H1 g1⟩) fun _ z => z⟩
end
def oOf (X : Cx) (e : Option Expr) : TO := fun σ H Q => ∀ pins s, Inv X pins σ H s → wpAny (model X.prog X.w) X.A (evalPart e X.env) (fun u s' => ∃ o H', Inv X pins σ H' s' ∧ IsPart u o ∧ Q o H') X.xe s
end Vc

set_option Elab.async false
set_option linter.all false
set_option maxRecDepth 100000
namespace Vc
open PySem PySem.Spec PyProof.Rows L2
open Enc (enc)

/-! ### list + list, list * int, by SqL -/
def rCatS (K : PySem.W.Frag) : R2 := fun x y H Q => ∃ l b xs zs, x = .ref l ∧ y = .ref b ∧ SqL K H l xs ∧ SqL K H b zs ∧ xs.length + zs.length ≤ sizeLine ∧ ∀ p, H p = none → Q (.ref p) (upd H p (.lst (xs ++ zs)))
theorem op_catS {X : Cx} : OpR X (binaryOp .Add) (rCatS X.K) := by
  intro pins s σ H x y v u Q I rx ry h
  obtain ⟨l, b, xs, zs, rfl, rfl, hH, hB, hz, q⟩ := h
  cases rx
  cases ry
  obtain ⟨its, r, pl, hz1⟩ := I.list hH
  obtain ⟨its2, r2, pl2, hz2⟩ := I.list hB
  obtain ⟨⟨cls, dd, data, sl⟩, n, ho, hc, hdd, hd⟩ := pl
  obtain ⟨⟨cls2, dd2, data2, sl2⟩, n2, ho2, hc2, hdd2, hd2⟩ := pl2
  simp only at hc hd hdd hc2 hd2 hdd2
  subst hc hd hdd hc2 hd2 hdd2
  have hl := r.length
  have hl2 := r2.length
  refine concat_meets ⟨_, ho, rfl⟩ ⟨_, ho2, rfl⟩ noFill_list_add seq_list_add PySem.F.slot_list_add PySem.F.entry_list_add (PySem.F.args_list_add_2 _ _) (list_addW l b its.toArray its2.toArray n n2 none none sl sl2 (by rw [List.size_toArray, List.size_toArray]; omega)) ⟨ho, ho2, ?_⟩
  have ea : its.toArray ++ its2.toArray = (its ++ its2).toArray := by simp
  rw [ea]
  refine ⟨.ref _, upd H s.heap.objs.size (.lst (xs ++ zs)), I.laid (t' := s.toks) (fun b o e => Heap.get?_push_of_some _ e) (Nat.le_refl _) ?_, rfl, q _ (I.hok.fresh (Nat.le_refl _))⟩
  exact ⟨by rw [List.length_append]; omega, _, 0, r.append r2, Heap.get?_push_size _ rfl⟩
def rRepS (K : PySem.W.Frag) : R2 := fun x y H Q => ∃ l k xs, x = .ref l ∧ y = .int k ∧ SqL K H l xs ∧ -(2 ^ 63) ≤ k ∧ k < 2 ^ 63 ∧ xs.length * k.toNat ≤ sizeLine ∧
  ∀ p, H p = none → Q (.ref p) (upd H p (.lst (List.replicate k.toNat xs).flatten))
theorem Vals.rep {xs : List V} {us : List Value} (r : Vals xs us) : ∀ n, Vals (List.replicate n xs).flatten (List.replicate n us).flatten
  | 0 => .nil
  | n + 1 => by
    rw [List.replicate_succ, List.replicate_succ, List.flatten_cons, List.flatten_cons]
    exact r.append (Vals.rep r n)
theorem op_repS {X : Cx} : OpR X (binaryOp .Mult) (rRepS X.K) := by
  intro pins s σ H x y v u Q I rx ry h
  obtain ⟨l, k, xs, rfl, rfl, hH, h1, h2, hz, q⟩ := h
  cases rx
  obtain ⟨t, rfl⟩ := ry
  obtain ⟨its, r, pl, hz1⟩ := I.list hH
  obtain ⟨⟨cls, dd, data, sl⟩, n, ho, hc, hdd, hd⟩ := pl
  simp only at hc hd hdd
  subst hc hd hdd
  have hl := r.length
  have hsz' : its.toArray.size * k.toNat ≤ 2 ^ 24 := by rw [List.size_toArray, ← hl]; exact hz
  refine wpAny_binaryOp_repeat_ref (T := "list") (U := "int") (by decide) ⟨_, ho, rfl⟩ (fun s' => typeIs_int s' k t) noFill_list_mul PySem.F.fills_int_mul PySem.F.slot_int_rmul repeat_list PySem.F.slot_int_index.lookup
    (call_meets PySem.F.slot_int_rmul (typeIs_int s k t) PySem.F.entry_int_rmul (PySem.F.args_int_rmul_2 _ _) (lm_int_rmul_list_any k t l its.toArray n none sl)
      ⟨ho, rfl, ⟨_, ho, rfl⟩, call_meets PySem.F.slot_list_mul ⟨_, ho, rfl⟩ PySem.F.entry_list_mul (PySem.F.args_list_mul_2 _ _)
        (lm_list_mul_any l its.toArray n none sl k t (by simp [Builtin.List.listFitsIndex]; omega) (by omega) (by simp [Builtin.List.listTooLong, sizeLine]; simp at hsz'; omega))
        ⟨ho, ?_⟩⟩)
  refine ⟨.ref _, upd H s.heap.objs.size (.lst (List.replicate k.toNat xs).flatten), I.laid (t' := s.toks) (fun b o e => Heap.get?_push_of_some _ e) (Nat.le_refl _) ?_, rfl, q _ (I.hok.fresh (Nat.le_refl _))⟩
  refine ⟨?_, _, 0, Vals.rep r k.toNat, ?_⟩
  · rw [List.length_flatten, List.map_replicate, List.sum_replicate_nat, Nat.mul_comm]
    exact hz
  · rw [Heap.get?_push_size _ rfl, listMul_foldl_if]
def rPgL (K : PySem.W.Frag) : V → V → Hp → VK → Prop := rIxL K
theorem pget_list {X : Cx} : PGet X (rPgL X.K) := by
  intro pins s σ H o i ov iv Q I ro ri h
  obtain ⟨p, xs, i, z, rfl, rfl, hq, he, q⟩ := h
  cases ro
  obtain ⟨t, rfl⟩ := ri
  obtain ⟨its, r, pl, hz⟩ := I.list hq
  obtain ⟨j, h1, h2, h3, h4, h5⟩ := atI_get he
  obtain ⟨w, ew, rw'⟩ := r.get h2
  have hl := r.length
  have hn := line63
  have fin : EP X pins σ Q w s := ⟨z, H, I, rw', q⟩
  by_cases h0 : 0 ≤ i
  · have hj : i.toNat = j := by
      rw [seqIndex_of h0 h5] at h1
      exact Option.some.inj h1
    exact wpAny_getItem_list pl.isList h0 (by omega) (by rw [hj]; simpa using ew) fin
  · have hj : (i + (its.toArray.size : Int)).toNat = j := by
      rw [seqIndex_neg (by omega) h4] at h1
      rw [List.size_toArray, ← hl]
      exact Option.some.inj h1
    exact wpAny_getItem_list_neg pl.isList (by omega) (by rw [List.size_toArray] <;> omega) (by omega) (by rw [hj]; simpa using ew) fin

def catM {α : Type} (x y : List α) : M (List α) := chk (x.length + y.length ≤ sizeLine) >>= fun _ => .ok (x ++ y)
def repM {α : Type} (x : List α) (k : Int) : M (List α) := chk (-(2 ^ 63) ≤ k ∧ k < 2 ^ 63 ∧ x.length * k.toNat ≤ sizeLine) >>= fun _ => .ok (List.replicate k.toNat x).flatten
section
variable {X : Cx} {Γ Γx : List SL} {e a b c : Expr} {es : List Expr} {rest : List Stmt} {pos p : Pos} {α β γ : Type} [Enc α] [Enc β] [Enc γ] {w w' : Bool} {τ : Type} {E : Eds τ}
theorem vo_cat {m1 m2 : M (List α)} (ha : VX false X Γ a m1) (hb : VX false X Γ b m2) : VO X Γ (.BinOp a .Add b pos) ow1 (m1 >>= fun x => m2 >>= fun y => catM x y) := fun W tk σ I H T mw Q o => by
  refine to_t (pe_op op_catS pe_of pe_of) (ha.ap tk mw o.bind (fun l _ o1 v I1 H1 g1 r1 => ?_) fun _ z => z)
  refine hb.ap tk (mw.gr g1) o1.bind (fun l2 _ o2 u I2 H2 g2 r2 => ?_) fun _ z => z.gr g1
  unfold catM at o2
  obtain ⟨hz, o3⟩ := o2.chk
  obtain ⟨p, xs, rfl, hq, rs⟩ := (r1.mono g2.i0).lst_inv
  obtain ⟨p2, ys, rfl, hq2, rs2⟩ := R.lst_inv r2
  refine ⟨p, p2, xs, ys, rfl, rfl, g2.ih.seq hq, g2.ih.seq hq2, by rw [rs.length, rs2.length, List.length_map, List.length_map]; exact hz, fun p hp => ?_⟩
  refine o3 _ I2 _ [p] (by have := Wd.ow (g1.trans g2) (fun _ z => nomatch z) (Wd.new (o := .lst (xs ++ ys)) g2.ih hp); simpa using this) (ow1_new ?_)
  rw [List.map_append]
  exact Rs.append rs rs2
theorem vo_catB [Atm α] {m1 m2 : M (List α)} (ha : VX true X Γ a m1) (hb : VX true X Γ b m2) : VO X Γ (.BinOp a .Add b pos) ow1 (m1 >>= fun x => m2 >>= fun y => catM x y) := fun W tk σ I H T mw Q o => by
  refine to_t (pe_op op_catS pe_of pe_of) (ha.ap tk mw o.bind (fun l _ o1 v I1 H1 g1 r1 => ?_) fun _ z => z)
  refine hb.ap tk (mw.gr g1) o1.bind (fun l2 _ o2 u I2 H2 g2 r2 => ?_) fun _ z => z.gr g1
  unfold catM at o2
  obtain ⟨hz, o3⟩ := o2.chk
  obtain ⟨p, xs, rfl, hq, rs⟩ := (r1.mono g2.h0).lst_inv
  obtain ⟨p2, ys, rfl, hq2, rs2⟩ := R.lst_inv r2
  refine ⟨p, p2, xs, ys, rfl, rfl, hq, hq2, by rw [rs.length, rs2.length, List.length_map, List.length_map]; exact hz, fun p hp => ?_⟩
  refine o3 _ I2 _ [p] (by have := Wd.ow (g1.trans g2) (fun _ z => nomatch z) (Wd.new (o := .lst (xs ++ ys)) g2.ih hp); simpa using this) (ow1_new ?_)
  rw [List.map_append]
  exact Rs.append rs.atoms rs2.atoms
theorem Rs.rep {K : PySem.W.Frag} {mg : Str → Option Value} {H : Hp} {xs : List V} {l : List α} (h : Rs K mg H xs (l.map enc)) : ∀ n, Rs K mg H (List.replicate n xs).flatten ((List.replicate n l).flatten.map enc)
  | 0 => .nil
  | n + 1 => by
    rw [List.replicate_succ, List.replicate_succ, List.flatten_cons, List.flatten_cons, List.map_append]
    exact h.append (Rs.rep h n)
theorem vo_rep {m1 : M (List α)} {m2 : M Int} (ha : VX false X Γ a m1) (hb : VX true X Γ b m2) : VO X Γ (.BinOp a .Mult b pos) ow1 (m1 >>= fun x => m2 >>= fun y => repM x y) := fun W tk σ I H T mw Q o => by
  refine to_t (pe_op op_repS pe_of pe_of) (ha.ap tk mw o.bind (fun l _ o1 v I1 H1 g1 r1 => ?_) fun _ z => z)
  refine hb.ap tk (mw.gr g1) o1.bind (fun k _ o2 u I2 H2 g2 r2 => ?_) fun _ z => z.gr g1
  cases r2
  unfold repM at o2
  obtain ⟨⟨h1, h2, hz⟩, o3⟩ := o2.chk
  obtain ⟨p, xs, rfl, hq, rs⟩ := (r1.mono g2.i0).lst_inv
  refine ⟨p, k, xs, rfl, rfl, g2.ih.seq hq, h1, h2, by rw [rs.length, List.length_map]; exact hz, fun p hp => ?_⟩
  exact o3 _ I2 _ [p] (by have := Wd.ow (g1.trans g2) (fun _ z => nomatch z) (Wd.new (o := .lst (List.replicate k.toNat xs).flatten) g2.ih hp); simpa using this) (ow1_new (Rs.rep rs _))
/-! slices -/
theorem po_of {X : Cx} {e : Option Expr} : PO X e (oOf X e) := ⟨fun pins s σ H Q I h => h pins s I⟩
theorem VP.ap {e : Option Expr} {m : M (Option Int)} (h : VP X Γ e m) {W : WX} (tk : L2N.Takes X W) {σ : L2.St} {I H : Hp} {T : List Addr} (mw : Mw X.K X.mg Γ σ I H T) {Q : Option Int → Hp → Prop} {P : Option Int → Prop} {E : Exn → Prop} (o : Out m P E)
    (hP : ∀ a, m = .ok a → P a → ∀ I' H', Gr I H I' H' → Q a H') (hE : ∀ ex, E ex → XO X W σ I H ex) : oOf X e σ H Q := fun pins s In => by
  obtain ⟨t, p, q⟩ := h W tk σ I H T mw Q (o.mono hP fun ex _ k => hE ex k)
  exact p.run pins s σ H Q In q
theorem vo_sl {m : M (List α)} {lo hi : Option Expr} {ml mh : M (Option Int)} {p2 : Pos} (h : VX false X Γ e m) (hl : VP X Γ lo ml) (hh : VP X Γ hi mh) : VO X Γ (.Subscript e (.Slice lo hi none p2) pos) ow1 (m >>= fun l => ml >>= fun i => mh >>= fun j => M.ok (cutL l i j)) := fun W tk σ I H T mw Q o => by
  refine to_t (pe_slice sl_list pe_of po_of po_of) (h.ap tk mw o.bind (fun l _ o1 v I1 H1 g1 r1 => ?_) fun _ z => z)
  refine hl.ap tk (mw.gr g1) o1.bind (fun i _ o2 I2 H2 g2 => ?_) fun _ z => z.gr g1
  refine hh.ap tk ((mw.gr g1).gr g2) o2.bind (fun j _ o3 I3 H3 g3 => ?_) fun _ z => (z.gr g1).gr g2
  obtain ⟨p, xs, rfl, hq, rs⟩ := ((r1.mono g2.i0).mono g3.i0).lst_inv
  exact ⟨p, xs, rfl, g3.ih.seq hq, fun p hp => o3 _ I3 _ [p] (by have := Wd.ow ((g1.trans g2).trans g3) (fun _ z => nomatch z) (Wd.new (o := .lst (cutV xs i j)) g3.ih hp); simpa using this) (ow1_new rs.cut)⟩
theorem vo_slB [Atm α] {m : M (List α)} {lo hi : Option Expr} {ml mh : M (Option Int)} {p2 : Pos} (h : VX true X Γ e m) (hl : VP X Γ lo ml) (hh : VP X Γ hi mh) : VO X Γ (.Subscript e (.Slice lo hi none p2) pos) ow1 (m >>= fun l => ml >>= fun i => mh >>= fun j => M.ok (cutL l i j)) := fun W tk σ I H T mw Q o => by
  refine to_t (pe_slice sl_list pe_of po_of po_of) (h.ap tk mw o.bind (fun l _ o1 v I1 H1 g1 r1 => ?_) fun _ z => z)
  refine hl.ap tk (mw.gr g1) o1.bind (fun i _ o2 I2 H2 g2 => ?_) fun _ z => z.gr g1
  refine hh.ap tk ((mw.gr g1).gr g2) o2.bind (fun j _ o3 I3 H3 g3 => ?_) fun _ z => (z.gr g1).gr g2
  obtain ⟨p, xs, rfl, hq, rs⟩ := ((r1.mono g2.h0).mono g3.h0).lst_inv
  exact ⟨p, xs, rfl, hq, fun p hp => o3 _ I3 _ [p] (by have := Wd.ow ((g1.trans g2).trans g3) (fun _ z => nomatch z) (Wd.new (o := .lst (cutV xs i j)) g3.ih hp); simpa using this) (ow1_new rs.cut.atoms)⟩

/-! ### owned lists changed -/
theorem ow1_inv {l : List α} : ow1 l = O.lst ((l.map enc).map O.imm) := by unfold ow1; rw [List.map_map]; rfl
/-- an owned list at a slot: what stands there, and its change -/
theorem own_at {I0 H0 : Hp} {σ : L2.St} {I H : Hp} {T : List Addr} {i : Nat} {l : List α} (mt : Mt X.K X.mg I0 H0 Γ σ I H T) (hΓ : Γ[i]? = some (sO l)) : ∃ q xs, σ[i]? = some (some (.ref q)) ∧ H q = some (.lst xs) ∧ Rs X.K X.mg I xs (l.map enc) ∧
    ∀ I' H', Gr I H I' H' → H' q = some (.lst xs) ∧ ∀ xs' (l' : List α), Rs X.K X.mg I' xs' (l'.map enc) → Mt X.K X.mg I0 H0 (Γ.set i (sO l')) σ I' (upd H' q (.lst xs')) T := by
  rw [show sO l = .val (.lst ((l.map enc).map O.imm)) from congrArg SL.val ow1_inv] at hΓ
  obtain ⟨q, xs, T2, h1, h2, h3, h4, h5, h6⟩ := mt.sl.chg mt.wd.nd hΓ
  obtain ⟨rfl, rs⟩ := h4.imm
  refine ⟨q, xs, h1, h3, rs, fun I' H' g => ⟨g.h0 _ _ h3, fun xs' l' r' => ?_⟩⟩
  have mt1 := mt.gr g
  obtain ⟨q', ys, T2', h1', h2', h3', h4', h5', h6'⟩ := mt1.sl.chg mt1.wd.nd hΓ
  obtain ⟨rfl, rs'⟩ := h4'.imm
  have eq : q' = q := by rw [h1] at h1'; cases h1'; rfl
  subst eq
  refine ⟨mt1.wd.put h2', ?_⟩
  have := h6' xs' ((l'.map enc).map O.imm) (Ows.of_imm r')
  rw [← ow1_inv] at this
  exact this
/-- x.append(e) -/
theorem vs_append (i : Nat) {x : Str} {px apos : Pos} {l : List α} {m : M α} {k : List α → M τ} (he : VE X Γ e m) (hk : ∀ l', VS X (Γ.set i (sO l')) Γx rest E (k l')) (hs : Sub Γ Γx) (hΓ : Γ[i]? = some (sO l) := by rfl) (hN : X.N[i]? = some x := by rfl)
    (hv : Vis X.env.scope x := by first | exact Or.inl rfl | exact Or.inr (Or.inl rfl) | exact Or.inr (Or.inr rfl)) (hd : (x == ("__debug__" : Str)) = false := by decide) (hcd : (x == ("__classdict__" : Str)) = false := by decide)
    (hbase : attributeBase (.Name x px) "append" X.env (eval (.Name x px) X.env) = eval (.Name x px) X.env := by rfl)
    (hfew : ((backTo p (starEach [e] X.env)).all (fun x => !x.1) && (backToKw p (keywordEach [] X.env)).all (fun x => x.1.isSome) && decide (([e] : List Expr).length + ([] : List Keyword).length + (if ([] : List Keyword).isEmpty then 0 else 1) < 30)) = true := by rfl)
    (hline : (apos.endLine == p.line) = true := by rfl) (hst : starEach [e] X.env = (false, eval e X.env) :: starEach [] X.env := by rfl) (hpl : (backTo p (starEach [] X.env)).any (·.1) = false := by rfl)
    (hsw : swapsWith (.Call (.Attribute (.Name x px) "append" apos) [e] [] p) none pos.line X.env = pure false := by rfl) :
    VS X Γ Γx (.Expr (.Call (.Attribute (.Name x px) "append" apos) [e] [] p) pos :: rest) E (m >>= fun a => chk (l.length < sizeLine) >>= fun _ => k (l ++ [a])) := fun W tk I0 H0 σ I H T mt D o => by
  obtain ⟨q, xs, h1, h3, rs, up⟩ := own_at mt hΓ
  refine seq_s (to_s1 (ps_expr (pe_bm PySem.F.plainAttrs_list PySem.F.slot_list_append PySem.F.type_list_append mt_append (pe_var hN hv hd hcd) (pa_cons pe_of pa_nil hst) hbase hfew hline hst hpl) hsw) ⟨.ref q, h1, .inl ⟨rfl, xs, .of h3⟩, ?_⟩)
  refine he.ap tk mt.mw o.bind (fun a _ o1 v I1 H1 g1 r1 => ?_) fun _ z => z.xo mt hs
  obtain ⟨hz, o2⟩ := o1.chk
  obtain ⟨h3', up'⟩ := up I1 H1 g1
  refine ⟨q, xs, v, rfl, rfl, h3', by rw [rs.length, List.length_map]; exact hz, ?_⟩
  exact rest_s (hk _) tk (up' (xs ++ [v]) (l ++ [a]) (by rw [List.map_append]; exact Rs.append (rs.mono g1.i0) (.cons r1 .nil))) o2
theorem setL_out {l : List α} {i : Int} {a : α} {P : List α → Prop} {E : Exn → Prop} (o : Out (setL l i a) P E) : ∃ j, ixN l.length i = some j ∧ P (l.set j a) := by
  unfold setL at o
  cases q : ixN l.length i with
  | none => rw [q] at o; exact o.elim
  | some j => rw [q] at o; exact ⟨j, rfl, o⟩
/-- x[j] = e -/
theorem vs_setI (i : Nat) {x : Str} {px ps : Pos} {l : List α} {m : M α} {mi : M Int} {k : List α → M τ} (he : VE X Γ e m) (hix : VX true X Γ b mi) (hk : ∀ l', VS X (Γ.set i (sO l')) Γx rest E (k l')) (hs : Sub Γ Γx) (hΓ : Γ[i]? = some (sO l) := by rfl) (hN : X.N[i]? = some x := by rfl)
    (hv : Vis X.env.scope x := by first | exact Or.inl rfl | exact Or.inr (Or.inl rfl) | exact Or.inr (Or.inr rfl)) (hd : (x == ("__debug__" : Str)) = false := by decide) (hcd : (x == ("__classdict__" : Str)) = false := by decide)
    (hst : ∀ v, assign (.Subscript (.Name x px) b ps) X.env v = (do
      let ov ← holding [v] (eval (.Name x px) X.env)
      let iv ← holding [v, ov] (eval b X.env)
      standAt ps
      holding [v, ov, iv] (setItem ov iv v)
      release [v, ov, iv] []) := by intro _; rfl)
    (hs1 : swapsWithSole [.Subscript (.Name x px) b ps] e pos.line X.env = pure false := by rfl) (hw : swappedStores [.Subscript (.Name x px) b ps] e X.env = pure none := by rfl) (hm1 : (assignEach [.Subscript (.Name x px) b ps] X.env).map (·.2) = [assign (.Subscript (.Name x px) b ps) X.env] := by rfl) :
    VS X Γ Γx (.Assign [.Subscript (.Name x px) b ps] e pos :: rest) E (m >>= fun a => mi >>= fun j => setL l j a >>= k) := fun W tk I0 H0 σ I H T mt D o => by
  obtain ⟨q, xs, h1, h3, rs, up⟩ := own_at mt hΓ
  refine seq_s (to_s1 (ps_asg pe_of (pg_sub (pe_var hN hv hd hcd) pe_of set_list hst) hs1 hw hm1) ?_)
  refine he.ap tk mt.mw o.bind (fun a _ o1 v I1 H1 g1 r1 => ?_) fun _ z => z.xo mt hs
  refine ⟨.ref q, h1, ?_⟩
  refine hix.ap tk (mt.mw.gr g1) o1.bind (fun j _ o2 u I2 H2 g2 r2 => ?_) fun _ z => (z.xo mt hs).gr g1
  cases r2
  obtain ⟨n, hn, o3⟩ := setL_out o2.bind
  obtain ⟨h3', up'⟩ := up I2 H2 (g1.trans g2)
  refine ⟨q, xs, j, n, rfl, rfl, h3', by rw [rs.length, List.length_map]; exact hn, ?_⟩
  exact rest_s (hk _) tk (up' (xs.set n v) (l.set n a) (by rw [List.map_set]; exact Rs.set (r1.mono g2.i0) n (rs.mono (g1.trans g2).i0))) o3
/-- x[j] op= e, ints -/
theorem vs_augIt (i : Nat) {x : Str} {px ps : Pos} {op : Operator} {r : R2} {f : Int → Int → M Int} {l : List Int} {m : M Int} {mi : M Int} {k : List Int → M τ} (ho : OpR X (inplaceOp op) r) (hr : ∀ x y H, ∀ Q : VK, Out (f x y) (fun z => Q (.int z) H) (fun _ => False) → r (.int x) (.int y) H Q) (hxx : ∀ x y e, f x y ≠ .exc e)
    (hix : VX true X Γ b mi) (he : VX true X Γ e m) (hk : ∀ l', VS X (Γ.set i (sO l')) Γx rest E (k l')) (hs : Sub Γ Γx) (hΓ : Γ[i]? = some (sO l) := by rfl) (hN : X.N[i]? = some x := by rfl)
    (hv : Vis X.env.scope x := by first | exact Or.inl rfl | exact Or.inr (Or.inl rfl) | exact Or.inr (Or.inr rfl)) (hd : (x == ("__debug__" : Str)) = false := by decide) (hcd : (x == ("__classdict__" : Str)) = false := by decide)
    (ha : ∀ ov iv new, augStore b ov iv new = (do holding [new, ov, iv] (setItem ov iv new); release [new, ov, iv] []; pure .next) := by intros; rfl) :
    VS X Γ Γx (.AugAssign (.Subscript (.Name x px) b ps) op e pos :: rest) E (mi >>= fun j => getI l j >>= fun a => m >>= fun y => f a y >>= fun z => setL l j z >>= k) := fun W tk I0 H0 σ I H T mt D o => by
  obtain ⟨q, xs, h1, h3, rs, up⟩ := own_at mt hΓ
  refine seq_s (to_s1 (ps_augS (pe_var hN hv hd hcd) pe_of pget_list pe_of ho set_list ha) ⟨.ref q, h1, ?_⟩)
  refine hix.ap tk mt.mw o.bind (fun j _ o1 u I1 H1 g1 r1 => ?_) fun _ z => z.xo mt hs
  cases r1
  obtain ⟨a, ea, o2⟩ := getI_out o1.bind
  obtain ⟨h3', up'⟩ := up I1 H1 g1
  obtain ⟨va, ev, rv⟩ := (rs.mono g1.i0).atI ea
  refine ⟨q, xs, j, va, rfl, rfl, .of h3', ev, ?_⟩
  refine he.ap tk (mt.mw.gr g1) o2.bind (fun y _ o3 u I2 H2 g2 r2 => ?_) fun _ z => (z.xo mt hs).gr g1
  cases r2
  cases rv
  refine hr a y H2 _ (o3.bind.mono (fun z _ o4 => ?_) fun ex q _ => hxx a y ex q)
  obtain ⟨n, hn, o5⟩ := setL_out o4.bind
  obtain ⟨h3'', up''⟩ := up I2 H2 (g1.trans g2)
  refine ⟨q, xs, j, n, rfl, rfl, h3'', by rw [rs.length, List.length_map]; exact hn, ?_⟩
  exact rest_s (hk _) tk (up'' (xs.set n (.int z)) (l.set n z) (by rw [List.map_set]; exact Rs.set (.int z) n (rs.mono (g1.trans g2).i0))) o5

/-! ### what a loop walks -/
def Yl (K : PySem.W.Frag) (mg : Str → Option Value) (J : It) (I1 H1 : Hp) (l : List α) : Prop := ∀ i I H, Same I1 I → Same I H →
  (∀ a, l[i]? = some a → J.go i H ∧ ∀ x H2, J.yld i H x H2 → ∃ I2, Gr I H I2 H2 ∧ R K mg I2 x (enc a)) ∧ (l.length ≤ i → J.stop i H)
def VI (X : Cx) (Γ : List SL) (tg e : Expr) {α : Type} [Enc α] (m : M (List α)) : Prop :=
  ∀ (W : WX), L2N.Takes X W → ∀ σ I H T, Mw X.K X.mg Γ σ I H T → ∀ R : It → Hp → Prop,
    Out m (fun l => ∀ J I' H', Gr I H I' H' → Yl X.K X.mg J I' H' l → R J H') (XO X W σ I H) → iOf X tg e σ H R
theorem VI.ap {tg : Expr} {m : M (List α)} (h : VI X Γ tg e m) {W : WX} (tk : L2N.Takes X W) {σ : L2.St} {I H : Hp} {T : List Addr} (mw : Mw X.K X.mg Γ σ I H T) {R : It → Hp → Prop} {P : List α → Prop} {E : Exn → Prop} (o : Out m P E)
    (hP : ∀ a, m = .ok a → P a → ∀ J I' H', Gr I H I' H' → Yl X.K X.mg J I' H' a → R J H') (hE : ∀ ex, E ex → XO X W σ I H ex) : iOf X tg e σ H R := h W tk σ I H T mw R (o.mono hP fun ex _ k => hE ex k)
theorem vi_list {tg : Expr} {m : M (List α)} (h : VX false X Γ e m) : VI X Γ tg e m := fun W tk σ I H T mw R o => by
  refine to_i (pi_list pe_of) (h.ap tk mw o (fun l _ k v I1 H1 g1 r1 => ?_) fun _ z => z)
  obtain ⟨p, xs, rfl, hq, rs⟩ := Vc.R.lst_inv r1
  refine ⟨p, rfl, ⟨xs, g1.ih.seq hq⟩, k _ I1 H1 g1 fun i I2 H2 s1 s2 => ⟨fun a ha => ?_, fun hi => ⟨xs, (s1.trans s2).seq hq, by rw [rs.length, List.length_map]; exact hi⟩⟩⟩
  obtain ⟨v, e1, r2⟩ := (rs.mono s1).get (i := i) (x := enc a) (by rw [List.getElem?_map, ha]; rfl)
  refine ⟨⟨xs, v, (s1.trans s2).seq hq, e1⟩, fun x H3 y => ?_⟩
  obtain ⟨rfl, y⟩ := y
  rw [y xs ((s1.trans s2).seq hq)] at e1
  cases e1
  exact ⟨I2, .refl s2, r2⟩
theorem vi_tup {tg : Expr} {m : M (Tup α)} (h : VX false X Γ e m) : VI X Γ tg e (m >>= fun t => M.ok t.l) := fun W tk σ I H T mw R o => by
  refine to_i (pi_tup pe_of) (h.ap tk mw o.bind (fun l _ k v I1 H1 g1 r1 => ?_) fun _ z => z)
  obtain ⟨p, xs, rfl, hq, rs⟩ := Vc.R.tup_inv r1
  refine ⟨p, rfl, ⟨xs, Same.seqT g1.ih hq⟩, k _ I1 H1 g1 fun i I2 H2 s1 s2 => ⟨fun a ha => ?_, fun hi => ⟨xs, Same.seqT (s1.trans s2) hq, by rw [rs.length, List.length_map]; exact hi⟩⟩⟩
  obtain ⟨v, e1, r2⟩ := (rs.mono s1).get (i := i) (x := enc a) (by rw [List.getElem?_map, ha]; rfl)
  refine ⟨⟨xs, v, Same.seqT (s1.trans s2) hq, e1⟩, fun x H3 y => ?_⟩
  obtain ⟨rfl, y⟩ := y
  rw [y xs (Same.seqT (s1.trans s2) hq)] at e1
  cases e1
  exact ⟨I2, .refl s2, r2⟩
/-- the ints of a range -/
def rng (a b : Int) : List Int := (List.range (b - a).toNat).map fun i : Nat => a + (i : Int)
theorem rng_get {a b : Int} {i : Nat} {x : Int} (h : (rng a b)[i]? = some x) : i < (b - a).toNat ∧ x = a + (i : Int) := by
  unfold rng at h
  rw [List.getElem?_map] at h
  by_cases hi : i < (b - a).toNat
  · rw [List.getElem?_range hi] at h
    exact ⟨hi, (Option.some.inj h).symm⟩
  · rw [List.getElem?_eq_none (by rw [List.length_range]; omega)] at h
    cases h
theorem rng_length (a b : Int) : (rng a b).length = (b - a).toNat := by unfold rng; rw [List.length_map, List.length_range]
theorem yl_rng {K : PySem.W.Frag} {mg : Str → Option Value} {I H : Hp} {a b : Int} : Yl K mg (Itr a (b - a).toNat) I H (rng a b) := fun i I2 H2 s1 s2 => ⟨fun x hx => by
  obtain ⟨hi, rfl⟩ := rng_get hx
  exact ⟨hi, fun y H3 z => by
    obtain ⟨rfl, rfl⟩ := z
    exact ⟨I2, .refl s2, .int _⟩⟩, fun h => by rw [rng_length] at h; exact h⟩
def rOk (a : Int) : Prop := -(2 ^ 62) ≤ a ∧ a < 2 ^ 62
instance (a : Int) : Decidable (rOk a) := by unfold rOk; infer_instance
theorem vi_range1 {tg : Expr} {m : M Int} (hm : X.mg "range" = none) (h : VX true X Γ a m) (hg : Gl X "range" := by rfl) (hs : starEach [a] X.env = [(false, eval a X.env)] := by rfl) : VI X Γ tg (.Call (.Name "range" p) [a] [] pos) (m >>= fun n => chk (rOk n) >>= fun _ => M.ok (rng 0 n)) := fun W tk σ I H T mw R o => by
  refine to_i (pi_range1 hg hm (pa_cons pe_of pa_nil hs) hs) (h.ap tk mw o.bind (fun n _ o1 v I1 H1 g1 r1 => ?_) fun _ z => z)
  cases r1
  obtain ⟨⟨h1, h2⟩, o2⟩ := o1.chk
  refine ⟨n, rfl, h1, h2, o2 _ I1 H1 g1 ?_⟩
  have := yl_rng (K := X.K) (mg := X.mg) (I := I1) (H := H1) (a := 0) (b := n)
  rw [Int.sub_zero] at this
  exact this
theorem vi_range2 {tg : Expr} {m1 m2 : M Int} (hm : X.mg "range" = none) (h : VX true X Γ a m1) (h2 : VX true X Γ b m2) (hg : Gl X "range" := by rfl) (hs : starEach [a, b] X.env = [(false, eval a X.env), (false, eval b X.env)] := by rfl) (hs2 : starEach [b] X.env = [(false, eval b X.env)] := by rfl) :
    VI X Γ tg (.Call (.Name "range" p) [a, b] [] pos) (m1 >>= fun x => m2 >>= fun y => chk (rOk x ∧ rOk y) >>= fun _ => M.ok (rng x y)) := fun W tk σ I H T mw R o => by
  refine to_i (pi_range2 hg hm (pa_cons pe_of (pa_cons pe_of pa_nil hs2) (by rw [hs, hs2])) hs hs2) (h.ap tk mw o.bind (fun x _ o1 v I1 H1 g1 r1 => ?_) fun _ z => z)
  refine h2.ap tk (mw.gr g1) o1.bind (fun y _ o2 u I2 H2 g2 r2 => ?_) fun _ z => z.gr g1
  cases r1; cases r2
  obtain ⟨⟨⟨h1, h2⟩, h3, h4⟩, o3⟩ := o2.chk
  exact ⟨x, y, rfl, ⟨h1, h2, h3, h4⟩, o3 _ I2 H2 (g1.trans g2) yl_rng⟩

/-! ### loops -/
/-- a loop that is never left -/
def loopS {α S : Type} (f : S → α → M S) : List α → S → M S
  | [], s => .ok s
  | a :: l, s => f s a >>= fun s' => loopS f l s'
@[simp] theorem loopS_nil {α S : Type} (f : S → α → M S) (s : S) : loopS f [] s = .ok s := rfl
@[simp] theorem loopS_cons {α S : Type} (f : S → α → M S) (a : α) (l : List α) (s : S) : loopS f (a :: l) s = f s a >>= fun s' => loopS f l s' := rfl
inductive Stp (S τ : Type) where
  | nx (s : S)
  | bk (s : S)
  | rt (t : τ)
/-- a loop with break, return -/
def loopM {α S τ : Type} (f : S → α → M (Stp S τ)) : List α → S → M (Stp S τ)
  | [], s => .ok (.nx s)
  | a :: l, s => f s a >>= fun r => match r with
    | .nx s' => loopM f l s'
    | .bk s' => .ok (.bk s')
    | .rt t => .ok (.rt t)
@[simp] theorem loopM_nil {α S τ : Type} (f : S → α → M (Stp S τ)) (s : S) : loopM f [] s = .ok (.nx s) := rfl
theorem loopM_cons {α S τ : Type} (f : S → α → M (Stp S τ)) (a : α) (l : List α) (s : S) : loopM f (a :: l) s = f s a >>= fun r => match r with
    | .nx s' => loopM f l s'
    | .bk s' => .ok (.bk s')
    | .rt t => .ok (.rt t) := rfl
def Stp.on {S τ : Type} (r : Stp S τ) (k : S → M τ) : M τ := match r with
  | .nx s => k s
  | .bk s => k s
  | .rt t => .ok t
@[simp] theorem Stp.on_nx {S τ : Type} (s : S) (k : S → M τ) : Stp.on (.nx s) k = k s := rfl
@[simp] theorem Stp.on_bk {S τ : Type} (s : S) (k : S → M τ) : Stp.on (.bk s) k = k s := rfl
@[simp] theorem Stp.on_rt {S τ : Type} (t : τ) (k : S → M τ) : Stp.on (.rt t) k = .ok t := rfl
def eSt {S τ : Type} (F : S → List SL) (E : Eds τ) : Eds (Stp S τ) where
  nx := fun Γ' r => ∃ s, r = .nx s ∧ Sub Γ' (F s)
  ct := fun Γ' r => ∃ s, r = .nx s ∧ Sub Γ' (F s)
  bk := fun Γ' r => ∃ s, r = .bk s ∧ Sub Γ' (F s)
  rt := fun o r => ∃ t, r = .rt t ∧ E.rt o t
def eLp {S : Type} (F : S → List SL) : Eds S where
  nx := fun Γ' s => Sub Γ' (F s)
  ct := fun Γ' s => Sub Γ' (F s)
theorem Wd.re {I0 H0 I H I' H' : Hp} {T T' : List Addr} (w : Wd I0 H0 I H T) (w' : Wd I H0 I' H' T') : Wd I0 H0 I' H' T' :=
  ⟨w'.ih, w.i0.trans w'.i0, w'.h0, w'.fr, w'.nd, fun p h h' => w'.sep p h (w.sep p h h')⟩
theorem Mt.re {K : PySem.W.Frag} {mg : Str → Option Value} {I0 H0 I H I' H' : Hp} {T T' : List Addr} {Γ' : List SL} {σ' : L2.St} (w : Wd I0 H0 I H T) (m : Mt K mg I H0 Γ' σ' I' H' T') : Mt K mg I0 H0 Γ' σ' I' H' T' := ⟨w.re m.wd, m.sl⟩
theorem XS.re {X : Cx} {W : WX} {I0 H0 I H : Hp} {T : List Addr} {Γx : List SL} {ex : Exn} (w : Wd I0 H0 I H T) (h : XS X W I0 H0 Γx ex) : XS X W I H0 Γx ex := fun cl d σ' I' H' T' mt a => h cl d σ' I' H' T' (Mt.re w mt) a
theorem Mt.root {K : PySem.W.Frag} {mg : Str → Option Value} {I0 H0 I H : Hp} {T : List Addr} {Γ : List SL} {σ : L2.St} (m : Mt K mg I0 H0 Γ σ I H T) : Mt K mg I H0 Γ σ I H T := ⟨⟨m.wd.ih, .refl _, m.wd.h0, m.wd.fr, m.wd.nd, fun _ _ z => z⟩, m.sl⟩
/-- the core of a for: a loop function whose turn is f, given by its unfolding -/
theorem for_core {S R : Type} {n : Nat} (F : S → List SL) (s0 : S) {tg : Expr} {vs : List Nat} {u : α → List SL → List SL} {m : M (List α)} {body : List Stmt} {EB : Eds R} {b : S → α → M R} {lp : List α → S → M τ} (hp : PassesOwn (model X.prog X.w) X.A X.env X.xe) (hc : X.calm = true) (hi : VI X Γ tg e m) (hg : VG X n tg vs u)
    (hb : ∀ s a, VS X (u a (F s)) Γx body EB (b s a))
    (hk : ∀ s, VS X (F s) Γx rest E (lp [] s)) (fin : R → List α → M τ) (hlp : ∀ s a l, lp (a :: l) s = b s a >>= fun r => fin r l)
    (hnx : ∀ r l Γ', EB.nx Γ' r → ∃ s, Sub Γ' (F s) ∧ fin r l = lp l s) (hct : ∀ r l Γ', EB.ct Γ' r → ∃ s, Sub Γ' (F s) ∧ fin r l = lp l s)
    (hbk : ∀ r l Γ', EB.bk Γ' r → ∃ s, Sub Γ' (F s) ∧ fin r l = lp [] s) (hrt : ∀ r l o, EB.rt o r → ∃ t, fin r l = .ok t ∧ E.rt o t)
    (h0 : Sub Γ (F s0)) (hs : Sub Γ Γx) (hn : ∀ s, (F s).length = n) (hf : ∀ x, foldedSetIterable e X.env x = pure x) :
    VS X Γ Γx (.For tg e body [] pos :: rest) E (m >>= fun l => lp l s0) := fun W tk I0 H0 σ I H T mt D o => by
  refine seq_s (to_s1 (ps_for hp hc pi_of pg_of pss_of hf) ?_)
  refine hi.ap tk mt.mw o.bind (fun l _ o1 J I1 H1 g1 yl => ?_) fun _ z => z.xo mt hs
  obtain ⟨T1, mt1⟩ := (mt.gr g1).sub h0
  refine ⟨fun i m σ' H' => m = l.length - i ∧ i ≤ l.length ∧ ∃ s I' T', Mt X.K X.mg I0 H0 (F s) σ' I' H' T' ∧ Same I1 I' ∧ Out (lp (l.drop i) s) (DO X I0 H0 E D) (XS X W I0 H0 Γx), ⟨l.length, rfl, Nat.zero_le _, s0, I1, T1, mt1, .refl _, o1⟩, ?_⟩
  rintro i _ σ' H' ⟨rfl, hi, s, I', T', mt', s1, o'⟩
  obtain ⟨go, stop⟩ := yl i I' H' s1 mt'.wd.ih
  by_cases hlt : i < l.length
  · obtain ⟨g2, y2⟩ := go l[i] (List.getElem?_eq_getElem hlt)
    rw [List.drop_eq_getElem_cons hlt, hlp] at o'
    refine .inr ⟨g2, fun σ2 H2 => ∃ s I' T', Mt X.K X.mg I0 H0 (F s) σ2 I' H2 T' ∧ Same I1 I' ∧ Out (lp (l.drop (i + 1)) s) (DO X I0 H0 E D) (XS X W I0 H0 Γx), fun σ2 H2 h => ⟨l.length - (i + 1), by omega, rfl, hlt, h⟩, fun x H2 y => ?_⟩
    obtain ⟨I2, g3, r3⟩ := y2 x H2 y
    have mt2 := mt'.gr g3
    refine hg (F s) (hn s) x l[i] σ' I2 H2 T' mt2.mw r3 _ fun σ3 T3 _ _ s3 c3 d3 => ?_
    have mt4 : Mt X.K X.mg I0 H0 (u l[i] (F s)) σ3 I2 H2 T3 := ⟨⟨mt2.wd.ih, mt2.wd.i0, mt2.wd.h0, fun p hp => mt2.wd.fr p (c3 p hp), d3, mt2.wd.sep⟩, s3⟩
    have w0 := mt4.wd
    refine hb s l[i] W tk I2 H0 σ3 I2 H2 T3 mt4.root _ (o'.bind.mono (fun r _ o2 => ?_) fun ex _ z => z.re w0)
    refine ⟨fun Γ' σ4 I4 H4 T4 z mt5 => ?_, fun Γ' σ4 I4 H4 T4 z mt5 => ?_, fun Γ' σ4 I4 H4 T4 z mt5 => ?_, fun ow v I4 H4 T4 z wd5 q => ?_⟩
    · obtain ⟨s', hsub, e⟩ := hnx r (l.drop (i + 1)) Γ' z
      rw [e] at o2
      obtain ⟨T5, mt6⟩ := (Mt.re w0 mt5).sub hsub
      exact ⟨s', I4, T5, mt6, (s1.trans g3.i0).trans mt5.wd.i0, o2⟩
    · obtain ⟨s', hsub, e⟩ := hbk r (l.drop (i + 1)) Γ' z
      rw [e] at o2
      obtain ⟨T5, mt6⟩ := (Mt.re w0 mt5).sub hsub
      exact rest_s (hk s') tk mt6 o2
    · obtain ⟨s', hsub, e⟩ := hct r (l.drop (i + 1)) Γ' z
      rw [e] at o2
      obtain ⟨T5, mt6⟩ := (Mt.re w0 mt5).sub hsub
      exact ⟨s', I4, T5, mt6, (s1.trans g3.i0).trans mt5.wd.i0, o2⟩
    · obtain ⟨t, e, ht⟩ := hrt r (l.drop (i + 1)) ow z
      rw [e] at o2
      exact DO.rt (E := E) o2 ow v I4 H4 T4 ht (w0.re wd5) q
  · have e : i = l.length := by omega
    subst e
    rw [List.drop_length] at o'
    exact .inl ⟨stop (Nat.le_refl _), rest_s (hk s) tk mt' o'⟩
/-- a for with break, return -/
theorem vs_for {S : Type} {n : Nat} (F : S → List SL) (s0 : S) {tg : Expr} {vs : List Nat} {u : α → List SL → List SL} {m : M (List α)} {body : List Stmt} {b : S → α → M (Stp S τ)} {k : S → M τ} (hp : PassesOwn (model X.prog X.w) X.A X.env X.xe) (hc : X.calm = true) (hi : VI X Γ tg e m) (hg : VG X n tg vs u)
    (hb : ∀ s a, VS X (u a (F s)) Γx body (eSt F E) (b s a)) (hk : ∀ s, VS X (F s) Γx rest E (k s)) (h0 : Sub Γ (F s0)) (hs : Sub Γ Γx) (hn : ∀ s, (F s).length = n := by exact fun _ => rfl) (hf : ∀ x, foldedSetIterable e X.env x = pure x := by intro _; rfl) :
    VS X Γ Γx (.For tg e body [] pos :: rest) E (m >>= fun l => loopM b l s0 >>= fun r => r.on k) :=
  for_core (lp := fun l s => loopM b l s >>= fun r => r.on k) F s0 hp hc hi hg hb hk (fun r l => match r with | .nx s => loopM b l s >>= fun r => r.on k | .bk s => k s | .rt t => .ok t)
    (fun s a l => by
      rw [loopM_cons, M.bind_assoc]
      congr 1
      funext r
      cases r <;> rfl)
    (fun r l Γ' ⟨s, e, h⟩ => ⟨s, h, by rw [e]⟩) (fun r l Γ' ⟨s, e, h⟩ => ⟨s, h, by rw [e]⟩) (fun r l Γ' ⟨s, e, h⟩ => ⟨s, h, by rw [e]; rfl⟩) (fun r l o ⟨t, e, h⟩ => ⟨t, by rw [e], h⟩) h0 hs hn hf
/-- a for that is never left -/
theorem vs_forS {S : Type} {n : Nat} (F : S → List SL) (s0 : S) {tg : Expr} {vs : List Nat} {u : α → List SL → List SL} {m : M (List α)} {body : List Stmt} {b : S → α → M S} {k : S → M τ} (hp : PassesOwn (model X.prog X.w) X.A X.env X.xe) (hc : X.calm = true) (hi : VI X Γ tg e m) (hg : VG X n tg vs u)
    (hb : ∀ s a, VS X (u a (F s)) Γx body (eLp F) (b s a)) (hk : ∀ s, VS X (F s) Γx rest E (k s)) (h0 : Sub Γ (F s0)) (hs : Sub Γ Γx) (hn : ∀ s, (F s).length = n := by exact fun _ => rfl) (hf : ∀ x, foldedSetIterable e X.env x = pure x := by intro _; rfl) :
    VS X Γ Γx (.For tg e body [] pos :: rest) E (m >>= fun l => loopS b l s0 >>= k) :=
  for_core (lp := fun l s => loopS b l s >>= k) F s0 hp hc hi hg hb hk (fun r l => loopS b l r >>= k)
    (fun s a l => by rw [loopS_cons, M.bind_assoc])
    (fun r l Γ' h => ⟨r, h, rfl⟩) (fun r l Γ' h => ⟨r, h, rfl⟩) (fun r l Γ' h => h.elim) (fun r l o h => h.elim) h0 hs hn hf

/-! ### while -/
def whileM {S : Type} (c : S → M Bool) (f : S → M S) : Nat → S → M S
  | 0, _ => .stuck
  | n + 1, s => c s >>= fun x => if x then f s >>= fun s' => whileM c f n s' else .ok s
theorem whileM_succ {S : Type} (c : S → M Bool) (f : S → M S) (n : Nat) (s : S) : whileM c f (n + 1) s = c s >>= fun x => if x then f s >>= fun s' => whileM c f n s' else .ok s := rfl
def whileR {S τ : Type} (c : S → M Bool) (f : S → M (Stp S τ)) : Nat → S → M (Stp S τ)
  | 0, _ => .stuck
  | n + 1, s => c s >>= fun x => if x then f s >>= fun r => match r with
    | .nx s' => whileR c f n s'
    | .bk s' => .ok (.bk s')
    | .rt t => .ok (.rt t) else .ok (.nx s)
theorem whileR_succ {S τ : Type} (c : S → M Bool) (f : S → M (Stp S τ)) (n : Nat) (s : S) : whileR c f (n + 1) s = c s >>= fun x => if x then f s >>= fun r => match r with
    | .nx s' => whileR c f n s'
    | .bk s' => .ok (.bk s')
    | .rt t => .ok (.rt t) else .ok (.nx s) := rfl
theorem while_core {S R : Type} (F : S → List SL) (s0 : S) (fuel : Nat) {c : Expr} {mc : S → M Bool} {body : List Stmt} {EB : Eds R} {b : S → M R} {lp : Nat → S → M τ} {k : S → M τ} (hp : PassesOwn (model X.prog X.w) X.A X.env X.xe) (hc : ∀ s, VT X (F s) c (mc s))
    (hb : ∀ s, VS X (F s) Γx body EB (b s)) (hk : ∀ s, VS X (F s) Γx rest E (k s)) (fin : R → Nat → M τ) (hl0 : ∀ s, lp 0 s = .stuck) (hlp : ∀ s n, lp (n + 1) s = mc s >>= fun x => if x then b s >>= fun r => fin r n else k s)
    (hnx : ∀ r l Γ', EB.nx Γ' r → ∃ s, Sub Γ' (F s) ∧ fin r l = lp l s) (hct : ∀ r l Γ', EB.ct Γ' r → ∃ s, Sub Γ' (F s) ∧ fin r l = lp l s)
    (hbk : ∀ r l Γ', EB.bk Γ' r → ∃ s, Sub Γ' (F s) ∧ fin r l = k s) (hrt : ∀ r l o, EB.rt o r → ∃ t, fin r l = .ok t ∧ E.rt o t)
    (h0 : Sub Γ (F s0)) (hs : ∀ s, Sub (F s) Γx) : VS X Γ Γx (.While c body [] pos :: rest) E (lp fuel s0) := fun W tk I0 H0 σ I H T mt D o => by
  refine seq_s (to_s1 (ps_while hp pt_of pss_of) ?_)
  obtain ⟨T1, mt1⟩ := mt.sub h0
  refine ⟨fun n σ' H' => ∃ s I' T', Mt X.K X.mg I0 H0 (F s) σ' I' H' T' ∧ Out (lp n s) (DO X I0 H0 E D) (XS X W I0 H0 Γx), ⟨fuel, s0, I, T1, mt1, o⟩, ?_⟩
  rintro n σ' H' ⟨s, I', T', mt', o'⟩
  cases n with
  | zero => rw [hl0] at o'; exact o'.elim
  | succ n =>
    rw [hlp] at o'
    refine (hc s).ap tk mt'.mw o'.bind (fun x _ o1 I1 H1 g1 => ?_) fun _ z => z.xo mt' (hs s)
    have mt1 := mt'.gr g1
    cases x with
    | false =>
      refine iteF (rest_s (hk s) tk mt1 ?_)
      exact o1
    | true =>
      refine iteT ⟨fun σ2 H2 => ∃ s I' T', Mt X.K X.mg I0 H0 (F s) σ2 I' H2 T' ∧ Out (lp n s) (DO X I0 H0 E D) (XS X W I0 H0 Γx), fun σ2 H2 h => ⟨n, Nat.lt_succ_self n, h⟩, ?_⟩
      have o1 : Out (b s >>= fun r => fin r n) (DO X I0 H0 E D) (XS X W I0 H0 Γx) := o1
      refine hb s W tk I0 H0 σ' I1 H1 T' mt1 _ (o1.bind.mono (fun r _ o2 => ?_) fun _ _ z => z)
      refine ⟨fun Γ' σ4 I4 H4 T4 z mt5 => ?_, fun Γ' σ4 I4 H4 T4 z mt5 => ?_, fun Γ' σ4 I4 H4 T4 z mt5 => ?_, fun ow v I4 H4 T4 z wd5 q => ?_⟩
      · obtain ⟨s', hsub, e⟩ := hnx r n Γ' z
        rw [e] at o2
        obtain ⟨T5, mt6⟩ := mt5.sub hsub
        exact ⟨s', I4, T5, mt6, o2⟩
      · obtain ⟨s', hsub, e⟩ := hbk r n Γ' z
        rw [e] at o2
        obtain ⟨T5, mt6⟩ := mt5.sub hsub
        exact rest_s (hk s') tk mt6 o2
      · obtain ⟨s', hsub, e⟩ := hct r n Γ' z
        rw [e] at o2
        obtain ⟨T5, mt6⟩ := mt5.sub hsub
        exact ⟨s', I4, T5, mt6, o2⟩
      · obtain ⟨t, e, ht⟩ := hrt r n ow z
        rw [e] at o2
        exact DO.rt (E := E) o2 ow v I4 H4 T4 ht wd5 q
theorem vs_whileS {S : Type} (F : S → List SL) (s0 : S) (fuel : Nat) {c : Expr} {mc : S → M Bool} {body : List Stmt} {b : S → M S} {k : S → M τ} (hp : PassesOwn (model X.prog X.w) X.A X.env X.xe) (hc : ∀ s, VT X (F s) c (mc s)) (hb : ∀ s, VS X (F s) Γx body (eLp F) (b s)) (hk : ∀ s, VS X (F s) Γx rest E (k s)) (h0 : Sub Γ (F s0)) (hs : ∀ s, Sub (F s) Γx) :
    VS X Γ Γx (.While c body [] pos :: rest) E (whileM mc b fuel s0 >>= k) :=
  while_core (lp := fun n s => whileM mc b n s >>= k) F s0 fuel hp hc hb hk (fun r n => whileM mc b n r >>= k) (fun _ => rfl) (fun s n => by
    rw [whileM_succ, M.bind_assoc]
    congr 1
    funext x
    cases x
    · rfl
    · simp only [if_true]; rw [M.bind_assoc]) (fun r l Γ' h => ⟨r, h, rfl⟩) (fun r l Γ' h => ⟨r, h, rfl⟩) (fun r l Γ' h => h.elim) (fun r l o h => h.elim) h0 hs
theorem vs_while {S : Type} (F : S → List SL) (s0 : S) (fuel : Nat) {c : Expr} {mc : S → M Bool} {body : List Stmt} {b : S → M (Stp S τ)} {k : S → M τ} (hp : PassesOwn (model X.prog X.w) X.A X.env X.xe) (hc : ∀ s, VT X (F s) c (mc s)) (hb : ∀ s, VS X (F s) Γx body (eSt F E) (b s)) (hk : ∀ s, VS X (F s) Γx rest E (k s)) (h0 : Sub Γ (F s0)) (hs : ∀ s, Sub (F s) Γx) :
    VS X Γ Γx (.While c body [] pos :: rest) E (whileR mc b fuel s0 >>= fun r => r.on k) :=
  while_core (lp := fun n s => whileR mc b n s >>= fun r => r.on k) F s0 fuel hp hc hb hk (fun r n => match r with | .nx s => whileR mc b n s >>= fun r => r.on k | .bk s => k s | .rt t => .ok t) (fun _ => rfl) (fun s n => by
    rw [whileR_succ, M.bind_assoc]
    congr 1
    funext x
    cases x
    · rfl
    · simp only [if_true]; rw [M.bind_assoc]; congr 1; funext r; cases r <;> rfl) (fun r l Γ' ⟨s, e, h⟩ => ⟨s, h, by rw [e]⟩) (fun r l Γ' ⟨s, e, h⟩ => ⟨s, h, by rw [e]⟩) (fun r l Γ' ⟨s, e, h⟩ => ⟨s, h, by rw [e]⟩) (fun r l o ⟨t, e, h⟩ => ⟨t, by rw [e], h⟩) h0 hs
end
end Vc

set_option Elab.async false
set_option linter.all false
set_option maxRecDepth 100000
namespace Vc
open PySem PySem.Spec PyProof.Rows L2
open Enc (enc)
theorem takes0N {X : Cx} : L2N.Takes X (fun _ _ _ _ => False) := fun _ _ x => by
  obtain ⟨_, _, _, _, _, _, _, _, _, _, _, _, _, _, _, _, z⟩ := x
  exact z.elim

/-! ### comprehensions -/
/-- [f a for a in l if t a] -/
def lcGo {α β : Type} (t : α → M Bool) (f : α → M β) : List α → M (List β)
  | [] => .ok []
  | a :: l => t a >>= fun c => if c then f a >>= fun b => lcGo t f l >>= fun r => .ok (b :: r) else lcGo t f l
def lcM {α β : Type} (t : α → M Bool) (f : α → M β) (l : List α) : M (List β) := chk (l.length ≤ sizeLine) >>= fun _ => nox (lcGo t f l)
/-- [f a for a in l] -/
def mapGo {α β : Type} (f : α → M β) : List α → M (List β)
  | [] => .ok []
  | a :: l => f a >>= fun b => mapGo f l >>= fun r => .ok (b :: r)
def mapM' {α β : Type} (f : α → M β) (l : List α) : M (List β) := chk (l.length ≤ sizeLine) >>= fun _ => nox (mapGo f l)
theorem lcGo_yes {α β : Type} (f : α → M β) (l : List α) : lcGo (fun _ => .ok true) f l = mapGo f l := by
  induction l with
  | nil => rfl
  | cons a l ih =>
    show (f a >>= fun b => lcGo _ f l >>= fun r => M.ok (b :: r)) = f a >>= fun b => mapGo f l >>= fun r => M.ok (b :: r)
    rw [ih]
theorem nox_out {α : Type} {m : M α} {P : α → Prop} {E : Exn → Prop} (o : Out (nox m) P E) : Out m P fun _ => False := by
  cases m with
  | ok a => exact o
  | stuck => exact o
  | exc e => exact o
theorem nox_exc {α : Type} {m : M α} {e : Exn} : nox m ≠ .exc e := by cases m <;> intro h <;> cases h
section
variable {X : Cx} {Γ Γx : List SL} {e a b c : Expr} {es : List Expr} {rest : List Stmt} {pos p : Pos} {α β γ : Type} [Enc α] [Enc β] [Enc γ] {w w' : Bool} {τ : Type} {E : Eds τ}
def wipeG (Γ : List SL) : List Nat → List SL
  | [] => Γ
  | v :: vs => (wipeG Γ vs).set v .any
theorem wipeG_length (Γ : List SL) : ∀ vs, (wipeG Γ vs).length = Γ.length
  | [] => rfl
  | v :: vs => by show ((wipeG Γ vs).set v .any).length = _; rw [List.length_set, wipeG_length Γ vs]
theorem Sls.anyAt {K : PySem.W.Frag} {mg : Str → Option Value} {I H : Hp} : ∀ {σ : L2.St} {Γ : List SL} {T : List Addr} (i : Nat) (x : Option V), Sls K mg I H σ Γ T → ∃ T', Sls K mg I H (σ.set i x) (Γ.set i .any) T' ∧ T'.Sublist T
  | _, _, _, _, _, .nil => ⟨[], by simp; exact .nil, .refl _⟩
  | _, _, _, 0, _, .any r => ⟨_, .any r, .refl _⟩
  | _, _, _, 0, _, .val q r => ⟨_, .any r, List.sublist_append_right _ _⟩
  | _, _, _, i + 1, x, .any r => let ⟨T', s, k⟩ := Sls.anyAt i x r; ⟨T', .any s, k⟩
  | _, _, _, i + 1, x, .val q r => let ⟨T', s, k⟩ := Sls.anyAt i x r; ⟨_, .val q s, (List.Sublist.refl _).append k⟩
theorem Mw.wipe {K : PySem.W.Frag} {mg : Str → Option Value} {Γ : List SL} {σ : L2.St} {I H : Hp} {T : List Addr} (m : Mw K mg Γ σ I H T) : ∀ vs, ∃ T', Mw K mg (wipeG Γ vs) (L2.wipe σ vs) I H T' ∧ T'.Sublist T
  | [] => ⟨T, m, .refl _⟩
  | v :: vs => by
    obtain ⟨T1, m1, s1⟩ := Mw.wipe m vs
    obtain ⟨T2, m2, s2⟩ := m1.sl.anyAt v none
    exact ⟨T2, ⟨m1.ih, fun p hp => m1.fr p (s2.subset hp), m1.nd.sublist s2, m2⟩, s2.trans s1⟩
/-- a comprehension's own slots do not matter for what holds elsewhere -/
def gAll (X : Cx) (scope : Scope) (tg : Expr) : TG := fun v σ H Q => ∀ s H0 C cl fp, gOf (X.blk s H0 scope (compEnvC scope cl C X.env) fp) tg v σ H Q
def tAll (X : Cx) (scope : Scope) (e : Expr) : TE := fun σ H Q => ∀ s H0 C cl fp, tOf (X.blk s H0 scope (compEnvC scope cl C X.env) fp) e σ H Q
def ksOf (X : Cx) (ifs : List Expr) : TT := fun σ H Q => ∀ pins s, Inv X pins σ H s → wpAny (model X.prog X.w) X.A (forIn ifs true fun c r => if r = true then do let ok ← isTrue c X.env (eval c X.env); pure (ForInStep.yield ok) else pure (ForInStep.yield r)) (TP X pins σ Q) X.xe s
def kAll (X : Cx) (scope : Scope) (ifs : List Expr) : TT := fun σ H Q => ∀ s H0 C cl fp, ksOf (X.blk s H0 scope (compEnvC scope cl C X.env) fp) ifs σ H Q
/-- tests of a clause -/
def VK (X : Cx) (Γ : List SL) (ifs : List Expr) (m : M Bool) : Prop :=
  ∀ (W : WX), L2N.Takes X W → ∀ σ I H T, Mw X.K X.mg Γ σ I H T → ∀ Q : Bool → Hp → Prop,
    Out m (fun a => ∀ I' H', Gr I H I' H' → Q a H') (XO X W σ I H) → ksOf X ifs σ H Q
theorem vk_nil : VK X Γ [] (.ok true) := fun W tk σ I H T mw Q o pins s In => pts_nil.run pins s σ H Q In (o I H (.refl mw.ih))
theorem vk_one {m : M Bool} (h : VT X Γ c m) : VK X Γ [c] m := fun W tk σ I H T mw Q o pins s In => (pts_one pt_of).run pins s σ H Q In (h W tk σ I H T mw Q o)
abbrev BLK (X : Cx) (scope : Scope) (P : Cx → Prop) : Prop := ∀ (s : Shared) (H : Hp) (C : Addr) (cl : List (Str × Addr)) (fp : List Addr), P (X.blk s H scope (compEnvC scope cl C X.env) fp)
theorem lc_read {n : Nat} {tg : Expr} {ifs : List Expr} {elt : Expr} {scope : Scope} {vs : List Nat} {u : α → List SL → List SL} {m : M (List α)} {t : α → M Bool} {f : α → M β} (hi : VI X Γ tg e m) (hg : BLK X scope fun Y => VG Y n tg vs u) (ht : ∀ a, BLK X scope fun Y => VK Y (u a (wipeG Γ vs)) ifs (t a))
    (he : ∀ a, BLK X scope fun Y => VE Y (u a (wipeG Γ vs)) elt (f a)) (hn : Γ.length = n) {W : WX} (tk : L2N.Takes X W) {σ : L2.St} {I H : Hp} {T : List Addr} (mw : Mw X.K X.mg Γ σ I H T) {Q : L2.VK} {P : List β → Prop} {E : Exn → Prop} (o : Out (m >>= fun l => lcM t f l) P E)
    (hP : ∀ r, P r → ∀ v I' H' T2, Wd I H I' H' T2 → Ow X.K X.mg I' H' v (ow1 r) T2 → Q v H') (hE : ∀ ex, E ex → XO X W σ I H ex) : tLc (iOf X tg e) (gAll X scope tg) (kAll X scope ifs) (tAll X scope elt) vs σ H Q := by
  refine hi.ap tk mw o.bind (fun l _ o1 J I1 H1 g1 yl => ?_) hE
  intro D hD
  unfold lcM at o1
  obtain ⟨hz, o2⟩ := o1.chk
  have o3 := nox_out o2
  have mw1 := mw.gr g1
  refine ⟨fun i m H' => m = l.length - i ∧ i ≤ l.length ∧ ∃ I' acc xs, Wd I H I' H' [D] ∧ Same I1 I' ∧ H' D = some (.lst xs) ∧ Rs X.K X.mg I' xs ((acc : List β).map enc) ∧ acc.length ≤ i ∧ Out (lcGo t f (l.drop i)) (fun r => P (acc ++ r)) (fun _ => False), ⟨l.length, rfl, Nat.zero_le _, I1, [], [], ?_, .refl _, upd_same, .nil, Nat.le_refl _, o3⟩, ?_⟩
  · have := Wd.ow g1 (fun _ z => nomatch z) (Wd.new (o := .lst []) g1.ih hD)
    simpa using this
  rintro i _ H' ⟨rfl, hi, I', acc, xs, wd, s1, hDl, rs, ha, o'⟩
  obtain ⟨go, stop⟩ := yl i I' H' s1 wd.ih
  by_cases hlt : i < l.length
  · obtain ⟨g2, y2⟩ := go l[i] (List.getElem?_eq_getElem hlt)
    rw [List.drop_eq_getElem_cons hlt] at o'
    refine .inr ⟨g2, fun H2 => ∃ I' acc xs, Wd I H I' H2 [D] ∧ Same I1 I' ∧ H2 D = some (.lst xs) ∧ Rs X.K X.mg I' xs ((acc : List β).map enc) ∧ acc.length ≤ i + 1 ∧ Out (lcGo t f (l.drop (i + 1))) (fun r => P (acc ++ r)) (fun _ => False), fun H2 h => ⟨l.length - (i + 1), by omega, rfl, hlt, h⟩, fun x H2 y => ?_⟩
    obtain ⟨I2, g3, r3⟩ := y2 x H2 y
    -- the block's slots: those of the frame, with D owned besides
    have mwD : ∀ {I3 H3 : Hp}, Wd I H I3 H3 [D] → Mw X.K X.mg Γ σ I3 H3 T := fun {I3 H3} w => ⟨w.ih, fun p hp => w.sep p (by obtain ⟨zs, e⟩ := mw.sl.there p hp; rw [e]; simp) (mw.fr p hp), mw.nd, mw.sl.mono w.i0 fun p hp => by
      obtain ⟨zs, e⟩ := mw.sl.there p hp
      rw [e]; exact w.h0 p _ e⟩
    have thD : ∀ p ∈ [D], H' p ≠ none := fun p hp => by
      have : p = D := by simpa using hp
      rw [this, hDl]; simp
    have wd3 : Wd I H I2 H2 [D] := wd.gr thD g3
    have hD2 : H2 D = some (.lst xs) := g3.h0 _ _ hDl
    obtain ⟨T2, mw2, _⟩ := (mwD wd3).wipe vs
    intro s0 H0 C cl fp
    refine hg s0 H0 C cl fp (wipeG Γ vs) (by rw [wipeG_length]; exact hn) x l[i] _ I2 H2 T2 mw2 r3 _ fun σ3 T3 w3 _ s3 c3 d3 => ?_
    have w3' : L2.wipe σ3 vs = L2.wipe σ vs := by
      rw [w3]
      have idem : ∀ vs, L2.wipe (L2.wipe σ vs) vs = L2.wipe σ vs := by
        intro vs
        have set2 : ∀ (us : List Nat) (τ : L2.St) (j : Nat), j ∈ us → (L2.wipe τ us).set j none = L2.wipe τ us := by
          intro us
          induction us with
          | nil => intro _ _ h; cases h
          | cons u us ih =>
            intro τ j hj
            show ((L2.wipe τ us).set u none).set j none = (L2.wipe τ us).set u none
            by_cases hju : j = u
            · subst hju; rw [List.set_set]
            · rw [List.set_comm _ _ (Ne.symm hju), ih τ j (by simpa [hju] using hj)]
        have gen : ∀ (us ws : List Nat), (∀ j ∈ us, j ∈ ws) → L2.wipe (L2.wipe σ ws) us = L2.wipe σ ws := by
          intro us
          induction us with
          | nil => intro _ _; rfl
          | cons u us ih =>
            intro ws h
            show (L2.wipe (L2.wipe σ ws) us).set u none = _
            rw [ih ws fun j hj => h j (List.mem_cons_of_mem _ hj)]
            exact set2 ws σ u (h u List.mem_cons_self)
        exact gen vs vs fun _ h => h
      exact idem vs
    refine ⟨w3', ?_⟩
    have mw3 : Mw X.K X.mg (u l[i] (wipeG Γ vs)) σ3 I2 H2 T3 := ⟨mw2.ih, fun p hp => mw2.fr p (c3 p hp), d3, s3⟩
    intro s1' H1' C1 cl1 fp1
    have o4 : Out (t l[i] >>= fun c => if c then f l[i] >>= fun b => lcGo t f (l.drop (i + 1)) >>= fun r => M.ok (b :: r) else lcGo t f (l.drop (i + 1))) (fun r => P (acc ++ r)) (fun _ => False) := o'
    refine ht l[i] s1' H1' C1 cl1 fp1 (fun _ _ _ _ => False) takes0N σ3 I2 H2 T3 mw3 _ (o4.bind.mono (fun c _ o5 I4 H4 g4 => ?_) fun _ _ z => z.elim)
    have wd4 : Wd I H I4 H4 [D] := wd3.gr (fun p hp => by
      have : p = D := by simpa using hp
      rw [this, hD2]; simp) g4
    have hD4 : H4 D = some (.lst xs) := g4.h0 _ _ hD2
    cases c with
    | false =>
      refine iteF ⟨I4, acc, xs, wd4, (s1.trans g3.i0).trans g4.i0, hD4, (rs.mono g3.i0).mono g4.i0, Nat.le_succ_of_le ha, o5⟩
    | true =>
      refine iteT ?_
      intro s2' H2' C2 cl2 fp2
      have o5 : Out (f l[i] >>= fun b => lcGo t f (l.drop (i + 1)) >>= fun r => M.ok (b :: r)) (fun r => P (acc ++ r)) (fun _ => False) := o5
      refine he l[i] s2' H2' C2 cl2 fp2 (fun _ _ _ _ => False) takes0N σ3 I4 H4 T3 (mw3.gr g4) _ (o5.bind.mono (fun b _ o6 v I5 H5 g5 r5 => ?_) fun _ _ z => z.elim)
      have wd5 : Wd I H I5 H5 [D] := wd4.gr (fun p hp => by
        have : p = D := by simpa using hp
        rw [this, hD4]; simp) g5
      have hD5 : H5 D = some (.lst xs) := g5.h0 _ _ hD4
      have hl : xs.length = acc.length := by rw [rs.length, List.length_map]
      refine ⟨xs, hD5, by rw [hl]; omega, I5, acc ++ [b], xs ++ [v], wd5.put (by simp), ((s1.trans g3.i0).trans g4.i0).trans g5.i0, upd_same, ?_, by rw [List.length_append]; simp; omega, ?_⟩
      · rw [List.map_append]
        exact Rs.append (((rs.mono g3.i0).mono g4.i0).mono g5.i0) (.cons r5 .nil)
      · refine o6.bind.mono (fun r _ o7 => ?_) fun _ _ z => z
        rw [List.append_assoc]
        exact o7
  · have e : i = l.length := by omega
    subst e
    rw [List.drop_length] at o'
    refine .inl ⟨stop (Nat.le_refl _), hP acc (by have := o'; simpa [lcGo, Out] using this) _ I' H' [D] wd ?_⟩
    refine .lst (T := []) hDl ?_
    rw [show acc.map (fun a => O.imm (enc a)) = (acc.map enc).map O.imm by rw [List.map_map]; rfl]
    exact Ows.of_imm rs
theorem lc_pg {scope : Scope} {tg : Expr} : ∀ (s : Shared) (H : Hp) (C : Addr) (cl : List (Str × Addr)) (fp : List Addr), PG (X.blk s H scope (compEnvC scope cl C X.env) fp) tg (gAll X scope tg) := fun s H C cl fp => ⟨fun pins s2 σ2 H2 v u2 Q2 In r h => (h s H C cl fp).run pins s2 u2 In r⟩
theorem lc_pt {scope : Scope} {ifs : List Expr} : ∀ (s : Shared) (H : Hp) (C : Addr) (cl : List (Str × Addr)) (fp : List Addr), PTs (X.blk s H scope (compEnvC scope cl C X.env) fp) ifs (kAll X scope ifs) := fun s H C cl fp => ⟨fun pins s2 σ2 H2 Q2 In h => h s H C cl fp pins s2 In⟩
theorem lc_pe {scope : Scope} {elt : Expr} : ∀ (s : Shared) (H : Hp) (C : Addr) (cl : List (Str × Addr)) (fp : List Addr), PE (X.blk s H scope (compEnvC scope cl C X.env) fp) elt (tAll X scope elt) := fun s H C cl fp => ⟨fun pins s2 σ2 H2 Q2 In h => (h s H C cl fp).run pins s2 In⟩
theorem vo_lc {n : Nat} {tg : Expr} {ifs : List Expr} {elt : Expr} {scope : Scope} (own : List (Str × Nat)) {u : α → List SL → List SL} {m : M (List α)} {t : α → M Bool} {f : α → M β} (hc : X.calm = true) (hN : X.N.Nodup) (hi : VI X Γ tg e m) (ok : BlkOk X.N X.env.scope scope own)
    (hg : BLK X scope fun Y => VG Y n tg (own.map (·.2)) u) (ht : ∀ a, BLK X scope fun Y => VK Y (u a (wipeG Γ (own.map (·.2)))) ifs (t a)) (he : ∀ a, BLK X scope fun Y => VE Y (u a (wipeG Γ (own.map (·.2)))) elt (f a)) (hn : Γ.length = n := by rfl) (hs : ∀ x, foldedSetIterable e X.env x = pure x := by intro _; rfl) :
    VO X Γ (.ListComp elt [⟨tg, e, ifs, 0⟩] scope pos) ow1 (m >>= fun l => lcM t f l) := fun W tk σ I H T mw Q o => by
  refine to_t (pe_lc hc hN pi_of ok lc_pg lc_pt lc_pe hs) ?_
  exact lc_read hi hg ht he hn tk mw o (fun r k => k) fun _ z => z
/-- name = [..] -/
theorem vs_setLc (i : Nat) {x : Str} {px : Pos} {n : Nat} {tg : Expr} {ifs : List Expr} {elt : Expr} {scope : Scope} (own : List (Str × Nat)) {u : α → List SL → List SL} {m : M (List α)} {t : α → M Bool} {f : α → M β} {k : List β → M τ} (hc : X.calm = true) (hN : X.N.Nodup) (hi : VI X Γ tg e m) (ok : BlkOk X.N X.env.scope scope own)
    (hg : BLK X scope fun Y => VG Y n tg (own.map (·.2)) u) (ht : ∀ a, BLK X scope fun Y => VK Y (u a (wipeG Γ (own.map (·.2)))) ifs (t a)) (he : ∀ a, BLK X scope fun Y => VE Y (u a (wipeG Γ (own.map (·.2)))) elt (f a))
    (hk : ∀ r, VS X (Γ.set i (sO r)) Γx rest E (k r)) (hsb : Sub Γ Γx) (hsw : swapsWith (.ListComp elt [⟨tg, e, ifs, 0⟩] scope pos) (some (.Name x px)) p.line X.env = pure true) (hn : Γ.length = n := by rfl) (hl : Nat.blt i Γ.length = true := by rfl) (hy : X.N[i]? = some x := by rfl) (hyl : X.env.scope.names.lookup x = some .local := by rfl) (hs : ∀ x, foldedSetIterable e X.env x = pure x := by intro _; rfl) :
    VS X Γ Γx (.Assign [.Name x px] (.ListComp elt [⟨tg, e, ifs, 0⟩] scope pos) p :: rest) E ((m >>= fun l => lcM t f l) >>= k) := fun W tk I0 H0 σ I H T mt D o => by
  refine seq_s (to_s1 (ps_setLc hc hN hy hyl hsw pi_of ok lc_pg lc_pt lc_pe hs) ?_)
  show tLc (iOf X tg e) (gAll X scope tg) (kAll X scope ifs) (tAll X scope elt) (own.map (·.2)) σ H _
  refine lc_read hi hg ht he hn tk mt.mw o.bind (fun r o1 v I1 H1 T2 w1 q => ?_) fun _ z => z.xo mt hsb
  have there : ∀ p ∈ T, H p ≠ none := fun p hp => by obtain ⟨xs, e⟩ := mt.sl.there p hp; rw [e]; simp
  have mt1 : Sls X.K X.mg I1 H1 σ Γ T := mt.sl.mono w1.i0 fun p hp => by
    obtain ⟨xs, e⟩ := mt.sl.there p hp
    rw [e]; exact w1.h0 p _ e
  obtain ⟨T', s', c', d'⟩ := mt1.put (Nat.blt_eq.mp hl) q
  have wd := mt.wd.ow there w1
  exact rest_s (hk r) tk ⟨⟨wd.ih, wd.i0, wd.h0, fun p hp => wd.fr p (List.mem_append.mpr (c' p hp)), d' wd.nd, wd.sep⟩, s'⟩ o1
end

/-! ### defs -/
/-- a def's promise: m is what it computes; ea its arguments as data, eo its result -/
def spF (K : PySem.W.Frag) (mg : Str → Option Value) {A ρ : Type} (ea : A → List D) (eo : ρ → O) (m : A → M ρ) : Sp := fun vs H Q E => ∃ (I : Hp) (x : A), Same I H ∧ Rs K mg I vs (ea x) ∧
  Out (m x) (fun r => ∀ v I' H' T, Wd I H I' H' T → Ow K mg I' H' v (eo r) T → Q v H') (fun ex => ∀ cl d I' H', Gr I H I' H' → ExcAt K mg I' ex cl d → E cl d H')
def eFn {ρ : Type} (eo : ρ → O) : Eds ρ where
  nx := fun _ r => eo r = .imm .non
  rt := fun o r => o = eo r
def anys (n : Nat) : List SL := List.replicate n .any
def ent (N : List Str) (ds : List D) : List SL := ds.map (fun d => .val (.imm d)) ++ List.replicate (N.length - ds.length) .any
theorem sub_anys : ∀ Γ : List SL, Sub Γ (anys Γ.length)
  | [] => .nil
  | a :: Γ => .any (sub_anys Γ)
theorem Sls.start {K : PySem.W.Frag} {mg : Str → Option Value} {I H : Hp} : ∀ {vs : List V} {ds : List D} (k : Nat), Rs K mg I vs ds → Sls K mg I H (vs.map some ++ List.replicate k none) (ds.map (fun d => .val (.imm d)) ++ List.replicate k .any) []
  | _, _, 0, .nil => .nil
  | _, _, k + 1, .nil => .any (by have := Sls.start (I := I) (H := H) (K := K) (mg := mg) k .nil; exact this)
  | _, _, k, .cons h r => .val (T := []) (.imm h) (Sls.start k r)
theorem Mt.start {K : PySem.W.Frag} {mg : Str → Option Value} {I H : Hp} {vs : List V} {ds : List D} {N : List Str} (h : Same I H) (r : Rs K mg I vs ds) : Mt K mg I H (ent N ds) (start N vs) I H [] :=
  ⟨Gr.refl h, by unfold ent L2.start; rw [r.length]; exact Sls.start _ r⟩
section
variable {P : Program} {w : World} {K : PySem.W.Frag} {mg : Str → Option Value} {base : Heap}
/-- THE RULE for a def -/
theorem fn_ok {x qual : Str} {st : Stmt} {f : Addr} {fd : FuncData} {N ps : List Str} {k : Nat} {A ρ : Type} {ea : A → List D} {eo : ρ → O} {m : A → M ρ} (F : Fun K x qual st f fd) (S : FnScope N ps (defScope st)) (hl : ∀ a, (ea a).length = ps.length)
    (body : ∀ (cdv : Value) (Ar : Around) (outer : List Env) (s : Shared) (H : Hp) (E : XK), Room k (Ar.deeper (envOfC qual (defScope st) s.heap.objs.size f cdv)) →
      ∀ X, X = cxOf (L2N.CX P w) P w K mg base N qual (defScope st) f cdv Ar outer s H E → ∀ a, VS X (ent N (ea a)) (anys N.length) (defBody st) (eFn eo) (m a)) :
    FnOk P w K mg base (L2N.CX P w) (k + 1) f fd ps (spF K mg ea eo m) := by
  obtain ⟨oc, od, kV, doc, pm, an, cdv, ct, osl, rfl, lk, hcd⟩ := F.ex
  refine fn_of lk hcd S (fun vs H Q E h => ?_) (fun Ar outer s H vs Q E hr h => ?_)
  · obtain ⟨I, x, _, r, _⟩ := h
    rw [r.length, hl]
  · obtain ⟨I, x, hs, r, o⟩ := h
    refine ⟨_, pss_of, ?_⟩
    refine body cdv Ar outer s H E hr _ rfl x (fun cls d _ H' => E cls d H') (L2N.takes_of rfl rfl rfl rfl) I H _ I H [] (Mt.start hs r) _ ?_
    refine o.mono (fun r _ k => ?_) fun ex _ k cl d σ' I' H' T' mt a => ?_
    · exact ⟨fun Γ' σ' I' H' T' z mt => k .non I' H' [] (mt.wd.subl (List.nil_sublist _)) (by rw [show eo r = .imm .non from z]; exact .imm .non), fun _ _ _ _ _ z => z.elim, fun _ _ _ _ _ z => z.elim, fun o v I' H' T' z wd q => k v I' H' T' wd (by rw [← show o = eo r from z]; exact q)⟩
    · exact k cl d I' H' (mt.wd.subl (List.nil_sublist _)) a
end
section
variable {X : Cx} {Γ Γx : List SL} {e a b c : Expr} {es : List Expr} {rest : List Stmt} {pos p : Pos} {α β γ : Type} [Enc α] [Enc β] [Enc γ] {w w' : Bool} {τ : Type} {E : Eds τ}
  {k : Nat} {f : Addr} {fd : FuncData} {ps : List Str} {x : Str} {A ρ : Type} {ea : A → List D} {m : A → M ρ} {ma : M A}
/-- f(e, ..): the result is new or plain -/
theorem vo_call {eo : ρ → O} (F : FnOk X.prog X.w X.K X.mg X.base (L2N.CX X.prog X.w) k f fd ps (spF X.K X.mg ea eo m)) (hr : Room k X.A) (hm : X.mg x = some (.ref f)) (hk : PySem.W.keepIn X.K (.ref f) = true) (hb : Binds X.K fd ps []) (h : VA false X Γ (e :: es) ea ma) (hg : Gl X x := by rfl)
    (hdb : (x == ("__debug__" : Str)) = false := by decide) (he : starEach (e :: es) X.env = (false, eval e X.env) :: starEach es X.env := by rfl) (hpl : (backTo pos (starEach es X.env)).any (·.1) = false := by rfl) : VO X Γ (.Call (.Name x p) (e :: es) [] pos) eo (ma >>= m) := fun W tk σ I H T mw Q o => by
  refine to_t (pe_callS (E := WE W) F hr hg hm hk hb (fun σ => L2N.passAt tk σ) pa_of hdb he hpl) (h.ap tk mw o.bind (fun a _ o1 vs I1 H1 g1 r1 => ?_) fun _ z => z)
  refine ⟨I1, a, g1.ih, r1, o1.mono (fun r _ k v I' H' T' wd q => k v I' H' T' (by have := Wd.ow g1 (fun _ z => nomatch z) wd; simpa using this) q) fun ex _ k cl d I' H' g at' => k cl d I' H' (g1.trans g) at'⟩
theorem ve_call [Enc ρ] (F : FnOk X.prog X.w X.K X.mg X.base (L2N.CX X.prog X.w) k f fd ps (spF X.K X.mg ea (fun r : ρ => .imm (enc r)) m)) (hr : Room k X.A) (hm : X.mg x = some (.ref f)) (hk : PySem.W.keepIn X.K (.ref f) = true) (hb : Binds X.K fd ps []) (h : VA false X Γ (e :: es) ea ma) (hg : Gl X x := by rfl)
    (hdb : (x == ("__debug__" : Str)) = false := by decide) (he : starEach (e :: es) X.env = (false, eval e X.env) :: starEach es X.env := by rfl) (hpl : (backTo pos (starEach es X.env)).any (·.1) = false := by rfl) : VX w X Γ (.Call (.Name x p) (e :: es) [] pos) (ma >>= m) := (vo_call F hr hm hk hb h hg hdb he hpl).ve fun r => O.toD_imm _
/-- arguments that are only borrowed -/
def bor {α : Type} : M α → M α
  | .ok a => .ok a
  | .stuck => .stuck
  | .exc e => if e.fs.isEmpty then .exc e else .stuck
theorem bor_out {α : Type} {m : M α} {P : α → Prop} {E : Exn → Prop} (o : Out (bor m) P E) : Out m P fun e => e.fs = [] ∧ E e := by
  cases m with
  | ok a => exact o
  | stuck => exact o
  | exc e =>
    have o : Out (if e.fs.isEmpty then M.exc e else M.stuck) P E := o
    cases q : e.fs.isEmpty with
    | true => rw [q] at o; exact ⟨by simpa using q, o⟩
    | false => rw [q] at o; exact o.elim
@[simp] theorem bor_ok {α : Type} (a : α) : bor (.ok a) = .ok a := rfl
theorem Gr.keep {I H I' H' : Hp} {T : List Addr} (h : Same I H) (w : Wd H H I' H' T) : Gr I H I H' := ⟨h.trans w.h0, .refl _, w.h0, fun _ z => (nomatch z), List.nodup_nil, fun _ _ z => z⟩
/-- .. a plain result -/
theorem ve_callB [Enc ρ] [Atm ρ] (F : FnOk X.prog X.w X.K X.mg X.base (L2N.CX X.prog X.w) k f fd ps (spF X.K X.mg ea (fun r : ρ => .imm (enc r)) m)) (hr : Room k X.A) (hm : X.mg x = some (.ref f)) (hk : PySem.W.keepIn X.K (.ref f) = true) (hb : Binds X.K fd ps []) (h : VA true X Γ (e :: es) ea ma) (hg : Gl X x := by rfl)
    (hdb : (x == ("__debug__" : Str)) = false := by decide) (he : starEach (e :: es) X.env = (false, eval e X.env) :: starEach es X.env := by rfl) (hpl : (backTo pos (starEach es X.env)).any (·.1) = false := by rfl) : VX w X Γ (.Call (.Name x p) (e :: es) [] pos) (ma >>= fun a => bor (m a)) := fun W tk σ I H T mw Q o => by
  refine to_t (pe_callS (E := WE W) F hr hg hm hk hb (fun σ => L2N.passAt tk σ) pa_of hdb he hpl) (h.ap tk mw o.bind (fun a _ o1 vs I1 H1 g1 r1 => ?_) fun _ z => z)
  refine ⟨H1, a, .refl _, r1, (bor_out o1).mono (fun r _ k v I' H' T' wd q => ?_) fun ex hex k cl d I' H' g at' => ?_⟩
  · cases q with
    | imm r2 => exact k v I1 H' (g1.trans (Gr.keep g1.ih wd)) (r2.atom (Atm.atm r))
  · exact k.2 cl d I1 H' (g1.trans (Gr.keep g1.ih g)) ⟨at'.cls, at'.non, fun z => absurd k.1 z⟩
/-- .. a new list of plain things -/
theorem vo_callB [Enc α] [Atm α] {m : A → M (List α)} (F : FnOk X.prog X.w X.K X.mg X.base (L2N.CX X.prog X.w) k f fd ps (spF X.K X.mg ea ow1 m)) (hr : Room k X.A) (hm : X.mg x = some (.ref f)) (hk : PySem.W.keepIn X.K (.ref f) = true) (hb : Binds X.K fd ps []) (h : VA true X Γ (e :: es) ea ma) (hg : Gl X x := by rfl)
    (hdb : (x == ("__debug__" : Str)) = false := by decide) (he : starEach (e :: es) X.env = (false, eval e X.env) :: starEach es X.env := by rfl) (hpl : (backTo pos (starEach es X.env)).any (·.1) = false := by rfl) : VO X Γ (.Call (.Name x p) (e :: es) [] pos) ow1 (ma >>= fun a => bor (m a)) := fun W tk σ I H T mw Q o => by
  refine to_t (pe_callS (E := WE W) F hr hg hm hk hb (fun σ => L2N.passAt tk σ) pa_of hdb he hpl) (h.ap tk mw o.bind (fun a _ o1 vs I1 H1 g1 r1 => ?_) fun _ z => z)
  refine ⟨H1, a, .refl _, r1, (bor_out o1).mono (fun r _ k v I' H' T' wd q => ?_) fun ex hex k cl d I' H' g at' => ?_⟩
  · refine k v I1 H' T' ?_ ?_
    · have w2 : Wd I1 H1 I1 H' T' := ⟨g1.ih.trans wd.h0, .refl _, wd.h0, fun p hp => ⟨g1.ih.free (wd.fr p hp).2, (wd.fr p hp).2⟩, wd.nd, fun _ _ z => z⟩
      have := Wd.ow g1 (fun _ z => nomatch z) w2
      simpa using this
    · cases q with
      | lst e1 e2 =>
        refine .lst e1 ?_
        rw [show r.map (fun a => O.imm (enc a)) = (r.map enc).map O.imm by rw [List.map_map]; rfl] at e2 ⊢
        obtain ⟨rfl, rs⟩ := e2.imm
        exact Ows.of_imm rs.atoms
  · exact k.2 cl d I1 H' (g1.trans (Gr.keep g1.ih g)) ⟨at'.cls, at'.non, fun z => absurd k.1 z⟩

/-! ### raise, try -/
/-- raise X('..'), a class of one's own without an __init__ -/
theorem vs_raise {bmB : List Value} {B newId initId : String} {C : Addr} {msg : Str} {j : Nat} {pc p2 : Pos} (F : ExcBaseFacts B newId initId bmB) (q : PySem.W.excIn X.K C bmB newId = true) (gC : X.mg x = some (.ref C)) (kC : PySem.W.keepIn X.K (.ref C) = true) (r : Raises X (.ref C)) (hc : X.calm = true) (hs : Sub Γ Γx) (hg : Gl X x := by rfl)
    (hdb : (x == ("__debug__" : Str)) = false := by decide) : VS X Γ Γx (.Raise (some (.Call (.Name x p) [.Constant (.str msg) j p2] [] pc)) none pos :: rest) E (.exc ⟨x, []⟩) := fun W tk I0 H0 σ I H T mt D o => by
  refine seq_s (to_s1 (L2N.ps_raise hc tk (L2N.pmk_own F q gC kC r hg hdb)) ?_)
  obtain ⟨T', mt'⟩ := mt.sub hs
  exact o (.ref C) none σ I H T' mt' ⟨gC, fun _ => rfl, fun z => absurd rfl z⟩
/-- the classes of errors: each name, and what it is below of -/
abbrev ETab := List (Str × List Str)
/-- the except clause's class c against an error's class -/
structure EOk (K : PySem.W.Frag) (mg : Str → Option Value) (tb : ETab) (n : Str) (c : Value) : Prop where
  ex : ∀ m up, tb.lookup m = some up → ∀ cl, mg m = some cl → PySem.W.exmOne K cl c = some (up.contains n)
def isE (tb : ETab) (e : Exn) (n : Str) : M Bool := match tb.lookup e.nm with
  | some up => .ok (up.contains n)
  | none => .stuck
/-- what a try makes of an error -/
def tryM {α : Type} (tb : ETab) (n : Str) (m : M α) (h : Exn → M α) : M α := match m with
  | .ok a => .ok a
  | .stuck => .stuck
  | .exc e => isE tb e n >>= fun b => if b then h e else .exc e
@[simp] theorem tryM_ok {α : Type} (tb : ETab) (n : Str) (a : α) (h : Exn → M α) : tryM tb n (.ok a) h = .ok a := rfl
/-- an error as data -/
def eD (a : Addr) (d : Option Addr) (ex : Exn) : D := match d with
  | none => .adr a
  | some dd => .exn a dd ex.fs
/-- the suite of except .. as e (the error at slot i, its object at a) -/
def SUI (X : Cx) (ex : Exn) (P : Cx → Addr → Option Addr → Prop) : Prop := ∀ (a : Addr) (oe : Obj) (cls : Value) (d : Option Addr) (pn : List (Addr × Obj)), L2N.Zn cls d oe → (∃ vs, oe.data = .fields vs) → X.mg ex.nm = some cls → (ex.fs = [] → d = none) → (ex.fs ≠ [] → d ≠ none) → P (X.suite a ((a, oe) :: pn)) a d
theorem Mt.putD {K : PySem.W.Frag} {mg : Str → Option Value} {I0 H0 : Hp} {Γ : List SL} {σ : L2.St} {I H : Hp} {T : List Addr} {i : Nat} (m : Mt K mg I0 H0 Γ σ I H T) : ∃ T', Mt K mg I0 H0 (Γ.set i .any) (σ.set i none) I H T' := by
  obtain ⟨T', s, k⟩ := m.sl.anyAt i none
  exact ⟨T', m.wd.subl k, s⟩
/-- what falls through a suite has lost the error's name -/
def eSu {τ : Type} (i : Nat) (E : Eds τ) : Eds τ where
  nx := fun Γ' t => E.nx (Γ'.set i .any) t
  bk := fun Γ' t => E.bk (Γ'.set i .any) t
  ct := fun Γ' t => E.ct (Γ'.set i .any) t
  rt := E.rt
/-- try: body / except x as n: suite, the last statement of a block, or behind it what E's fall-through asks -/
theorem vs_try {S : Type} (F : S → List SL) (i : Nat) (tb : ETab) {xc n : Str} {c : Value} {body suite : List Stmt} {b₀ : Stmt} {np pos' : Pos} {mb : M (Jn S τ)} {mh : Exn → M (Jn S τ)} {kk : S → M τ} (Γt : List SL) (hX : X.stack = X.env :: X.outer) (hf : X.env.frame = some X.env.locals) (hN : X.N.Nodup) (hc : Names X xc c) (hE : EOk X.K X.mg tb xc c)
    (hb : ∀ (pn : List (Addr × Obj)) (xe : Value → Shared → Prop), PassesOwn (model X.prog X.w) X.A X.env xe → VS (X.tr pn xe) Γ Γt body (eJn F E) mb)
    (hsu : ∀ ex, SUI X ex fun Y a d => VS Y (Γt.set i (.val (.imm (eD a d ex)))) (anys Γt.length) (b₀ :: suite) (eSu i (eJn F E)) (mh ex))
    (hk : ∀ s, VS X (F s) Γx rest E (kk s)) (hs : Sub Γt Γx) (hi : X.N[i]? = some n := by rfl) (hl : Nat.blt i Γt.length = true := by rfl) (hln : X.env.kindOf n = some .local := by rfl) :
    VS X Γ Γx (.Try body [.ExceptHandler (some (.Name xc np)) (some n) (b₀ :: suite) pos'] [] [] pos :: rest) E (tryM tb xc mb (fun ex => nox (mh ex)) >>= fun j => j.on kk) := fun W tk I0 H0 σ I H T mt D o => by
  refine seq_s (to_s1 (L2N.ps_try_as (tb := fun W' => fun D σ H => ∀ pn xe, L2N.Takes (X.tr pn xe) W' → PassesOwn (model X.prog X.w) X.A X.env xe → sOf (X.tr pn xe) body D σ H) (ts := fun a cls d => fun D σ H => ∀ oe pn, L2N.Zn cls d oe → (∃ vs, oe.data = .fields vs) → sOf (X.suite a ((a, oe) :: pn)) (b₀ :: suite) D σ H)
    hX hf hN hi hln hc tk (fun W' pn xe tk' po => ⟨fun pins s σ H D In h => (h pn xe tk' po).run pins s In⟩) (fun a oe cls d pn hz hfl => ⟨fun pins s σ H D In h => (h oe pn hz hfl).run pins s In⟩)) ?_)
  intro pn xe tk' po
  have fin : ∀ (j : Jn S τ), Out (j.on kk) (DO X I0 H0 E D) (XS X W I0 H0 Γx) → DO X I0 H0 (eJn F E) { D with nx := sOf X rest D } j := fun j o => ⟨fun Γ' σ' I' H' T' z m => by
      obtain ⟨s, rfl, z⟩ := z
      obtain ⟨T2, m2⟩ := m.sub z
      exact rest_s (hk s) tk m2 o, fun Γ' σ' I' H' T' z m => by
      obtain ⟨t, rfl, z⟩ := z
      exact DO.bk (E := E) o Γ' σ' I' H' T' z m, fun Γ' σ' I' H' T' z m => by
      obtain ⟨t, rfl, z⟩ := z
      exact DO.ct (E := E) o Γ' σ' I' H' T' z m, fun ow v I' H' T' z m r => by
      obtain ⟨t, rfl, z⟩ := z
      exact DO.rt (E := E) o ow v I' H' T' z m r⟩
  refine hb pn xe po _ tk' I0 H0 σ I H T mt _ ?_
  cases mb with
  | stuck => exact o.elim
  | ok j => exact (let g := fin j o; ⟨g.nx, g.bk, g.ct, g.rt⟩ : DO (X.tr pn xe) I0 H0 (eJn F E) _ j)
  | exc ex =>
    intro cl d σ' I' H' T' mt' at'
    have o1 : Out ((isE tb ex xc >>= fun b => if b then nox (mh ex) else M.exc ex) >>= fun j => j.on kk) (DO X I0 H0 E D) (XS X W I0 H0 Γx) := o
    unfold isE at o1
    cases q : tb.lookup ex.nm with
    | none => rw [q] at o1; exact o1.elim
    | some up =>
      rw [q] at o1
      refine ⟨up.contains xc, hE.ex ex.nm up q cl at'.cls, fun hy a ha => ?_, fun hno => ?_⟩
      · have o2 : Out ((if up.contains xc = true then nox (mh ex) else M.exc ex) >>= fun j => j.on kk) (DO X I0 H0 E D) (XS X W I0 H0 Γx) := o1
        rw [if_pos hy] at o2
        have o3 := nox_out o2.bind
        intro oe pn2 hz hfl
        obtain ⟨T2, mt2⟩ := Mt.putI (i := i) (v := .ref a) (d := eD a d ex) mt' (Nat.blt_eq.mp hl) (by
          cases d with
          | none => exact .adr a
          | some dd =>
            by_cases hfs : ex.fs = []
            · have := at'.non hfs; cases this
            · obtain ⟨dd', vs, e, h1, h2⟩ := at'.fld hfs
              cases e
              exact .exn h1 h2)
        refine hsu ex a oe cl d pn2 hz hfl at'.cls at'.non (fun z => by obtain ⟨dd, _, e, _⟩ := at'.fld z; rw [e]; simp) (fun _ _ _ _ => False) takes0N I0 H0 _ I' H' T2 mt2 _ (o3.mono (fun j _ o4 => ?_) fun _ _ z => z.elim)
        have g := fin j o4
        exact ⟨fun Γ' σ4 I4 H4 T4 z m => by
          obtain ⟨T5, m5⟩ := m.putD (i := i)
          exact g.nx _ _ _ _ _ z m5, fun Γ' σ4 I4 H4 T4 z m => by
          obtain ⟨T5, m5⟩ := m.putD (i := i)
          exact g.bk _ _ _ _ _ z m5, fun Γ' σ4 I4 H4 T4 z m => by
          obtain ⟨T5, m5⟩ := m.putD (i := i)
          exact g.ct _ _ _ _ _ z m5, g.rt⟩
      · have o2 : Out ((if up.contains xc = true then nox (mh ex) else M.exc ex) >>= fun j => j.on kk) (DO X I0 H0 E D) (XS X W I0 H0 Γx) := o1
        rw [if_neg (by rw [hno]; simp)] at o2
        obtain ⟨T2, mt2⟩ := mt'.sub hs
        exact o2 cl d σ' I' H' T2 mt2 at'
/-- isinstance(e, C) in the suite -/
structure IOk (K : PySem.W.Frag) (mg : Str → Option Value) (tb : ETab) (n : Str) (cv : Value) : Prop where
  ex : ∀ m up, tb.lookup m = some up → ∃ Dc, mg m = some (.ref Dc) ∧ ExcC K Dc ∧ PySem.W.kitOne K (.ref Dc) cv = some (up.contains n)
theorem ve_isE (i : Nat) (tb : ETab) {xe n : Str} {c : V} {cv : Value} {a : Addr} {oe : Obj} {cls : Value} {pn : List (Addr × Obj)} {ex : Exn} {px : Pos} {b : Expr} (hz : L2N.Zn cls none oe) (hfl : ∃ vs, oe.data = .fields vs) (hm : X.mg ex.nm = some cls) (hI : IOk X.K X.mg tb n cv) (hcv : ∀ u, RelV c u → u = cv) (hb : PE (X.suite a ((a, oe) :: pn)) b (tC c))
    (hΓ : Γ[i]? = some (.val (.imm (.adr a)))) (hN : X.N[i]? = some xe := by rfl) (hv : Vis X.env.scope xe := by first | exact Or.inl rfl | exact Or.inr (Or.inl rfl) | exact Or.inr (Or.inr rfl)) (hmi : X.mg "isinstance" = none) (hg : Gl X "isinstance" := by rfl)
    (hd : (xe == ("__debug__" : Str)) = false := by decide) (hcd : (xe == ("__classdict__" : Str)) = false := by decide) (hst : starEach [.Name xe px, b] X.env = (false, eval (.Name xe px) X.env) :: starEach [b] X.env := by rfl) (hst2 : starEach [b] X.env = (false, eval b X.env) :: starEach [] X.env := by rfl) (hpl : (backTo pos (starEach [b] X.env)).any (·.1) = false := by rfl) :
    VX w (X.suite a ((a, oe) :: pn)) Γ (.Call (.Name "isinstance" p) [.Name xe px, b] [] pos) (isE tb ex n) := fun W tk σ I H T mw Q o => by
  unfold isE at o
  cases q : tb.lookup ex.nm with
  | none => rw [q] at o; exact o.elim
  | some up =>
    rw [q] at o
    obtain ⟨Dc, h1, h2, h3⟩ := hI.ex _ _ q
    rw [hm] at h1
    cases h1
    obtain ⟨v, hv1, r⟩ := mw.sl.imm hΓ
    cases r
    refine to_t (pe_callB (call_isE h2 hz.zc hfl) hg hmi (by decide +kernel) (pa_cons (pe_var hN hv hd hcd) (pa_cons hb pa_nil hst2) hst) (by decide) (by decide) hst hpl) ⟨.ref a, hv1, c, cv, up.contains n, rfl, hcv, h3, ?_⟩
    exact o _ I H (.refl mw.ih) (.bl _)
end
end Vc

set_option Elab.async false
set_option linter.all false
set_option maxRecDepth 100000
namespace Vc
open PySem PySem.Spec PyProof.Rows L2
open Enc (enc)

theorem VO.congr {X : Cx} {Γ : List SL} {e : Expr} {α : Type} {o : α → O} {m m' : M α} (h : VO X Γ e o m) (q : m = m') : VO X Γ e o m' := q ▸ h
theorem VT.congr {X : Cx} {Γ : List SL} {e : Expr} {m m' : M Bool} (h : VT X Γ e m) (q : m = m') : VT X Γ e m' := q ▸ h
theorem VA.congr {w : Bool} {X : Cx} {Γ : List SL} {e : List Expr} {A : Type} {o : A → List D} {m m' : M A} (h : VA w X Γ e o m) (q : m = m') : VA w X Γ e o m' := q ▸ h
theorem VI.congr {X : Cx} {Γ : List SL} {tg e : Expr} {α : Type} [Enc α] {m m' : M (List α)} (h : VI X Γ tg e m) (q : m = m') : VI X Γ tg e m' := q ▸ h
theorem VS.congr {X : Cx} {Γ Γx : List SL} {sts : List Stmt} {τ : Type} {E : Eds τ} {m m' : M τ} (h : VS X Γ Γx sts E m) (q : m = m') : VS X Γ Γx sts E m' := q ▸ h

/-! ### == of data -/
class Eqv (α : Type) [Enc α] [DecidableEq α] where
  py : α → PyData
  dp : ∀ (K : PySem.W.Frag) (mg : Str → Option Value) (H : Hp) (v : V) (a : α), R K mg H v (enc a) → Dp K H v (py a)
  lay : α → Bool
  lyq : ∀ a : α, (py a).canLay0 = lay a
  dep : Nat
  dle : ∀ a : α, (py a).depth ≤ dep
  eqv : ∀ a b : α, PyData.eqv (py a) (py b) = decide (a = b)
/-- no text within -/
class LayT (α : Type) [Enc α] [DecidableEq α] [Eqv α] : Prop where
  lt : ∀ a : α, Eqv.lay a = true
/-- the kind of data -/
def kd : PyData → Nat
  | .none => 0
  | .bool _ => 1
  | .int _ => 1
  | .str _ => 2
  | .list _ => 3
  | .tuple _ => 4
  | .dict _ => 5
class Knd (α : Type) [Enc α] [DecidableEq α] [Eqv α] where
  k : Nat
  ok : ∀ a : α, kd (Eqv.py a) = k
theorem eqv_kd : ∀ (a b : PyData), kd a ≠ kd b → PyData.eqv a b = false := by
  intro a b h
  cases a <;> cases b <;> first | rfl | exact absurd rfl h
instance : Eqv Int := ⟨PyData.int, fun K mg H v a r => by cases r; exact .int a, fun _ => true, fun _ => rfl, 0, fun _ => Nat.le_refl _, fun a b => by
  show (a == b) = decide (a = b)
  by_cases h : a = b <;> simp [h]⟩
instance : Eqv Bool := ⟨PyData.bool, fun K mg H v a r => by cases r; exact .bl a, fun _ => true, fun _ => rfl, 0, fun _ => Nat.le_refl _, fun a b => by cases a <;> cases b <;> rfl⟩
instance : Eqv Str := ⟨PyData.str, fun K mg H v a r => by cases r; exact .str a, PyData.strOk, fun _ => rfl, 0, fun _ => Nat.le_refl _, fun a b => by
  show (a == b) = decide (a = b)
  by_cases h : a = b <;> simp [h]⟩
instance : Eqv Unit := ⟨fun _ => .none, fun K mg H v a r => by cases r; exact .non, fun _ => true, fun _ => rfl, 0, fun _ => Nat.le_refl _, fun a b => by cases a; cases b; rfl⟩
instance : LayT Int := ⟨fun _ => rfl⟩
instance : LayT Bool := ⟨fun _ => rfl⟩
instance : LayT Unit := ⟨fun _ => rfl⟩
instance : Knd Int := ⟨1, fun _ => rfl⟩
instance : Knd Bool := ⟨1, fun _ => rfl⟩
instance : Knd Str := ⟨2, fun _ => rfl⟩
instance : Knd Unit := ⟨0, fun _ => rfl⟩
theorem dpAll {α : Type} [Enc α] [DecidableEq α] [Eqv α] {K : PySem.W.Frag} {mg : Str → Option Value} {H : Hp} : ∀ {xs : List V} {l : List α}, Rs K mg H xs (l.map enc) → DpAll K H xs (l.map Eqv.py)
  | _, [], .nil => .nil
  | _, a :: l, .cons h r => .cons (Eqv.dp K mg H _ a h) (dpAll r)
theorem layAll {α : Type} [Enc α] [DecidableEq α] [Eqv α] : ∀ l : List α, PyData.canLayAll0 (l.map Eqv.py) = l.all Eqv.lay
  | [] => rfl
  | a :: l => by
    show (PyData.canLay0 (Eqv.py a) && PyData.canLayAll0 (l.map Eqv.py)) = (Eqv.lay a && l.all Eqv.lay)
    rw [Eqv.lyq a, layAll l]
theorem depAll {α : Type} [Enc α] [DecidableEq α] [E : Eqv α] : ∀ l : List α, PyData.depthAll (l.map Eqv.py) ≤ E.dep
  | [] => Nat.zero_le _
  | a :: l => by
    show max (PyData.depth (Eqv.py a)) (PyData.depthAll (l.map Eqv.py)) ≤ _
    exact Nat.max_le.mpr ⟨Eqv.dle a, depAll l⟩
theorem eqvAll {α : Type} [Enc α] [DecidableEq α] [Eqv α] : ∀ l r : List α, PyData.eqvAll (l.map Eqv.py) (r.map Eqv.py) = decide (l = r)
  | [], [] => rfl
  | [], _ :: _ => rfl
  | _ :: _, [] => rfl
  | a :: l, b :: r => by
    show (PyData.eqv (Eqv.py a) (Eqv.py b) && PyData.eqvAll (l.map Eqv.py) (r.map Eqv.py)) = _
    rw [Eqv.eqv a b, eqvAll l r]
    by_cases h : a = b <;> by_cases h2 : l = r <;> simp [h, h2]
section
variable {α β γ δ ε : Type} [Enc α] [DecidableEq α] [Enc β] [DecidableEq β] [Enc γ] [DecidableEq γ] [Enc δ] [DecidableEq δ] [Enc ε] [DecidableEq ε]
instance [E : Eqv α] : Eqv (List α) := ⟨fun l => .list (l.map Eqv.py), fun K mg H v a r => by
    obtain ⟨p, xs, rfl, h, q⟩ := R.lst_inv r
    exact .lst h (dpAll q), fun l => l.all Eqv.lay, fun l => layAll l, E.dep + 1, fun l => Nat.succ_le_succ (depAll l), fun a b => eqvAll a b⟩
instance [Eqv α] : Knd (List α) := ⟨3, fun _ => rfl⟩
instance [Eqv α] [LayT α] : LayT (List α) := ⟨fun l => List.all_eq_true.mpr fun x _ => LayT.lt x⟩
instance : DecidableEq (Tup α) := fun a b => decidable_of_iff (a.l = b.l) ⟨fun h => by cases a; cases b; cases h; rfl, fun h => by rw [h]⟩
instance [E : Eqv α] : Eqv (Tup α) := ⟨fun l => .tuple (l.l.map Eqv.py), fun K mg H v a r => by
    obtain ⟨p, xs, rfl, h, q⟩ := R.tup_inv r
    exact .tup h (dpAll q), fun l => l.l.all Eqv.lay, fun l => layAll l.l, E.dep + 1, fun l => Nat.succ_le_succ (depAll l.l), fun a b => by
    show PyData.eqvAll _ _ = _
    rw [eqvAll]
    cases a; cases b
    simp⟩
instance [Eqv α] : Knd (Tup α) := ⟨4, fun _ => rfl⟩
instance [Eqv α] [LayT α] : LayT (Tup α) := ⟨fun l => List.all_eq_true.mpr fun x _ => LayT.lt x⟩
instance [E : Eqv α] [F : Eqv β] : Eqv (α × β) := ⟨fun p => .tuple [Eqv.py p.1, Eqv.py p.2], fun K mg H v a r => by
    obtain ⟨p, xs, rfl, h, q⟩ := R.tup_inv r
    cases q with
    | cons h1 q => cases q with
      | cons h2 q =>
        cases q
        exact .tup h (.cons (Eqv.dp K mg H _ _ h1) (.cons (Eqv.dp K mg H _ _ h2) .nil)), fun p => Eqv.lay p.1 && Eqv.lay p.2, fun p => by
    show (PyData.canLay0 (Eqv.py p.1) && (PyData.canLay0 (Eqv.py p.2) && true)) = _
    rw [Eqv.lyq p.1, Eqv.lyq p.2, Bool.and_true], max E.dep F.dep + 1, fun p => by
    show max (PyData.depth (Eqv.py p.1)) (max (PyData.depth (Eqv.py p.2)) 0) + 1 ≤ _
    have h1 := Eqv.dle p.1
    have h2 := Eqv.dle p.2
    omega, fun a b => by
    show (PyData.eqv (Eqv.py a.1) (Eqv.py b.1) && (PyData.eqv (Eqv.py a.2) (Eqv.py b.2) && true)) = _
    rw [Eqv.eqv, Eqv.eqv]
    obtain ⟨a1, a2⟩ := a
    obtain ⟨b1, b2⟩ := b
    by_cases h : a1 = b1 <;> by_cases h2 : a2 = b2 <;> simp [h, h2]⟩
instance [Eqv α] [Eqv β] : Knd (α × β) := ⟨4, fun _ => rfl⟩
instance [Eqv α] [Eqv β] [LayT α] [LayT β] : LayT (α × β) := ⟨fun p => by show (Eqv.lay p.1 && Eqv.lay p.2) = true; rw [LayT.lt, LayT.lt]; rfl⟩
instance [E : Eqv α] [F : Eqv β] [G : Eqv γ] : Eqv (T3 α β γ) := ⟨fun p => .tuple [Eqv.py p.a, Eqv.py p.b, Eqv.py p.c], fun K mg H v a r => by
    obtain ⟨p, xs, rfl, h, q⟩ := R.tup_inv r
    cases q with
    | cons h1 q => cases q with
      | cons h2 q => cases q with
        | cons h3 q =>
          cases q
          exact .tup h (.cons (Eqv.dp K mg H _ _ h1) (.cons (Eqv.dp K mg H _ _ h2) (.cons (Eqv.dp K mg H _ _ h3) .nil))), fun p => Eqv.lay p.a && (Eqv.lay p.b && Eqv.lay p.c), fun p => by
    show (PyData.canLay0 (Eqv.py p.a) && (PyData.canLay0 (Eqv.py p.b) && (PyData.canLay0 (Eqv.py p.c) && true))) = _
    rw [Eqv.lyq p.a, Eqv.lyq p.b, Eqv.lyq p.c, Bool.and_true], max E.dep (max F.dep G.dep) + 1, fun p => by
    show max (PyData.depth (Eqv.py p.a)) (max (PyData.depth (Eqv.py p.b)) (max (PyData.depth (Eqv.py p.c)) 0)) + 1 ≤ _
    have h1 := Eqv.dle p.a
    have h2 := Eqv.dle p.b
    have h3 := Eqv.dle p.c
    omega, fun a b => by
    show (PyData.eqv (Eqv.py a.a) (Eqv.py b.a) && (PyData.eqv (Eqv.py a.b) (Eqv.py b.b) && (PyData.eqv (Eqv.py a.c) (Eqv.py b.c) && true))) = _
    rw [Eqv.eqv, Eqv.eqv, Eqv.eqv]
    obtain ⟨a1, a2, a3⟩ := a
    obtain ⟨b1, b2, b3⟩ := b
    by_cases h : a1 = b1 <;> by_cases h2 : a2 = b2 <;> by_cases h3 : a3 = b3 <;> simp [h, h2, h3]⟩
instance [Eqv α] [Eqv β] [Eqv γ] : Knd (T3 α β γ) := ⟨4, fun _ => rfl⟩
instance [Eqv α] [Eqv β] [Eqv γ] [LayT α] [LayT β] [LayT γ] : LayT (T3 α β γ) := ⟨fun p => by show (Eqv.lay p.a && (Eqv.lay p.b && Eqv.lay p.c)) = true; rw [LayT.lt, LayT.lt, LayT.lt]; rfl⟩
instance [E : Eqv α] [F : Eqv β] [G : Eqv γ] [I : Eqv δ] [J : Eqv ε] : Eqv (T5 α β γ δ ε) := ⟨fun p => .tuple [Eqv.py p.a, Eqv.py p.b, Eqv.py p.c, Eqv.py p.d, Eqv.py p.e], fun K mg H v a r => by
    obtain ⟨p, xs, rfl, h, q⟩ := R.tup_inv r
    cases q with
    | cons h1 q => cases q with
      | cons h2 q => cases q with
        | cons h3 q => cases q with
          | cons h4 q => cases q with
            | cons h5 q =>
              cases q
              exact .tup h (.cons (Eqv.dp K mg H _ _ h1) (.cons (Eqv.dp K mg H _ _ h2) (.cons (Eqv.dp K mg H _ _ h3) (.cons (Eqv.dp K mg H _ _ h4) (.cons (Eqv.dp K mg H _ _ h5) .nil))))), fun p => Eqv.lay p.a && (Eqv.lay p.b && (Eqv.lay p.c && (Eqv.lay p.d && Eqv.lay p.e))), fun p => by
    show (PyData.canLay0 (Eqv.py p.a) && (PyData.canLay0 (Eqv.py p.b) && (PyData.canLay0 (Eqv.py p.c) && (PyData.canLay0 (Eqv.py p.d) && (PyData.canLay0 (Eqv.py p.e) && true))))) = _
    rw [Eqv.lyq p.a, Eqv.lyq p.b, Eqv.lyq p.c, Eqv.lyq p.d, Eqv.lyq p.e, Bool.and_true], max E.dep (max F.dep (max G.dep (max I.dep J.dep))) + 1, fun p => by
    show max (PyData.depth (Eqv.py p.a)) (max (PyData.depth (Eqv.py p.b)) (max (PyData.depth (Eqv.py p.c)) (max (PyData.depth (Eqv.py p.d)) (max (PyData.depth (Eqv.py p.e)) 0)))) + 1 ≤ _
    have h1 := Eqv.dle p.a
    have h2 := Eqv.dle p.b
    have h3 := Eqv.dle p.c
    have h4 := Eqv.dle p.d
    have h5 := Eqv.dle p.e
    omega, fun a b => by
    show (PyData.eqv (Eqv.py a.a) (Eqv.py b.a) && (PyData.eqv (Eqv.py a.b) (Eqv.py b.b) && (PyData.eqv (Eqv.py a.c) (Eqv.py b.c) && (PyData.eqv (Eqv.py a.d) (Eqv.py b.d) && (PyData.eqv (Eqv.py a.e) (Eqv.py b.e) && true))))) = _
    rw [Eqv.eqv, Eqv.eqv, Eqv.eqv, Eqv.eqv, Eqv.eqv]
    obtain ⟨a1, a2, a3, a4, a5⟩ := a
    obtain ⟨b1, b2, b3, b4, b5⟩ := b
    by_cases h : a1 = b1 <;> by_cases h2 : a2 = b2 <;> by_cases h3 : a3 = b3 <;> by_cases h4 : a4 = b4 <;> by_cases h5 : a5 = b5 <;> simp [h, h2, h3, h4, h5]⟩
instance [Eqv α] [Eqv β] [Eqv γ] [Eqv δ] [Eqv ε] : Knd (T5 α β γ δ ε) := ⟨4, fun _ => rfl⟩
instance [Eqv α] [Eqv β] [Eqv γ] [Eqv δ] [Eqv ε] [LayT α] [LayT β] [LayT γ] [LayT δ] [LayT ε] : LayT (T5 α β γ δ ε) := ⟨fun p => by show (Eqv.lay p.a && (Eqv.lay p.b && (Eqv.lay p.c && (Eqv.lay p.d && Eqv.lay p.e)))) = true; rw [LayT.lt, LayT.lt, LayT.lt, LayT.lt, LayT.lt]; rfl⟩
/-- one of two kinds -/
@[reducible] def eqvSum (α β : Type) [Enc α] [DecidableEq α] [Enc β] [DecidableEq β] [E : Eqv α] [F : Eqv β] [A : Knd α] [B : Knd β] (h : A.k ≠ B.k) : Eqv (α ⊕ β) := ⟨fun o => match o with | .inl a => E.py a | .inr b => F.py b, fun K mg H v a r => by
    cases a with
    | inl a => exact E.dp K mg H v a r
    | inr a => exact F.dp K mg H v a r, fun o => match o with | .inl a => E.lay a | .inr b => F.lay b, fun o => by
    cases o with
    | inl a => exact E.lyq a
    | inr a => exact F.lyq a, max E.dep F.dep, fun o => by
    cases o with
    | inl a => exact Nat.le_trans (E.dle a) (Nat.le_max_left _ _)
    | inr a => exact Nat.le_trans (F.dle a) (Nat.le_max_right _ _), fun a b => by
    cases a with
    | inl a =>
      cases b with
      | inl b => show PyData.eqv (E.py a) (E.py b) = _; rw [E.eqv]; simp
      | inr b => show PyData.eqv (E.py a) (F.py b) = _; rw [eqv_kd _ _ (by rw [A.ok, B.ok]; exact h)]; simp
    | inr a =>
      cases b with
      | inl b => show PyData.eqv (F.py a) (E.py b) = _; rw [eqv_kd _ _ (by rw [A.ok, B.ok]; exact h.symm)]; simp
      | inr b => show PyData.eqv (F.py a) (F.py b) = _; rw [F.eqv]; simp⟩
@[reducible] def eqvOpt (α : Type) [Enc α] [DecidableEq α] [E : Eqv α] [A : Knd α] (h : A.k ≠ 0) : Eqv (Option α) := ⟨fun o => match o with | none => .none | some a => E.py a, fun K mg H v a r => by
    cases a with
    | none => cases r; exact .non
    | some a => exact E.dp K mg H v a r, fun o => match o with | none => true | some a => E.lay a, fun o => by
    cases o with
    | none => rfl
    | some a => exact E.lyq a, E.dep, fun o => by
    cases o with
    | none => exact Nat.zero_le _
    | some a => exact E.dle a, fun a b => by
    cases a with
    | none =>
      cases b with
      | none => rfl
      | some b => show PyData.eqv .none (E.py b) = _; rw [eqv_kd _ _ (by rw [A.ok]; exact h.symm)]; simp
    | some a =>
      cases b with
      | none => show PyData.eqv (E.py a) .none = _; rw [eqv_kd _ _ (by rw [A.ok]; exact h)]; simp
      | some b => show PyData.eqv (E.py a) (E.py b) = _; rw [E.eqv]; simp⟩
end
section
variable {X : Cx} {Γ Γx : List SL} {e a b c : Expr} {es : List Expr} {rest : List Stmt} {pos p : Pos} {α β γ : Type} [Enc α] [Enc β] [Enc γ] {w w' : Bool} {τ : Type} {E : Eds τ}
theorem eq_read [DecidableEq α] [V : Eqv α] (hd : V.dep ≤ 64) {K : PySem.W.Frag} {mg : Str → Option Value} {x y : α} {H : Hp} {v u : L2.V} (hx : V.lay x = true) (hy : V.lay y = true) (r1 : R K mg H v (enc x)) (r2 : R K mg H u (enc y)) : Dp K H v (V.py x) ∧ Dp K H u (V.py y) ∧ SeqAt.shaped (V.py x) = true ∧ SeqAt.shaped (V.py y) = true :=
  ⟨V.dp K mg H v x r1, V.dp K mg H u y r2, by unfold SeqAt.shaped; rw [V.lyq x, hx, decide_eq_true (Nat.le_trans (V.dle x) hd)]; rfl, by unfold SeqAt.shaped; rw [V.lyq y, hy, decide_eq_true (Nat.le_trans (V.dle y) hd)]; rfl⟩
theorem ve_eqD [DecidableEq α] [V : Eqv α] [LayT α] {m1 m2 : M α} (hu : X.A.units + 64 < cLine) (ha : VX true X Γ a m1) (hb : VX true X Γ b m2) (hd : V.dep ≤ 64 := by decide) : VX w X Γ (.Compare a [.Eq] [b] pos) (m1 >>= fun x => m2 >>= fun y => M.ok (decide (x = y))) := ve_cmp (op_eqD hu) ha hb (nomark _) (fun x y H v u r1 r2 Q o => by
    obtain ⟨h1, h2, h3, h4⟩ := eq_read hd (LayT.lt x) (LayT.lt y) r1 r2
    exact ⟨_, _, h1, h2, h3, h4, by rw [V.eqv]; exact o⟩) fun _ _ _ z => nomatch z
theorem ve_eqDc [DecidableEq α] [V : Eqv α] {m1 m2 : M α} (hu : X.A.units + 64 < cLine) (ha : VX true X Γ a m1) (hb : VX true X Γ b m2) (hd : V.dep ≤ 64 := by decide) : VX w X Γ (.Compare a [.Eq] [b] pos) (m1 >>= fun x => m2 >>= fun y => chk (V.lay x = true ∧ V.lay y = true) >>= fun _ => M.ok (decide (x = y))) := ve_cmp (op_eqD hu) ha hb (nomark _) (fun x y H v u r1 r2 Q o => by
    obtain ⟨⟨hx, hy⟩, o⟩ := o.chk
    obtain ⟨h1, h2, h3, h4⟩ := eq_read hd hx hy r1 r2
    exact ⟨_, _, h1, h2, h3, h4, by rw [V.eqv]; exact o⟩) fun _ _ _ z => by unfold chk at z; split at z <;> cases z
theorem vt_eqD [DecidableEq α] [V : Eqv α] [LayT α] {m1 m2 : M α} (hu : X.A.units + 64 < cLine) (ha : VX true X Γ a m1) (hb : VX true X Γ b m2) (hd : V.dep ≤ 64 := by decide) : VT X Γ (.Compare a [.Eq] [b] pos) (m1 >>= fun x => m2 >>= fun y => M.ok (decide (x = y))) := vt_cmp (op_eqD hu) ha hb (nomark _) (fun x y H v u r1 r2 Q o => by
    obtain ⟨h1, h2, h3, h4⟩ := eq_read hd (LayT.lt x) (LayT.lt y) r1 r2
    exact ⟨_, _, h1, h2, h3, h4, by rw [V.eqv]; exact o⟩) fun _ _ _ z => nomatch z
theorem vt_eqDc [DecidableEq α] [V : Eqv α] {m1 m2 : M α} (hu : X.A.units + 64 < cLine) (ha : VX true X Γ a m1) (hb : VX true X Γ b m2) (hd : V.dep ≤ 64 := by decide) : VT X Γ (.Compare a [.Eq] [b] pos) (m1 >>= fun x => m2 >>= fun y => chk (V.lay x = true ∧ V.lay y = true) >>= fun _ => M.ok (decide (x = y))) := vt_cmp (op_eqD hu) ha hb (nomark _) (fun x y H v u r1 r2 Q o => by
    obtain ⟨⟨hx, hy⟩, o⟩ := o.chk
    obtain ⟨h1, h2, h3, h4⟩ := eq_read hd hx hy r1 r2
    exact ⟨_, _, h1, h2, h3, h4, by rw [V.eqv]; exact o⟩) fun _ _ _ z => by unfold chk at z; split at z <;> cases z
theorem ve_neD [DecidableEq α] [V : Eqv α] [LayT α] {m1 m2 : M α} (hu : X.A.units + 64 < cLine) (ha : VX true X Γ a m1) (hb : VX true X Γ b m2) (hd : V.dep ≤ 64 := by decide) : VX w X Γ (.Compare a [.NotEq] [b] pos) (m1 >>= fun x => m2 >>= fun y => M.ok (!decide (x = y))) := ve_cmp (op_neD hu) ha hb (nomark _) (fun x y H v u r1 r2 Q o => by
    obtain ⟨h1, h2, h3, h4⟩ := eq_read hd (LayT.lt x) (LayT.lt y) r1 r2
    exact ⟨_, _, h1, h2, h3, h4, by rw [V.eqv]; exact o⟩) fun _ _ _ z => nomatch z
theorem ve_neDc [DecidableEq α] [V : Eqv α] {m1 m2 : M α} (hu : X.A.units + 64 < cLine) (ha : VX true X Γ a m1) (hb : VX true X Γ b m2) (hd : V.dep ≤ 64 := by decide) : VX w X Γ (.Compare a [.NotEq] [b] pos) (m1 >>= fun x => m2 >>= fun y => chk (V.lay x = true ∧ V.lay y = true) >>= fun _ => M.ok (!decide (x = y))) := ve_cmp (op_neD hu) ha hb (nomark _) (fun x y H v u r1 r2 Q o => by
    obtain ⟨⟨hx, hy⟩, o⟩ := o.chk
    obtain ⟨h1, h2, h3, h4⟩ := eq_read hd hx hy r1 r2
    exact ⟨_, _, h1, h2, h3, h4, by rw [V.eqv]; exact o⟩) fun _ _ _ z => by unfold chk at z; split at z <;> cases z
theorem vt_neD [DecidableEq α] [V : Eqv α] [LayT α] {m1 m2 : M α} (hu : X.A.units + 64 < cLine) (ha : VX true X Γ a m1) (hb : VX true X Γ b m2) (hd : V.dep ≤ 64 := by decide) : VT X Γ (.Compare a [.NotEq] [b] pos) (m1 >>= fun x => m2 >>= fun y => M.ok (!decide (x = y))) := vt_cmp (op_neD hu) ha hb (nomark _) (fun x y H v u r1 r2 Q o => by
    obtain ⟨h1, h2, h3, h4⟩ := eq_read hd (LayT.lt x) (LayT.lt y) r1 r2
    exact ⟨_, _, h1, h2, h3, h4, by rw [V.eqv]; exact o⟩) fun _ _ _ z => nomatch z
theorem vt_neDc [DecidableEq α] [V : Eqv α] {m1 m2 : M α} (hu : X.A.units + 64 < cLine) (ha : VX true X Γ a m1) (hb : VX true X Γ b m2) (hd : V.dep ≤ 64 := by decide) : VT X Γ (.Compare a [.NotEq] [b] pos) (m1 >>= fun x => m2 >>= fun y => chk (V.lay x = true ∧ V.lay y = true) >>= fun _ => M.ok (!decide (x = y))) := vt_cmp (op_neD hu) ha hb (nomark _) (fun x y H v u r1 r2 Q o => by
    obtain ⟨⟨hx, hy⟩, o⟩ := o.chk
    obtain ⟨h1, h2, h3, h4⟩ := eq_read hd hx hy r1 r2
    exact ⟨_, _, h1, h2, h3, h4, by rw [V.eqv]; exact o⟩) fun _ _ _ z => by unfold chk at z; split at z <;> cases z
/-! ### divisors that are written -/
theorem ve_modK {m : M Int} {k : Int} (ha : VX true X Γ a m) (hb : VX true X Γ b (M.ok k)) (hk : 0 < k := by decide) : VX w X Γ (.BinOp a .Mod b pos) (m >>= fun x => M.ok (x % k)) := by
  have h := ve_binC (w := w) (pos := pos) (C := fun _ j => 0 < j) (g := fun i j => i % j) op_mod ha hb
  refine h.congr ?_
  congr 1
  funext x
  show (chk (0 < k) >>= fun _ => M.ok (x % k)) = _
  rw [chk_ok hk]; rfl
instance (i j : Int) : Decidable (CDiv i j) := by unfold CDiv; infer_instance
instance (i j : Int) : Decidable (CMul i j) := by unfold CMul; infer_instance
instance (i j : Int) : Decidable (CPow i j) := by unfold CPow; infer_instance
theorem ve_divK {m : M Int} {k : Int} (ha : VX true X Γ a m) (hb : VX true X Γ b (M.ok k)) (hk : CDiv 0 k := by decide) : VX w X Γ (.BinOp a .FloorDiv b pos) (m >>= fun x => M.ok (x / k)) := by
  have h := ve_binC (w := w) (pos := pos) (C := CDiv) (g := fun i j => i / j) op_fdiv ha hb
  refine h.congr ?_
  congr 1
  funext x
  show (chk (CDiv x k) >>= fun _ => M.ok (x / k)) = _
  rw [chk_ok (show CDiv x k from hk)]; rfl
theorem ve_mulR {m : M Int} {k : Int} (ha : VX true X Γ a m) (hb : VX true X Γ b (M.ok k)) (hk : -(2 ^ 64) < k ∧ k < 2 ^ 64 := by decide) : VX w X Γ (.BinOp a .Mult b pos) (m >>= fun x => M.ok (x * k)) := by
  have h := ve_binC (w := w) (pos := pos) (C := CMul) (g := fun i j => i * j) op_mul ha hb
  refine h.congr ?_
  congr 1
  funext x
  show (chk (CMul x k) >>= fun _ => M.ok (x * k)) = _
  rw [chk_ok (show CMul x k from .inr hk)]; rfl
theorem ve_mulL {m : M Int} {k : Int} (ha : VX true X Γ a (M.ok k)) (hb : VX true X Γ b m) (hk : -(2 ^ 64) < k ∧ k < 2 ^ 64 := by decide) : VX w X Γ (.BinOp a .Mult b pos) (m >>= fun x => M.ok (k * x)) := by
  have h := ve_binC (w := w) (pos := pos) (C := CMul) (g := fun i j => i * j) op_mul ha hb
  refine h.congr ?_
  show (m >>= fun x => chk (CMul k x) >>= fun _ => M.ok (k * x)) = _
  congr 1
  funext x
  rw [chk_ok (show CMul k x from .inl hk)]; rfl
theorem ve_shrK {m : M Int} {k : Int} (ha : VX true X Γ a m) (hb : VX true X Γ b (M.ok k)) (hk : 0 ≤ k := by decide) : VX w X Γ (.BinOp a .RShift b pos) (m >>= fun x => M.ok (x / 2 ^ k.toNat)) := by
  have h := ve_binC (w := w) (pos := pos) (C := fun _ j => 0 ≤ j) (g := fun i j => i / 2 ^ j.toNat) op_shr ha hb
  refine h.congr ?_
  congr 1
  funext x
  show (chk (0 ≤ k) >>= fun _ => M.ok (x / 2 ^ k.toNat)) = _
  rw [chk_ok hk]; rfl
theorem ve_mul {m1 m2 : M Int} (ha : VX true X Γ a m1) (hb : VX true X Γ b m2) : VX w X Γ (.BinOp a .Mult b pos) (m1 >>= fun x => m2 >>= fun y => chk (CMul x y) >>= fun _ => M.ok (x * y)) := ve_binC op_mul ha hb
theorem ve_mod {m1 m2 : M Int} (ha : VX true X Γ a m1) (hb : VX true X Γ b m2) : VX w X Γ (.BinOp a .Mod b pos) (m1 >>= fun x => m2 >>= fun y => chk (0 < y) >>= fun _ => M.ok (x % y)) := ve_binC (C := fun _ y => 0 < y) op_mod ha hb
theorem ve_div {m1 m2 : M Int} (ha : VX true X Γ a m1) (hb : VX true X Γ b m2) : VX w X Γ (.BinOp a .FloorDiv b pos) (m1 >>= fun x => m2 >>= fun y => chk (CDiv x y) >>= fun _ => M.ok (x / y)) := ve_binC op_fdiv ha hb
theorem ve_shl {m1 m2 : M Int} (ha : VX true X Γ a m1) (hb : VX true X Γ b m2) : VX w X Γ (.BinOp a .LShift b pos) (m1 >>= fun x => m2 >>= fun y => chk (CPow x y) >>= fun _ => M.ok (x * 2 ^ y.toNat)) := ve_binC op_shl ha hb
theorem ve_shr {m1 m2 : M Int} (ha : VX true X Γ a m1) (hb : VX true X Γ b m2) : VX w X Γ (.BinOp a .RShift b pos) (m1 >>= fun x => m2 >>= fun y => chk (0 ≤ y) >>= fun _ => M.ok (x / 2 ^ y.toNat)) := ve_binC (C := fun _ y => 0 ≤ y) op_shr ha hb
theorem ve_pow {m1 m2 : M Int} (ha : VX true X Γ a m1) (hb : VX true X Γ b m2) : VX w X Γ (.BinOp a .Pow b pos) (m1 >>= fun x => m2 >>= fun y => chk (CPow x y) >>= fun _ => M.ok (x ^ y.toNat)) := ve_binC op_pow ha hb
/-! plain tests -/
theorem vw_and_p {x y : Bool} (h : VT X Γ a (.ok x)) {rs : List Expr} (h2 : VW X Γ (.BoolOp .And (b :: rs) pos) (.ok y)) : VW X Γ (.BoolOp .And (a :: b :: rs) pos) (.ok (x && y)) := by
  have q := vw_and h h2
  rw [bAnd_ok] at q
  exact q
theorem vw_or_p {x y : Bool} (h : VT X Γ a (.ok x)) {rs : List Expr} (h2 : VW X Γ (.BoolOp .Or (b :: rs) pos) (.ok y)) : VW X Γ (.BoolOp .Or (a :: b :: rs) pos) (.ok (x || y)) := by
  have q := vw_or h h2
  rw [bOr_ok] at q
  exact q
theorem ve_and_p {x y : Bool} (h : VX true X Γ a (.ok x)) {rs : List Expr} (h2 : VX true X Γ (.BoolOp .And (b :: rs) pos) (.ok y)) : VX w X Γ (.BoolOp .And (a :: b :: rs) pos) (.ok (x && y)) := by
  have q := ve_and (w := w) h h2
  rw [bAnd_ok] at q
  exact q
theorem ve_or_p {x y : Bool} (h : VX true X Γ a (.ok x)) {rs : List Expr} (h2 : VX true X Γ (.BoolOp .Or (b :: rs) pos) (.ok y)) : VX w X Γ (.BoolOp .Or (a :: b :: rs) pos) (.ok (x || y)) := by
  have q := ve_or (w := w) h h2
  rw [bOr_ok] at q
  exact q
theorem ve_ite_p {x : Bool} {y z : α} (h : VT X Γ c (.ok x)) (h1 : VX w X Γ a (.ok y)) (h2 : VX w X Γ b (.ok z)) : VX w X Γ (.IfExp c a b pos) (.ok (if x then y else z)) := by
  have q := ve_ite h h1 h2 (pos := pos)
  cases x
  · exact q
  · exact q
/-- a < b < c -/
theorem ve_chain {op op' : CmpOp} {p1 p2 : Int → Int → Bool} {m1 m2 m3 : M Int} (ho : OpR X (compareOp op) (rI0 fun i j => .bl (p1 i j))) (ho' : OpR X (compareOp op') (rI0 fun i j => .bl (p2 i j))) (ha : VX true X Γ a m1) (hb : VX true X Γ b m2) (hc : VX true X Γ c m3)
    (h1 : lastMarks [op, op'] [b, c] = false) : VX w X Γ (.Compare a [op, op'] [b, c] pos) (m1 >>= fun x => m2 >>= fun y => bAnd (M.ok (p1 x y)) (m3 >>= fun z => M.ok (p2 y z))) := fun W tk σ I H T mw Q o => by
  refine to_t (pe_chain ho ho' pe_of pe_of pe_of h1) ?_
  refine ha.ap tk mw o.bind (fun x _ o1 v I1 H1 g1 r1 => ?_) fun _ z => z
  refine hb.ap tk (mw.gr g1) o1.bind (fun y _ o2 u I2 H2 g2 r2 => ?_) fun _ z => z.gr g1
  cases r1; cases r2
  refine ⟨x, y, rfl, rfl, p1 x y, rfl, ?_⟩
  cases q : p1 x y with
  | true =>
    rw [q] at o2
    refine iteT ?_
    refine hc.ap tk ((mw.gr g1).gr g2) (show Out (m3 >>= fun z => M.ok (p2 y z)) _ _ from o2).bind (fun z _ o3 t I3 H3 g3 r3 => ?_) fun _ z => (z.gr g1).gr g2
    cases r3
    exact ⟨y, z, rfl, rfl, o3 _ I3 H3 ((g1.trans g2).trans g3) (.bl _)⟩
  | false =>
    rw [q] at o2
    exact iteF (o2 _ I2 H2 (g1.trans g2) (.bl _))

/-! ### None -/
class NN (α : Type) [Enc α] : Prop where
  nn : ∀ (K : PySem.W.Frag) (mg : Str → Option Value) (H : Hp) (v : V) (a : α), R K mg H v (enc a) → v ≠ .non
instance : NN Int := ⟨fun K mg H v a r => by cases r; intro h; cases h⟩
instance : NN Bool := ⟨fun K mg H v a r => by cases r; intro h; cases h⟩
instance : NN Str := ⟨fun K mg H v a r => by cases r; intro h; cases h⟩
instance {α : Type} [Enc α] : NN (List α) := ⟨fun K mg H v a r => by cases r; intro h; cases h⟩
instance {α : Type} [Enc α] : NN (Tup α) := ⟨fun K mg H v a r => by cases r; intro h; cases h⟩
instance {α β : Type} [Enc α] [Enc β] : NN (α × β) := ⟨fun K mg H v a r => by cases r; intro h; cases h⟩
instance {α β γ : Type} [Enc α] [Enc β] [Enc γ] : NN (T3 α β γ) := ⟨fun K mg H v a r => by cases r; intro h; cases h⟩
instance {α β γ δ : Type} [Enc α] [Enc β] [Enc γ] [Enc δ] : NN (T4 α β γ δ) := ⟨fun K mg H v a r => by cases r; intro h; cases h⟩
instance {α β γ δ ε : Type} [Enc α] [Enc β] [Enc γ] [Enc δ] [Enc ε] : NN (T5 α β γ δ ε) := ⟨fun K mg H v a r => by cases r; intro h; cases h⟩
theorem opt_non [NN α] {K : PySem.W.Frag} {mg : Str → Option Value} {H : Hp} {v : V} {o : Option α} (r : R K mg H v (enc o)) : decide (v = .non) = o.isNone := by
  cases o with
  | none => cases r; rfl
  | some a =>
    have h := NN.nn K mg H v a r
    simp [h]
theorem ve_isN [NN α] {j : Nat} {pc : Pos} {m : M (Option α)} (ha : VX true X Γ a m) : VX w X Γ (.Compare a [.Is] [.Constant .none j pc] pos) (m >>= fun o => M.ok o.isNone) :=
  (ve_cmp (β := Unit) (w := w) (f := fun (o : Option α) (_ : Unit) => M.ok o.isNone) op_isN ha ve_non (nomark _) (fun x y H v u r1 r2 Q o => by
    cases r2
    exact ⟨rfl, by rw [opt_non r1]; exact o⟩) fun _ _ _ z => nomatch z).congr (by cases m <;> rfl)
theorem ve_isNN [NN α] {j : Nat} {pc : Pos} {m : M (Option α)} (ha : VX true X Γ a m) : VX w X Γ (.Compare a [.IsNot] [.Constant .none j pc] pos) (m >>= fun o => M.ok o.isSome) :=
  (ve_cmp (β := Unit) (w := w) (f := fun (o : Option α) (_ : Unit) => M.ok o.isSome) op_notN ha ve_non (nomark _) (fun x y H v u r1 r2 Q o => by
    cases r2
    refine ⟨rfl, ?_⟩
    rw [opt_non r1]
    cases x
    · exact o
    · exact o) fun _ _ _ z => nomatch z).congr (by cases m <;> rfl)

/-! ### isinstance -/
class PyT (α : Type) [Enc α] where
  nm : α → String
  ty : ∀ (K : PySem.W.Frag) (mg : Str → Option Value) (H : Hp) (v : V) (a : α), R K mg H v (enc a) → TyX K H v (.type (nm a))
instance : PyT Int := ⟨fun _ => "int", fun K mg H v a r => by cases r; exact .base (.int _)⟩
instance : PyT Bool := ⟨fun _ => "bool", fun K mg H v a r => by cases r; exact .base (.bl _)⟩
instance : PyT Str := ⟨fun _ => "str", fun K mg H v a r => by cases r; exact .base (.str _)⟩
instance : PyT Unit := ⟨fun _ => "NoneType", fun K mg H v a r => by cases r; exact .base .non⟩
theorem ty_lst {K : PySem.W.Frag} {mg : Str → Option Value} {H : Hp} {v : V} {l : List D} (r : R K mg H v (.lst l)) : TyX K H v (.type "list") := by
  obtain ⟨p, xs, rfl, h, q⟩ := r.lst_inv
  rcases h with (h | ⟨o, h⟩) | ⟨o, its, n, h, hc, _⟩
  · exact .base (.lst h)
  · exact .base (.frz h)
  · exact .kList h hc
theorem ty_tup {K : PySem.W.Frag} {mg : Str → Option Value} {H : Hp} {v : V} {l : List D} (r : R K mg H v (.tup l)) : TyX K H v (.type "tuple") := by
  obtain ⟨p, xs, rfl, h, q⟩ := r.tup_inv
  rcases h with (h | ⟨o, h⟩) | ⟨o, its, n, h, hc, _⟩
  · exact .base (.tup h)
  · exact .fTuple h
  · exact .kTuple h hc
instance {α : Type} [Enc α] : PyT (List α) := ⟨fun _ => "list", fun K mg H v a r => ty_lst r⟩
instance {α : Type} [Enc α] : PyT (Tup α) := ⟨fun _ => "tuple", fun K mg H v a r => ty_tup r⟩
instance {α β : Type} [Enc α] [Enc β] : PyT (α × β) := ⟨fun _ => "tuple", fun K mg H v a r => ty_tup r⟩
instance {α β γ : Type} [Enc α] [Enc β] [Enc γ] : PyT (T3 α β γ) := ⟨fun _ => "tuple", fun K mg H v a r => ty_tup r⟩
instance {α β γ δ : Type} [Enc α] [Enc β] [Enc γ] [Enc δ] : PyT (T4 α β γ δ) := ⟨fun _ => "tuple", fun K mg H v a r => ty_tup r⟩
instance {α β γ δ ε : Type} [Enc α] [Enc β] [Enc γ] [Enc δ] [Enc ε] : PyT (T5 α β γ δ ε) := ⟨fun _ => "tuple", fun K mg H v a r => ty_tup r⟩
instance {α : Type} [Enc α] [P : PyT α] : PyT (Option α) := ⟨fun o => match o with | none => "NoneType" | some a => P.nm a, fun K mg H v a r => by
  cases a with
  | none => cases r; exact .base .non
  | some a => exact P.ty K mg H v a r⟩
instance {α β : Type} [Enc α] [Enc β] [P : PyT α] [Q : PyT β] : PyT (α ⊕ β) := ⟨fun o => match o with | .inl a => P.nm a | .inr a => Q.nm a, fun K mg H v a r => by
  cases a with
  | inl a => exact P.ty K mg H v a r
  | inr a => exact Q.ty K mg H v a r⟩
theorem ve_isi [P : PyT α] {m : M α} {T : Str} {n : String} {pt : Pos} (f : α → Bool) (hm : X.mg "isinstance" = none) (hT : X.mg T = none) (ha : VX true X Γ a m) (hf : ∀ x : α, kitB (P.nm x) n = some (f x)) (hv : bootBuiltins T = some (.type n) := by decide +kernel) (hg : Gl X "isinstance" := by rfl) (hgT : Gl X T := by rfl) (hnT : T ≠ "__name__" := by decide) (hdT : (T == ("__debug__" : Str)) = false := by decide)
    (hs : starEach [a, .Name T pt] X.env = (false, eval a X.env) :: starEach [.Name T pt] X.env := by rfl) (hs2 : starEach [.Name T pt] X.env = (false, eval (.Name T pt) X.env) :: starEach [] X.env := by rfl) (hpl : (backTo pos (starEach [.Name T pt] X.env)).any (·.1) = false := by rfl) :
    VX w X Γ (.Call (.Name "isinstance" p) [a, .Name T pt] [] pos) (m >>= fun x => M.ok (f x)) := fun W tk σ I H T' mw Q o => by
  refine to_t (pe_callB call_isi hg hm (by decide +kernel) (pa_cons pe_of (pa_cons (pe_bltn (v := .ty n) hgT hT hv rfl hnT hdT) pa_nil hs2) hs) (by decide) (by decide) hs hpl) ?_
  refine ha.ap tk mw o.bind (fun x _ o1 v I1 H1 g1 r1 => ?_) fun _ z => z
  exact ⟨v, .ty n, .type (P.nm x), .type n, f x, rfl, .ty n, P.ty _ _ _ _ _ (r1 : R X.K X.mg H1 v (enc x)), kit_ty (hf x), o1 _ I1 H1 g1 (.bl _)⟩

theorem ve_isiS [P : PyT α] {m : M α} {T : Str} {n : String} {pt : Pos} (n0 : String) (f : Bool) (hm : X.mg "isinstance" = none) (hT : X.mg T = none) (ha : VX true X Γ a m) (hn0 : ∀ x : α, P.nm x = n0) (hf : kitB n0 n = some f) (hv : bootBuiltins T = some (.type n) := by decide +kernel) (hg : Gl X "isinstance" := by rfl) (hgT : Gl X T := by rfl) (hnT : T ≠ "__name__" := by decide) (hdT : (T == ("__debug__" : Str)) = false := by decide)
    (hs : starEach [a, .Name T pt] X.env = (false, eval a X.env) :: starEach [.Name T pt] X.env := by rfl) (hs2 : starEach [.Name T pt] X.env = (false, eval (.Name T pt) X.env) :: starEach [] X.env := by rfl) (hpl : (backTo pos (starEach [.Name T pt] X.env)).any (·.1) = false := by rfl) :
    VX w X Γ (.Call (.Name "isinstance" p) [a, .Name T pt] [] pos) (m >>= fun x => M.ok f) := ve_isi (fun _ => f) hm hT ha (fun x => by rw [hn0 x]; exact hf) hv hg hgT hnT hdT hs hs2 hpl

/-! ### plain forms of statements -/
theorem vs_retp {x : α} {t : τ} (he : VE X Γ e (M.ok x)) (hr : E.rt (.imm (enc x)) t) (hs : Sub Γ Γx) : VS X Γ Γx (.Return (some e) pos :: rest) E (.ok t) := fun W tk I0 H0 σ I H T mt D o => by
  refine seq_s (to_s1 (ps_ret pe_of) ?_)
  show tOf X e σ H _
  refine he.ap tk mt.mw (P := fun _ => True) (E := fun _ => False) trivial (fun a q _ v I1 H1 g1 r1 => ?_) fun _ z => z.elim
  cases q
  have mt1 := mt.gr g1
  exact o.rt _ v I1 H1 [] hr (mt1.wd.subl (List.nil_sublist _)) (.imm r1)
theorem vs_ifxp {a : List Stmt} {x : Bool} {m1 m2 : M τ} (hc : VT X Γ c (.ok x)) (ha : VS X Γ Γx a { E with nx := fun _ _ => False } m1) (hb : VS X Γ Γx rest E m2) (hs : Sub Γ Γx) : VS X Γ Γx (.If c a [] pos :: rest) E (if x then m1 else m2) := vs_ifx (b := []) hc ha hb hs
theorem vs_ifxxp {a b : List Stmt} {x : Bool} {m1 m2 : M τ} (hc : VT X Γ c (.ok x)) (ha : VS X Γ Γx a { E with nx := fun _ _ => False } m1) (hb : VS X Γ Γx b { E with nx := fun _ _ => False } m2) (hs : Sub Γ Γx) : VS X Γ Γx (.If c a b pos :: rest) E (if x then m1 else m2) := vs_ifxx hc ha hb hs
theorem vs_iflp {a b : List Stmt} {x : Bool} {m1 m2 : M τ} (hc : VT X Γ c (.ok x)) (ha : VS X Γ Γx a E m1) (hb : VS X Γ Γx b E m2) (hs : Sub Γ Γx) : VS X Γ Γx [.If c a b pos] E (if x then m1 else m2) := vs_ifl hc ha hb hs
theorem vs_ifjp {S : Type} (F : S → List SL) {a b : List Stmt} {x : Bool} {m1 m2 : M S} {k : S → M τ} (hc : VT X Γ c (.ok x)) (ha : VS X Γ Γx a (eNx F) m1) (hb : VS X Γ Γx b (eNx F) m2) (hk : ∀ s, VS X (F s) Γx rest E (k s)) (hs : Sub Γ Γx) :
    VS X Γ Γx (.If c a b pos :: rest) E ((if x then m1 else m2) >>= k) := vs_ifj F hc ha hb hk hs
theorem vs_ifgp {S : Type} (F : S → List SL) {a b : List Stmt} {x : Bool} {m1 m2 : M (Jn S τ)} {k : S → M τ} (hc : VT X Γ c (.ok x)) (ha : VS X Γ Γx a (eJn F E) m1) (hb : VS X Γ Γx b (eJn F E) m2) (hk : ∀ s, VS X (F s) Γx rest E (k s)) (hs : Sub Γ Γx) :
    VS X Γ Γx (.If c a b pos :: rest) E ((if x then m1 else m2) >>= fun j => j.on k) := vs_ifg F hc ha hb hk hs
/-- a test whose answer is known -/
theorem vs_ifT {a b : List Stmt} {m1 : M τ} (hc : VT X Γ c (.ok true)) (ha : VS X Γ Γx a { E with nx := fun _ _ => False } m1) (hs : Sub Γ Γx) : VS X Γ Γx (.If c a b pos :: rest) E m1 := fun W tk I0 H0 σ I H T mt D o => by
  refine seq_s (to_s1 (ps_if pt_of pss_of pss_of) ?_)
  show kOf X c σ H _
  refine hc.ap tk mt.mw (P := fun _ => True) (E := fun _ => False) trivial (fun x q _ I1 H1 g1 => ?_) fun _ z => z.elim
  cases q
  exact iteT (ha W tk I0 H0 σ I1 H1 T (mt.gr g1) _ (o.mono (fun t _ d => ⟨fun _ _ _ _ _ z => z.elim, d.bk, d.ct, d.rt⟩) fun _ _ z => z))
theorem vs_ifF {a : List Stmt} {m1 : M τ} (hc : VT X Γ c (.ok false)) (ha : VS X Γ Γx rest E m1) (hs : Sub Γ Γx) : VS X Γ Γx (.If c a [] pos :: rest) E m1 := fun W tk I0 H0 σ I H T mt D o => by
  refine seq_s (to_s1 (ps_if pt_of pss_of pss_of) ?_)
  show kOf X c σ H _
  refine hc.ap tk mt.mw (P := fun _ => True) (E := fun _ => False) trivial (fun x q _ I1 H1 g1 => ?_) fun _ z => z.elim
  cases q
  exact iteF (to_s pss_nil (rest_s ha tk (mt.gr g1) o))
end

/-! ### facts of the text -/
/-- a def as the top has left it -/
structure DefAt (K : PySem.W.Frag) (mg : Str → Option Value) (x : Str) (st : Stmt) (f : Addr) (fd : FuncData) (ps : List Str) : Prop where
  F : Fun K x x st f fd
  g : mg x = some (.ref f)
  b : Binds K fd ps []
/-- an own class of errors without __init__ -/
structure ExcCls (K : PySem.W.Frag) (mg : Str → Option Value) (x : Str) : Prop where
  ex : ∃ C, mg x = some (.ref C) ∧ PySem.W.excIn K C [.type "ValueError", .type "Exception", .type "BaseException", .type "object"] "ValueError.__new__" = true ∧ PySem.W.keepIn K (.ref C) = true ∧ PySem.W.subIn K (.ref C) (.type "BaseException") = some true ∧ PySem.W.typeIn K (.ref C) = some (.type "type")
theorem vs_raiseT {X : Cx} {Γ Γx : List SL} {rest : List Stmt} {τ : Type} {E : Eds τ} {x : Str} {msg : Str} {j : Nat} {p pc p2 pos : Pos} (T : ExcCls X.K X.mg x) (hc : X.calm = true) (hs : Sub Γ Γx) (hg : Gl X x := by rfl) (hdb : (x == ("__debug__" : Str)) = false := by decide) :
    VS X Γ Γx (.Raise (some (.Call (.Name x p) [.Constant (.str msg) j p2] [] pc)) none pos :: rest) E (.exc ⟨x, []⟩) := by
  obtain ⟨C, h1, h2, h3, h4, h5⟩ := T.ex
  exact vs_raise PySem.F.excBase_ValueError h2 h1 h3 (raises_own h4 h5) hc hs hg hdb
/-- the law's promise -/
theorem law_sp {K : PySem.W.Frag} {mg : Str → Option Value} {m : List Int × Unit → M Bool} (h : ∀ ns : List Int, ns.length ≤ 63 → m (ns, ()) = .ok true) {H : Hp} {a : Addr} {ns : List Int} (hl : ns.length ≤ 63) (hS : SqL K H a (ns.map V.int)) :
    spF K mg e1 (fun r : Bool => O.imm (enc r)) m [.ref a] H (fun v _ => v = .bl true) fun _ _ _ => False := by
  refine ⟨H, (ns, ()), .refl _, .cons (.lst hS ?_) .nil, ?_⟩
  · exact Rs.of_ints
  · rw [h ns hl]
    intro v I' H' T wd q
    cases q with
    | imm r => cases r; rfl
theorem cx_no {P : Program} {w : World} {H : Hp} {s : Shared} {e : Value} {s' : Shared} (h : L2N.CX P w [] H s (fun _ _ _ => False) e s') : False := by
  obtain ⟨_, _, _, _, _, _, _, _, _, _, _, _, z⟩ := h
  exact z
end Vc

set_option Elab.async false
set_option linter.all false
set_option maxRecDepth 100000
namespace Vc
open PySem PySem.Spec PyProof.Rows L2
open Enc (enc)
section
variable {X : Cx} {Γ Γx : List SL} {e a b c : Expr} {es : List Expr} {rest : List Stmt} {pos p : Pos} {α β γ : Type} [Enc α] [Enc β] [Enc γ] {w w' : Bool} {τ : Type} {E : Eds τ} {x : Str}
theorem ve_gint {n : Int} (h : ∃ t, X.mg x = some (.int n t)) (hg : Gl X x) (hd : (x == ("__debug__" : Str)) = false := by decide) : VX w X Γ (.Name x p) (M.ok n) := by
  obtain ⟨t, h⟩ := h
  exact ve_glob hg h (v := .int n) ⟨t, rfl⟩ (fun H => .int n) hd
theorem ve_gdat {k : α} (h : ∃ q, X.mg x = some (.ref q) ∧ ∀ H, R X.K X.mg H (.ref q) (enc k)) (hg : Gl X x) (hd : (x == ("__debug__" : Str)) = false := by decide) : VX w X Γ (.Name x p) (.ok k) := by
  obtain ⟨q, h, r⟩ := h
  exact ve_glob hg h (v := .ref q) rfl r hd
theorem ve_chainp {op op' : CmpOp} {p1 p2 : Int → Int → Bool} {x y z : Int} (ho : OpR X (compareOp op) (rI0 fun i j => .bl (p1 i j))) (ho' : OpR X (compareOp op') (rI0 fun i j => .bl (p2 i j))) (ha : VX true X Γ a (.ok x)) (hb : VX true X Γ b (.ok y)) (hc : VX true X Γ c (.ok z))
    (h1 : lastMarks [op, op'] [b, c] = false := by with_unfolding_all rfl) : VX w X Γ (.Compare a [op, op'] [b, c] pos) (M.ok (p1 x y && p2 y z)) := by
  have h := ve_chain (w := w) (pos := pos) ho ho' ha hb hc h1
  refine h.congr ?_
  show bAnd (M.ok (p1 x y)) (M.ok (p2 y z)) = _
  exact bAnd_ok _ _
theorem VX.some {m : M α} (h : VX w X Γ e m) : VX w X Γ e (m >>= fun x => M.ok (some x : Option α)) := fun W tk σ I H T mw Q o => h W tk σ I H T mw Q (o.bind.mono (fun a _ k v I' H' g r => k v I' H' g r) fun _ _ z => z)
theorem VX.none_ {m : M Unit} (h : VX w X Γ e m) : VX w X Γ e (m >>= fun _ => M.ok (Option.none : Option α)) := fun W tk σ I H T mw Q o => h W tk σ I H T mw Q (o.bind.mono (fun a _ k v I' H' g r => k v I' H' g r) fun _ _ z => z)
theorem VX.inl {m : M α} (h : VX w X Γ e m) : VX w X Γ e (m >>= fun x => M.ok (.inl x : α ⊕ β)) := fun W tk σ I H T mw Q o => h W tk σ I H T mw Q (o.bind.mono (fun a _ k v I' H' g r => k v I' H' g r) fun _ _ z => z)
theorem VX.inr {m : M β} (h : VX w X Γ e m) : VX w X Γ e (m >>= fun x => M.ok (.inr x : α ⊕ β)) := fun W tk σ I H T mw Q o => h W tk σ I H T mw Q (o.bind.mono (fun a _ k v I' H' g r => k v I' H' g r) fun _ _ z => z)
theorem vs_stuck {sts : List Stmt} : VS X Γ Γx sts E (M.stuck : M τ) := fun W tk I0 H0 σ I H T mt D o => o.elim
theorem VS.chk {sts : List Stmt} {P : Prop} [Decidable P] {k : Unit → M τ} (h : P → VS X Γ Γx sts E (k ())) : VS X Γ Γx sts E (Vc.chk P >>= k) := fun W tk I0 H0 σ I H T mt D o => by
  obtain ⟨hp, o⟩ := o.chk
  exact h hp W tk I0 H0 σ I H T mt D o

/-- written ints -/
inductive CInts : List Expr → List Int → Prop
  | nil : CInts [] []
  | cons {i : Int} {j : Nat} {pos : Pos} {es : List Expr} {l : List Int} : CInts es l → CInts (.Constant (.int i) j pos :: es) (i :: l)
theorem va_ints {l : List Int} (h : CInts es l) : VA w X Γ es (fun _ : Unit => l.map D.int) (M.ok ()) := by
  induction h with
  | nil => exact fun W tk σ I H T mw Q o => to_a pa_nil (o [] I H (.refl mw.ih) .nil)
  | cons h ih =>
    intro W tk σ I H T mw Q o
    refine to_a (pa_cons pe_of pa_of) (VX.ap (w := w) ve_int tk mw (P := fun _ => True) (E := fun _ => False) trivial (fun x q _ v I1 H1 g1 r1 => ?_) fun _ z => z.elim)
    cases q
    refine ih W tk σ I1 H1 T (mw.gr g1) _ ?_
    intro vs I2 H2 g2 r2
    exact o (v :: vs) I2 H2 (g1.trans g2) (.cons (r1.mono (wsel_same g2)) r2)
def rdInts : List Expr → Option (List Int)
  | [] => some []
  | .Constant (.int i) _ _ :: es => match rdInts es with | some l => some (i :: l) | none => none
  | _ => none
theorem rdInts_ok : ∀ (es : List Expr) (l : List Int), rdInts es = some l → CInts es l := by
  intro es
  induction es with
  | nil => intro l h; cases h; exact .nil
  | cons e es ih =>
    intro l h
    unfold rdInts at h
    split at h
    · rename_i h1; cases h1
    · rename_i i j p es' h1
      cases h1
      split at h
      · rename_i l' h2
        cases h
        exact .cons (ih l' h2)
      · cases h
    · cases h
theorem ve_tupK {l : List Int} {k : Nat} (h0 : rdInts es = some l := by decide +kernel) (hz : Nat.ble l.length sizeLine = true := by decide +kernel) : VX w X Γ (.Tuple es k pos) (M.ok (⟨l⟩ : Tup Int)) := VX.le fun W tk σ I H T mw Q o => by
  have h := rdInts_ok _ _ h0
  refine to_t (pe_tup pa_of) (VA.ap (w := false) (va_ints h) tk mw (P := fun _ => True) (E := fun _ => False) trivial (fun x q _ vs I1 H1 g1 r1 => ⟨by rw [r1.length, List.length_map]; exact Nat.le_of_ble_eq_true hz, fun p hp => ?_⟩) fun _ z => z.elim)
  refine o _ _ _ (g1.trans (Gr.new g1.ih hp)) ?_
  exact .tup (.of upd_same) (r1.mono (Gr.new g1.ih hp).i0)

/-! ### walks -/
theorem vi_rangeK {tg : Expr} {n : Int} (hm : X.mg "range" = none) (h : VX true X Γ a (M.ok n)) (hn : rOk n) (hg : Gl X "range" := by rfl) (hs : starEach [a] X.env = [(false, eval a X.env)] := by rfl) : VI X Γ tg (.Call (.Name "range" p) [a] [] pos) (M.ok (rng 0 n)) := by
  have h2 := vi_range1 (tg := tg) (p := p) (pos := pos) hm h hg hs
  refine h2.congr ?_
  show (Vc.chk (rOk n) >>= fun _ => M.ok (rng 0 n)) = _
  rw [chk_ok hn]; rfl
/-- range(a, b, -1) -/
def rngD (a b : Int) : List Int := (List.range (a - b).toNat).map fun i : Nat => a - (i : Int)
theorem rngD_get {a b : Int} {i : Nat} {x : Int} (h : (rngD a b)[i]? = some x) : i < (a - b).toNat ∧ x = a - (i : Int) := by
  unfold rngD at h
  rw [List.getElem?_map] at h
  by_cases hi : i < (a - b).toNat
  · rw [List.getElem?_range hi] at h
    exact ⟨hi, (Option.some.inj h).symm⟩
  · rw [List.getElem?_eq_none (by rw [List.length_range]; omega)] at h
    cases h
theorem rngD_length (a b : Int) : (rngD a b).length = (a - b).toNat := by unfold rngD; rw [List.length_map, List.length_range]
theorem vi_rangeD {tg : Expr} {m1 m2 : M Int} (hm : X.mg "range" = none) (h : VX true X Γ a m1) (h2 : VX true X Γ b m2) (h3 : VX true X Γ c (M.ok (-1 : Int))) (hg : Gl X "range" := by rfl)
    (hs : starEach [a, b, c] X.env = (false, eval a X.env) :: starEach [b, c] X.env := by rfl) (hs2 : starEach [b, c] X.env = (false, eval b X.env) :: starEach [c] X.env := by rfl) (hs3 : starEach [c] X.env = (false, eval c X.env) :: starEach [] X.env := by rfl) (hpl : (backTo pos (starEach [b, c] X.env)).any (·.1) = false := by rfl) :
    VI X Γ tg (.Call (.Name "range" p) [a, b, c] [] pos) (m1 >>= fun x => m2 >>= fun y => Vc.chk (rOk x ∧ rOk y) >>= fun _ => M.ok (rngD x y)) := fun W tk σ I H T mw R o => by
  refine to_i (pi_range3 hg hm (pa_cons pe_of (pa_cons pe_of (pa_cons pe_of pa_nil hs3) hs2) hs) hs hpl) (h.ap tk mw o.bind (fun x _ o1 v I1 H1 g1 r1 => ?_) fun _ z => z)
  refine h2.ap tk (mw.gr g1) o1.bind (fun y _ o2 u I2 H2 g2 r2 => ?_) fun _ z => z.gr g1
  refine h3.ap tk ((mw.gr g1).gr g2) (P := fun _ => True) (E := fun _ => False) trivial (fun z q _ t I3 H3 g3 r3 => ?_) fun _ z => z.elim
  cases q
  cases r1; cases r2; cases r3
  obtain ⟨⟨⟨h1, h2⟩, h3, h4⟩, o3⟩ := o2.chk
  refine ⟨x, y, -1, (x - y).toNat, rfl, RgC.neg h1 h2 h3 h4, o3 _ I3 H3 ((g1.trans g2).trans g3) fun i I4 H4 s1 s2 => ⟨fun z hz => ?_, fun h => by rw [rngD_length] at h; exact h⟩⟩
  obtain ⟨hi, rfl⟩ := rngD_get hz
  refine ⟨hi, fun v H5 q => ?_⟩
  obtain ⟨rfl, rfl⟩ := q
  refine ⟨I4, .refl s2, ?_⟩
  rw [show x + (i : Int) * (-1) = x - (i : Int) by omega]
  exact .int _
def enumL {α : Type} (l : List α) : List (Int × α) := l.zipIdx.map fun p => ((p.2 : Int), p.1)
theorem enumL_get {l : List α} {i : Nat} {q : Int × α} (h : (enumL l)[i]? = some q) : l[i]? = some q.2 ∧ q.1 = (i : Int) := by
  unfold enumL at h
  rw [List.getElem?_map, List.getElem?_zipIdx] at h
  cases e : l[i]? with
  | none => rw [e] at h; cases h
  | some a =>
    rw [e] at h
    have h : (((0 + i : Nat) : Int), a) = q := Option.some.inj h
    subst h
    exact ⟨rfl, by simp⟩
theorem enumL_length (l : List α) : (enumL l).length = l.length := by unfold enumL; rw [List.length_map, List.length_zipIdx]
theorem vi_enum {elts : List Expr} {kk : Nat} {tpos : Pos} {m : M (List α)} (hm : X.mg "enumerate" = none) (h : VX false X Γ e m) (hg : Gl X "enumerate" := by rfl) (hs : starEach [e] X.env = [(false, eval e X.env)] := by rfl) : VI X Γ (.Tuple elts kk tpos) (.Call (.Name "enumerate" p) [e] [] pos) (m >>= fun l => M.ok (enumL l)) := fun W tk σ I H T mw R o => by
  refine to_i (pi_enum hg hm (pa_cons pe_of pa_nil hs) hs) (h.ap tk mw o.bind (fun l _ k v I1 H1 g1 r1 => ?_) fun _ z => z)
  obtain ⟨p, xs, rfl, hq, rs⟩ := Vc.R.lst_inv r1
  refine ⟨p, xs, rfl, g1.ih.seq hq, k _ I1 H1 g1 fun i I2 H2 s1 s2 => ⟨fun a ha => ?_, fun hi => ⟨xs, (s1.trans s2).seq hq, by rw [rs.length, List.length_map]; rw [enumL_length] at hi; exact hi⟩⟩⟩
  obtain ⟨h1, h2⟩ := enumL_get ha
  obtain ⟨v, e1, r2⟩ := (rs.mono s1).get (i := i) (x := enc a.2) (by rw [List.getElem?_map, h1]; rfl)
  refine ⟨⟨xs, v, (s1.trans s2).seq hq, e1⟩, fun x H3 y => ?_⟩
  obtain ⟨T2, z, rfl, hT, rfl, y⟩ := y
  rw [y xs ((s1.trans s2).seq hq)] at e1
  cases e1
  refine ⟨_, Gr.new s2 hT, ?_⟩
  refine .tup (.of upd_same) (.cons ?_ (.cons (r2.mono (Gr.new s2 hT).i0) .nil))
  rw [h2]
  exact .int _
theorem vi_zip {elts : List Expr} {kk : Nat} {tpos : Pos} {m1 : M (List α)} {m2 : M (List β)} (hm : X.mg "zip" = none) (h : VX false X Γ a m1) (h2 : VX false X Γ b m2) (hg : Gl X "zip" := by rfl) (hs : starEach [a, b] X.env = (false, eval a X.env) :: starEach [b] X.env := by rfl) (hs2 : starEach [b] X.env = (false, eval b X.env) :: starEach [] X.env := by rfl) (hpl : (backTo pos (starEach [b] X.env)).any (·.1) = false := by rfl) :
    VI X Γ (.Tuple elts kk tpos) (.Call (.Name "zip" p) [a, b] [] pos) (m1 >>= fun x => m2 >>= fun y => M.ok (x.zip y)) := fun W tk σ I H T mw R o => by
  refine to_i (pi_zip hg hm (pa_cons pe_of (pa_cons pe_of pa_nil hs2) hs) hs hpl) (h.ap tk mw o.bind (fun l _ o1 v I1 H1 g1 r1 => ?_) fun _ z => z)
  refine h2.ap tk (mw.gr g1) o1.bind (fun l2 _ k u I2 H2 g2 r2 => ?_) fun _ z => z.gr g1
  obtain ⟨p, xs, rfl, hq, rs⟩ := Vc.R.lst_inv (r1.mono g2.i0)
  obtain ⟨p2, ys, rfl, hq2, rs2⟩ := Vc.R.lst_inv r2
  refine ⟨p, p2, xs, ys, rfl, g2.ih.seq hq, g2.ih.seq hq2, k _ I2 H2 (g1.trans g2) fun i I3 H3 s1 s2 => ⟨fun a ha => ?_, fun hi => ⟨xs, ys, (s1.trans s2).seq hq, (s1.trans s2).seq hq2, by rw [rs.length, rs2.length, List.length_map, List.length_map]; rw [List.length_zip] at hi; omega⟩⟩⟩
  have ⟨h1, h3⟩ : l[i]? = some a.1 ∧ l2[i]? = some a.2 := by
    rw [List.getElem?_zip_eq_some] at ha
    exact ha
  obtain ⟨v, e1, r3⟩ := (rs.mono s1).get (i := i) (x := enc a.1) (by rw [List.getElem?_map, h1]; rfl)
  obtain ⟨v2, e2, r4⟩ := (rs2.mono s1).get (i := i) (x := enc a.2) (by rw [List.getElem?_map, h3]; rfl)
  refine ⟨⟨xs, ys, v, v2, (s1.trans s2).seq hq, (s1.trans s2).seq hq2, e1, e2⟩, fun x H4 y => ?_⟩
  obtain ⟨T2, z, z2, rfl, hT, rfl, y1, y2⟩ := y
  rw [y1 xs ((s1.trans s2).seq hq)] at e1
  rw [y2 ys ((s1.trans s2).seq hq2)] at e2
  cases e1; cases e2
  exact ⟨_, Gr.new s2 hT, .tup (.of upd_same) (.cons (r3.mono (Gr.new s2 hT).i0) (.cons (r4.mono (Gr.new s2 hT).i0) .nil))⟩
theorem vi_rev {tg : Expr} {m : M (List α)} (hm : X.mg "reversed" = none) (h : VX false X Γ e m) (hg : Gl X "reversed" := by rfl) (hs : starEach [e] X.env = [(false, eval e X.env)] := by rfl) : VI X Γ tg (.Call (.Name "reversed" p) [e] [] pos) (m >>= fun l => M.ok l.reverse) := fun W tk σ I H T mw R o => by
  refine to_i (pi_reversed hg hm (pa_cons pe_of pa_nil hs) hs) (h.ap tk mw o.bind (fun l _ k v I1 H1 g1 r1 => ?_) fun _ z => z)
  obtain ⟨p, xs, rfl, hq, rs⟩ := Vc.R.lst_inv r1
  have hl : xs.length = l.length := by rw [rs.length, List.length_map]
  refine ⟨p, xs, rfl, g1.ih.seq hq, k _ I1 H1 g1 fun i I2 H2 s1 s2 => ⟨fun a ha => ?_, fun hi => by rw [List.length_reverse] at hi; rw [← hl] at hi; exact hi⟩⟩
  have hi : i < l.length := by
    have := (List.getElem?_eq_some_iff.mp ha).1
    rwa [List.length_reverse] at this
  have ha' : l[l.length - 1 - i]? = some a := by rw [← List.getElem?_reverse hi]; exact ha
  obtain ⟨v, e1, r2⟩ := (rs.mono s1).get (i := l.length - 1 - i) (x := enc a) (by rw [List.getElem?_map, ha']; rfl)
  rw [← hl] at e1
  refine ⟨⟨by rw [hl]; exact hi, xs, v, (s1.trans s2).seq hq, e1⟩, fun x H3 y => ?_⟩
  obtain ⟨rfl, y⟩ := y
  rw [y xs ((s1.trans s2).seq hq)] at e1
  cases e1
  exact ⟨I2, .refl s2, r2⟩

theorem ve_lenP {k : Int} {m : M α} (hm : X.mg "len" = none) (h : VX true X Γ e m) (hk : ∀ x : α, ∃ ds, enc x = .tup ds ∧ (ds.length : Int) = k := by exact fun _ => ⟨_, rfl, rfl⟩) (hg : Gl X "len" := by rfl) (hs : starEach [e] X.env = (false, eval e X.env) :: starEach [] X.env := by rfl) : VX w X Γ (.Call (.Name "len" p) [e] [] pos) (m >>= fun _ => M.ok k) := by
  have q := ve_bcall (w := w) (f := fun a : α × Unit => M.ok k) (p := p) (pos := pos) call_len_seq hg hm boot_len (va_cons h va_nil hs) (fun a vs I H s rs Q o => by
    obtain ⟨v, rfl, r⟩ := rs.one
    obtain ⟨ds, e1, e2⟩ := hk a.1
    rw [e1] at r
    obtain ⟨p, xs, rfl, hq, rs⟩ := r.tup_inv
    refine ⟨p, xs, rfl, .inr hq, ?_⟩
    rw [rs.length, e2]
    exact o _ I H (.refl s) (.int _)) (fun _ _ z => nomatch z) (he := hs)
  refine q.congr ?_
  cases m <;> rfl

/-! ### more lists -/
theorem vo_rev {j : Nat} {p1 p2 p3 : Pos} {m : M (List α)} (h : VX false X Γ e m) : VO X Γ (.Subscript e (.Slice none none (some (.UnaryOp .USub (.Constant (.int 1) j p1) p2)) p3) pos) ow1 (m >>= fun l => M.ok l.reverse) := fun W tk σ I H T mw Q o => by
  refine to_t (pe_revL pe_of) (h.ap tk mw o.bind (fun l _ o1 v I1 H1 g1 r1 => ?_) fun _ z => z)
  obtain ⟨p, xs, rfl, hq, rs⟩ := r1.lst_inv
  refine ⟨p, xs, rfl, g1.ih.seq hq, fun q hq => o1 _ I1 _ [q] (by have := Wd.ow g1 (fun _ z => nomatch z) (Wd.new (o := .lst xs.reverse) g1.ih hq); simpa using this) (ow1_new ?_)⟩
  rw [List.map_reverse]
  exact rs.reverse
theorem vo_revB [Atm α] {j : Nat} {p1 p2 p3 : Pos} {m : M (List α)} (h : VX true X Γ e m) : VO X Γ (.Subscript e (.Slice none none (some (.UnaryOp .USub (.Constant (.int 1) j p1) p2)) p3) pos) ow1 (m >>= fun l => M.ok l.reverse) := fun W tk σ I H T mw Q o => by
  refine to_t (pe_revL pe_of) (h.ap tk mw o.bind (fun l _ o1 v I1 H1 g1 r1 => ?_) fun _ z => z)
  obtain ⟨p, xs, rfl, hq, rs⟩ := r1.lst_inv
  refine ⟨p, xs, rfl, hq, fun q hq => o1 _ I1 _ [q] (by have := Wd.ow g1 (fun _ z => nomatch z) (Wd.new (o := .lst xs.reverse) g1.ih hq); simpa using this) (ow1_new ?_)⟩
  have h2 := rs.reverse
  rw [← List.map_reverse] at h2
  exact h2.atoms
theorem ve_tuple {m : M (List α)} (hm : X.mg "tuple" = none) (h : VX false X Γ e m) (hg : Gl X "tuple" := by rfl) (hs : starEach [e] X.env = (false, eval e X.env) :: starEach [] X.env := by rfl) : VX w X Γ (.Call (.Name "tuple" p) [e] [] pos) (m >>= fun l => M.ok (⟨l⟩ : Tup α)) := VX.le fun W tk σ I H T mw Q o => by
  refine to_t (pe_callTy call_tuple_of hg hm (by decide +kernel) (pa_cons pe_of pa_nil hs) (by decide) (by decide) hs (by rfl)) ?_
  refine h.ap tk mw o.bind (fun l _ o1 v I1 H1 g1 r1 => ?_) fun _ z => z
  obtain ⟨p, xs, rfl, hq, rs⟩ := Vc.R.lst_inv r1
  refine ⟨p, xs, rfl, .inl ⟨g1.ih.seq hq, fun q hq => o1 _ _ _ (g1.trans (Gr.new g1.ih hq)) ?_⟩⟩
  exact .tup (.of upd_same) (Rs.mono (Gr.new g1.ih hq).i0 rs)
theorem ve_tupleB [Atm α] {m : M (List α)} (hm : X.mg "tuple" = none) (h : VX true X Γ e m) (hg : Gl X "tuple" := by rfl) (hs : starEach [e] X.env = (false, eval e X.env) :: starEach [] X.env := by rfl) : VX w X Γ (.Call (.Name "tuple" p) [e] [] pos) (m >>= fun l => M.ok (⟨l⟩ : Tup α)) := VX.le fun W tk σ I H T mw Q o => by
  refine to_t (pe_callTy call_tuple_of hg hm (by decide +kernel) (pa_cons pe_of pa_nil hs) (by decide) (by decide) hs (by rfl)) ?_
  refine h.ap tk mw o.bind (fun l _ o1 v I1 H1 g1 r1 => ?_) fun _ z => z
  obtain ⟨p, xs, rfl, hq, rs⟩ := Vc.R.lst_inv r1
  refine ⟨p, xs, rfl, .inl ⟨hq, fun q hq => o1 _ _ _ (g1.trans (Gr.new g1.ih hq)) ?_⟩⟩
  exact .tup (.of upd_same) rs.atoms
theorem vo_listT {m : M (Tup α)} (hm : X.mg "list" = none) (h : VX false X Γ e m) (hg : Gl X "list" := by rfl) (hs : starEach [e] X.env = (false, eval e X.env) :: starEach [] X.env := by rfl) : VO X Γ (.Call (.Name "list" p) [e] [] pos) ow1 (m >>= fun t => M.ok t.l) := by
  have q := vo_tcall (w := false) (ow := ow1) (f := fun a : Tup α × Unit => M.ok a.1.l) (p := p) (pos := pos) call_list_of hg hm (by decide +kernel) (va_cons h va_nil hs) (fun a vs I H s rs Q o => by
    obtain ⟨v, rfl, r⟩ := rs.one
    obtain ⟨p, xs, rfl, hq, rs⟩ := r.tup_inv
    exact ⟨p, xs, rfl, .inr (Same.seqT s hq), fun l hl => o _ I _ [l] (Wd.new s hl) (ow1_new rs)⟩) (fun _ _ z => nomatch z) (he := hs)
  have e : (m >>= fun x => M.ok () >>= fun y => M.ok (x, y)) >>= (fun a : Tup α × Unit => M.ok a.1.l) = (m >>= fun t => M.ok t.l) := by cases m <;> rfl
  rw [← e]
  exact q
theorem ve_sum {m : M (List Int)} (hc : X.calm = true) (hm : X.mg "sum" = none) (h : VX true X Γ e m) (hg : Gl X "sum" := by rfl) (hs : starEach [e] X.env = (false, eval e X.env) :: starEach [] X.env := by rfl) : VX w X Γ (.Call (.Name "sum" p) [e] [] pos) (m >>= fun l => M.ok l.sum) := by
  have q := ve_bcall (w := w) (f := fun a : List Int × Unit => M.ok a.1.sum) (p := p) (pos := pos) (cr_sum hc) hg hm (by decide +kernel) (va_cons h va_nil hs) (fun a vs I H s rs Q o => by
    obtain ⟨v, rfl, r⟩ := rs.one
    obtain ⟨p, xs, rfl, hq, rs⟩ := r.lst_inv
    have e := rs.ints
    subst e
    exact ⟨p, a.1, rfl, hq, o _ I H (.refl s) (.int _)⟩) (fun _ _ z => nomatch z) (he := hs)
  refine q.congr ?_
  cases m <;> rfl
theorem ve_all {m : M (List Bool)} (hc : X.calm = true) (hm : X.mg "all" = none) (h : VX true X Γ e m) (hg : Gl X "all" := by rfl) (hs : starEach [e] X.env = (false, eval e X.env) :: starEach [] X.env := by rfl) : VX w X Γ (.Call (.Name "all" p) [e] [] pos) (m >>= fun l => M.ok (l.all id)) := by
  have q := ve_bcall (w := w) (f := fun a : List Bool × Unit => M.ok (a.1.all id)) (p := p) (pos := pos) (cr_all hc) hg hm (by decide +kernel) (va_cons h va_nil hs) (fun a vs I H s rs Q o => by
    obtain ⟨v, rfl, r⟩ := rs.one
    obtain ⟨p, xs, rfl, hq, rs⟩ := r.lst_inv
    have e := rs.bools
    subst e
    exact ⟨p, a.1, rfl, hq, o _ I H (.refl s) (.bl _)⟩) (fun _ _ z => nomatch z) (he := hs)
  refine q.congr ?_
  cases m <;> rfl
theorem ve_any {m : M (List Bool)} (hc : X.calm = true) (hm : X.mg "any" = none) (h : VX true X Γ e m) (hg : Gl X "any" := by rfl) (hs : starEach [e] X.env = (false, eval e X.env) :: starEach [] X.env := by rfl) : VX w X Γ (.Call (.Name "any" p) [e] [] pos) (m >>= fun l => M.ok (l.any id)) := by
  have q := ve_bcall (w := w) (f := fun a : List Bool × Unit => M.ok (a.1.any id)) (p := p) (pos := pos) (cr_any hc) hg hm (by decide +kernel) (va_cons h va_nil hs) (fun a vs I H s rs Q o => by
    obtain ⟨v, rfl, r⟩ := rs.one
    obtain ⟨p, xs, rfl, hq, rs⟩ := r.lst_inv
    have e := rs.bools
    subst e
    exact ⟨p, a.1, rfl, hq, o _ I H (.refl s) (.bl _)⟩) (fun _ _ z => nomatch z) (he := hs)
  refine q.congr ?_
  cases m <;> rfl
/-- list(range(..)): over the range as a value -/
theorem rgV_eq (a b : Int) : rgV a b = (rng a b).map V.int := by unfold rgV rng; rw [List.map_map]; rfl
def VR (X : Cx) (Γ : List SL) (e : Expr) (m : M (Int × Int)) : Prop :=
  ∀ (W : WX), L2N.Takes X W → ∀ σ I H T, Mw X.K X.mg Γ σ I H T → ∀ Q : Int → Int → Hp → Prop,
    Out m (fun a => ∀ I' H', Gr I H I' H' → Q a.1 a.2 H') (XO X W σ I H) → ∃ t, PRg X e t ∧ t σ H Q
theorem vr_1 {m : M Int} (hm : X.mg "range" = none) (h : VX true X Γ a m) (hg : Gl X "range" := by rfl) (na : starEach [a] X.env = (false, eval a X.env) :: starEach [] X.env := by rfl) : VR X Γ (.Call (.Name "range" p) [a] [] pos) (m >>= fun n => M.ok ((0 : Int), n)) := fun W tk σ I H T mw Q o =>
  ⟨_, prg_1 hg hm pe_of na, h.ap tk mw o.bind (fun n _ o1 v I1 H1 g1 r1 => by cases r1; exact ⟨n, rfl, o1 I1 H1 g1⟩) fun _ z => z⟩
theorem vr_2 {m1 m2 : M Int} (hm : X.mg "range" = none) (h : VX true X Γ a m1) (h2 : VX true X Γ b m2) (hg : Gl X "range" := by rfl) (na : starEach [a, b] X.env = (false, eval a X.env) :: starEach [b] X.env := by rfl) (nb : starEach [b] X.env = (false, eval b X.env) :: starEach [] X.env := by rfl) (hpl : (backTo pos (starEach [b] X.env)).any (·.1) = false := by rfl) : VR X Γ (.Call (.Name "range" p) [a, b] [] pos) (m1 >>= fun x => m2 >>= fun y => M.ok (x, y)) := fun W tk σ I H T mw Q o =>
  ⟨_, prg_2 hg hm pe_of pe_of na nb hpl, h.ap tk mw o.bind (fun x _ o1 v I1 H1 g1 r1 => h2.ap tk (mw.gr g1) o1.bind (fun y _ o2 u I2 H2 g2 r2 => by cases r1; cases r2; exact ⟨x, y, rfl, rfl, o2 I2 H2 (g1.trans g2)⟩) fun _ z => z.gr g1) fun _ z => z⟩
instance (a b : Int) : Decidable (RgOk a b) := by unfold RgOk; infer_instance
def rOf (X : Cx) (e : Expr) : L2.St → Hp → (Int → Int → Hp → Prop) → Prop := fun σ H Q => ∃ t, PRg X e t ∧ t σ H Q
theorem prg_of : PRg X e (rOf X e) := fun pins s σ H Q I h => by
  obtain ⟨t, p, q⟩ := h
  exact p pins s σ H Q I q
theorem vo_listR {m : M (Int × Int)} (hc : X.calm = true) (hm : X.mg "list" = none) (h : VR X Γ e m) (hg : Gl X "list" := by rfl) (na : starEach [e] X.env = (false, eval e X.env) :: starEach [] X.env := by rfl) : VO X Γ (.Call (.Name "list" p) [e] [] pos) ow1 (m >>= fun r => Vc.chk (RgOk r.1 r.2) >>= fun _ => M.ok (rng r.1 r.2)) := fun W tk σ I H T mw Q o => by
  refine to_t (pe_listRg hc hg hm prg_of na) (h W tk σ I H T mw _ (o.bind.mono (fun r _ o1 I1 H1 g1 => ?_) fun _ _ z => z))
  obtain ⟨hr, o2⟩ := o1.chk
  refine ⟨hr, fun q hq => o2 _ I1 _ [q] (by have := Wd.ow g1 (fun _ z => nomatch z) (Wd.new (o := .lst (rgV r.1 r.2)) g1.ih hq); simpa using this) ?_⟩
  have : rgV r.1 r.2 = (rng r.1 r.2).map V.int := rgV_eq _ _
  rw [this]
  exact ow1_new Rs.of_ints
end

/-! ### the errors of the text -/
/-- the class n, named in an except clause -/
structure EEx (K : PySem.W.Frag) (mg : Str → Option Value) (tb : ETab) (n : Str) : Prop where
  ex : ∃ C, mg n = some (.ref C) ∧ EOk K mg tb n (.ref C)
structure IEx (K : PySem.W.Frag) (mg : Str → Option Value) (tb : ETab) (n : Str) : Prop where
  ex : ∃ C, mg n = some (.ref C) ∧ IOk K mg tb n (.ref C)
section
variable {X : Cx} {Γ Γx : List SL} {e a b c : Expr} {es : List Expr} {rest : List Stmt} {pos p : Pos} {α β γ : Type} [Enc α] [Enc β] [Enc γ] {w w' : Bool} {τ : Type} {E : Eds τ} {x : Str}
theorem vs_tryT {S : Type} (F : S → List SL) (i : Nat) (tb : ETab) {xc n : Str} {body suite : List Stmt} {b₀ : Stmt} {np pos' : Pos} {mb : M (Jn S τ)} {mh : Exn → M (Jn S τ)} {kk : S → M τ} (Γt : List SL) (hX : X.stack = X.env :: X.outer) (hf : X.env.frame = some X.env.locals) (hN : X.N.Nodup) (hE : EEx X.K X.mg tb xc)
    (hb : ∀ (pn : List (Addr × Obj)) (xe : Value → Shared → Prop), PassesOwn (model X.prog X.w) X.A X.env xe → VS (X.tr pn xe) Γ Γt body (eJn F E) mb)
    (hsu : ∀ ex, ex.fs = [] → ∀ (a : Addr) (oe : Obj) (cls : Value) (pn : List (Addr × Obj)), L2N.Zn cls none oe → (∃ vs, oe.data = .fields vs) → X.mg ex.nm = some cls → VS (X.suite a ((a, oe) :: pn)) (Γt.set i (.val (.imm (.adr a)))) (anys Γt.length) (b₀ :: suite) (eSu i (eJn F E)) (mh ex))
    (hk : ∀ s, VS X (F s) Γx rest E (kk s)) (hs : Sub Γt Γx) (hg : Gl X xc := by rfl) (hdb : (xc == ("__debug__" : Str)) = false := by decide) (hi : X.N[i]? = some n := by rfl) (hl : Nat.blt i Γt.length = true := by rfl) (hln : X.env.kindOf n = some .local := by rfl) :
    VS X Γ Γx (.Try body [.ExceptHandler (some (.Name xc np)) (some n) (b₀ :: suite) pos'] [] [] pos :: rest) E (tryM tb xc mb (fun ex => nox (Vc.chk (ex.fs.isEmpty = true) >>= fun _ => mh ex)) >>= fun j => j.on kk) := by
  obtain ⟨C, h1, h2⟩ := hE.ex
  refine vs_try (mh := fun ex => Vc.chk (ex.fs.isEmpty = true) >>= fun _ => mh ex) F i tb Γt hX hf hN ⟨hg, hdb, .inl h1⟩ h2 hb (fun ex a oe cls d pn hz hfl hm h0 _ => VS.chk fun hfs => ?_) hk hs hi hl hln
  have hfs' : ex.fs = [] := by simpa using hfs
  have hd := h0 hfs'
  subst hd
  exact hsu ex hfs' a oe cls pn hz hfl hm
theorem ve_isEo (i : Nat) {tb : ETab} {xe n : Str} {a : Addr} {oe : Obj} {cls : Value} {pn : List (Addr × Obj)} {ex : Exn} {px pt : Pos} (hz : L2N.Zn cls none oe) (hfl : ∃ vs, oe.data = .fields vs) (hm : X.mg ex.nm = some cls) (hI : IEx X.K X.mg tb n) (hmi : X.mg "isinstance" = none)
    (hΓ : Γ[i]? = some (.val (.imm (.adr a))) := by rfl) (hN : X.N[i]? = some xe := by rfl) (hv : Vis X.env.scope xe := by first | exact Or.inl rfl | exact Or.inr (Or.inl rfl) | exact Or.inr (Or.inr rfl)) (hg : Gl X "isinstance" := by rfl) (hgn : Gl X n := by rfl)
    (hd : (xe == ("__debug__" : Str)) = false := by decide) (hdn : (n == ("__debug__" : Str)) = false := by decide) (hcd : (xe == ("__classdict__" : Str)) = false := by decide) (hst : starEach [.Name xe px, .Name n pt] X.env = (false, eval (.Name xe px) X.env) :: starEach [.Name n pt] X.env := by rfl) (hst2 : starEach [.Name n pt] X.env = (false, eval (.Name n pt) X.env) :: starEach [] X.env := by rfl) (hpl : (backTo pos (starEach [.Name n pt] X.env)).any (·.1) = false := by rfl) :
    VX w (X.suite a ((a, oe) :: pn)) Γ (.Call (.Name "isinstance" p) [.Name xe px, .Name n pt] [] pos) (isE tb ex n) := by
  obtain ⟨C, h1, h2⟩ := hI.ex
  exact ve_isE (c := .ref C) i tb hz hfl hm h2 (fun u r => r) (pe_glob (X := X.suite a ((a, oe) :: pn)) hgn h1 rfl hdn) hΓ hN hv hmi hg hd hcd hst hst2 hpl
theorem ve_isEb (i : Nat) {tb : ETab} {xe n : Str} {t : String} {a : Addr} {oe : Obj} {cls : Value} {pn : List (Addr × Obj)} {ex : Exn} {px pt : Pos} (hz : L2N.Zn cls none oe) (hfl : ∃ vs, oe.data = .fields vs) (hm : X.mg ex.nm = some cls) (hI : IOk X.K X.mg tb n (.type t)) (hmn : X.mg n = none) (hmi : X.mg "isinstance" = none) (hvn : bootBuiltins n = some (.type t) := by decide +kernel)
    (hΓ : Γ[i]? = some (.val (.imm (.adr a))) := by rfl) (hN : X.N[i]? = some xe := by rfl) (hv : Vis X.env.scope xe := by first | exact Or.inl rfl | exact Or.inr (Or.inl rfl) | exact Or.inr (Or.inr rfl)) (hg : Gl X "isinstance" := by rfl) (hgn : Gl X n := by rfl)
    (hnn : n ≠ "__name__" := by decide) (hd : (xe == ("__debug__" : Str)) = false := by decide) (hdn : (n == ("__debug__" : Str)) = false := by decide) (hcd : (xe == ("__classdict__" : Str)) = false := by decide) (hst : starEach [.Name xe px, .Name n pt] X.env = (false, eval (.Name xe px) X.env) :: starEach [.Name n pt] X.env := by rfl) (hst2 : starEach [.Name n pt] X.env = (false, eval (.Name n pt) X.env) :: starEach [] X.env := by rfl) (hpl : (backTo pos (starEach [.Name n pt] X.env)).any (·.1) = false := by rfl) :
    VX w (X.suite a ((a, oe) :: pn)) Γ (.Call (.Name "isinstance" p) [.Name xe px, .Name n pt] [] pos) (isE tb ex n) :=
  ve_isE (c := .ty t) i tb hz hfl hm hI (fun u r => r) (pe_bltn (X := X.suite a ((a, oe) :: pn)) hgn hmn hvn rfl hnn hdn) hΓ hN hv hmi hg hd hcd hst hst2 hpl
end
/-! facts, from the written part -/
theorem exm_in {K : PySem.W.Frag} {C S : Addr} {b : Bool} (h1 : PySem.W.subIn K (.ref C) (.type "BaseException") = some true) (h2 : PySem.W.hasDictIn K C = true) (h3 : PySem.W.typeIn K (.ref C) = some (.type "type")) (h4 : PySem.W.subIn K (.ref S) (.ref C) = some b) : PySem.W.exmOne K (.ref S) (.ref C) = some b := PySem.W.exm_ref h1 h2 h3 h4
theorem lookup_mem {β : Type} : ∀ {l : List (Str × β)} {m : Str} {up : β}, l.lookup m = some up → (m, up) ∈ l
  | [], _, _, h => by cases h
  | (n, v) :: l, m, up, h => by
    rw [List.lookup_cons] at h
    cases q : m == n with
    | true =>
      rw [q] at h
      cases h
      have e : m = n := by simpa using q
      subst e
      exact List.mem_cons_self
    | false => rw [q] at h; exact List.mem_cons_of_mem _ (lookup_mem h)
end Vc

set_option Elab.async false
set_option linter.all false
set_option maxRecDepth 100000
namespace Vc
open PySem PySem.Spec PyProof.Rows L2
open Enc (enc)

structure iOfH (X : Cx) (tg e : Expr) (σ : L2.St) (H : Hp) (R : It → Hp → Prop) : Prop where
  run : ∀ pins s, Inv X pins σ H s → wpAny (model X.prog X.w) X.A (eval e X.env) (fun v s1 => wpAny (model X.prog X.w) X.A (pyIter v) (L2H.PIEH X pins σ tg R) X.xe s1) X.xe s
theorem pi_ofH {X : Cx} {tg e : Expr} : L2H.PIH X tg e (iOfH X tg e) := ⟨fun pins s σ H R I h => h.run pins s I⟩
theorem to_iH {X : Cx} {tg e : Expr} {t : TI} {σ : L2.St} {H : Hp} {R : It → Hp → Prop} (p : L2H.PIH X tg e t) (h : t σ H R) : iOfH X tg e σ H R := ⟨fun pins s I => p.run pins s σ H R I h⟩
section
variable {X : Cx} {Γ Γx : List SL} {e a b c : Expr} {es : List Expr} {rest : List Stmt} {pos p : Pos} {α β γ : Type} [Enc α] [Enc β] [Enc γ] {w w' : Bool} {τ : Type} {E : Eds τ}
def VIH (X : Cx) (Γ : List SL) (tg e : Expr) {α : Type} [Enc α] (m : M (List α)) : Prop :=
  ∀ (W : WX), L2N.Takes X W → ∀ σ I H T, Mw X.K X.mg Γ σ I H T → ∀ R : It → Hp → Prop,
    Out m (fun l => ∀ J I' H', Gr I H I' H' → Yl X.K X.mg J I' H' l → R J H') (XO X W σ I H) → iOfH X tg e σ H R
theorem VIH.ap {tg : Expr} {m : M (List α)} (h : VIH X Γ tg e m) {W : WX} (tk : L2N.Takes X W) {σ : L2.St} {I H : Hp} {T : List Addr} (mw : Mw X.K X.mg Γ σ I H T) {R : It → Hp → Prop} {P : List α → Prop} {E : Exn → Prop} (o : Out m P E)
    (hP : ∀ a, m = .ok a → P a → ∀ J I' H', Gr I H I' H' → Yl X.K X.mg J I' H' a → R J H') (hE : ∀ ex, E ex → XO X W σ I H ex) : iOfH X tg e σ H R := h W tk σ I H T mw R (o.mono hP fun ex _ k => hE ex k)
theorem VIH.congr {tg : Expr} {m m' : M (List α)} (h : VIH X Γ tg e m) (q : m = m') : VIH X Γ tg e m' := q ▸ h
theorem vih_range1 {tg : Expr} {m : M Int} (hm : X.mg "range" = none) (h : VX true X Γ a m) (hg : Gl X "range" := by rfl) (hs : starEach [a] X.env = [(false, eval a X.env)] := by rfl) : VIH X Γ tg (.Call (.Name "range" p) [a] [] pos) (m >>= fun n => chk (rOk n) >>= fun _ => M.ok (rng 0 n)) := fun W tk σ I H T mw R o => by
  refine to_iH (L2H.pi_range1H hg hm (pa_cons pe_of pa_nil hs) hs) (h.ap tk mw o.bind (fun n _ o1 v I1 H1 g1 r1 => ?_) fun _ z => z)
  cases r1
  obtain ⟨⟨h1, h2⟩, o2⟩ := o1.chk
  refine ⟨n, rfl, h1, h2, o2 _ I1 H1 g1 ?_⟩
  have := yl_rng (K := X.K) (mg := X.mg) (I := I1) (H := H1) (a := 0) (b := n)
  rw [Int.sub_zero] at this
  exact this
/-- the core of a for: a loop function whose turn is f, given by its unfolding -/
theorem for_coreH {S R : Type} {n : Nat} (F : S → List SL) (s0 : S) {tg : Expr} {vs : List Nat} {u : α → List SL → List SL} {m : M (List α)} {body : List Stmt} {EB : Eds R} {b : S → α → M R} {lp : List α → S → M τ} (hp : PassesOwn (model X.prog X.w) X.A X.env X.xe) (hc : L2H.HotC X) (hi : VIH X Γ tg e m) (hg : VG X n tg vs u)
    (hb : ∀ s a, VS X (u a (F s)) Γx body EB (b s a))
    (hk : ∀ s, VS X (F s) Γx rest E (lp [] s)) (fin : R → List α → M τ) (hlp : ∀ s a l, lp (a :: l) s = b s a >>= fun r => fin r l)
    (hnx : ∀ r l Γ', EB.nx Γ' r → ∃ s, Sub Γ' (F s) ∧ fin r l = lp l s) (hct : ∀ r l Γ', EB.ct Γ' r → ∃ s, Sub Γ' (F s) ∧ fin r l = lp l s)
    (hbk : ∀ r l Γ', EB.bk Γ' r → ∃ s, Sub Γ' (F s) ∧ fin r l = lp [] s) (hrt : ∀ r l o, EB.rt o r → ∃ t, fin r l = .ok t ∧ E.rt o t)
    (h0 : Sub Γ (F s0)) (hs : Sub Γ Γx) (hn : ∀ s, (F s).length = n) (hf : ∀ x, foldedSetIterable e X.env x = pure x) :
    VS X Γ Γx (.For tg e body [] pos :: rest) E (m >>= fun l => lp l s0) := fun W tk I0 H0 σ I H T mt D o => by
  refine seq_s (to_s1 (L2H.ps_forH hp hc pi_ofH pg_of pss_of hf) ?_)
  refine hi.ap tk mt.mw o.bind (fun l _ o1 J I1 H1 g1 yl => ?_) fun _ z => z.xo mt hs
  obtain ⟨T1, mt1⟩ := (mt.gr g1).sub h0
  refine ⟨fun i m σ' H' => m = l.length - i ∧ i ≤ l.length ∧ ∃ s I' T', Mt X.K X.mg I0 H0 (F s) σ' I' H' T' ∧ Same I1 I' ∧ Out (lp (l.drop i) s) (DO X I0 H0 E D) (XS X W I0 H0 Γx), ⟨l.length, rfl, Nat.zero_le _, s0, I1, T1, mt1, .refl _, o1⟩, ?_⟩
  rintro i _ σ' H' ⟨rfl, hi, s, I', T', mt', s1, o'⟩
  obtain ⟨go, stop⟩ := yl i I' H' s1 mt'.wd.ih
  by_cases hlt : i < l.length
  · obtain ⟨g2, y2⟩ := go l[i] (List.getElem?_eq_getElem hlt)
    rw [List.drop_eq_getElem_cons hlt, hlp] at o'
    refine .inr ⟨g2, fun σ2 H2 => ∃ s I' T', Mt X.K X.mg I0 H0 (F s) σ2 I' H2 T' ∧ Same I1 I' ∧ Out (lp (l.drop (i + 1)) s) (DO X I0 H0 E D) (XS X W I0 H0 Γx), fun σ2 H2 h => ⟨l.length - (i + 1), by omega, rfl, hlt, h⟩, fun x H2 y => ?_⟩
    obtain ⟨I2, g3, r3⟩ := y2 x H2 y
    have mt2 := mt'.gr g3
    refine hg (F s) (hn s) x l[i] σ' I2 H2 T' mt2.mw r3 _ fun σ3 T3 _ _ s3 c3 d3 => ?_
    have mt4 : Mt X.K X.mg I0 H0 (u l[i] (F s)) σ3 I2 H2 T3 := ⟨⟨mt2.wd.ih, mt2.wd.i0, mt2.wd.h0, fun p hp => mt2.wd.fr p (c3 p hp), d3, mt2.wd.sep⟩, s3⟩
    have w0 := mt4.wd
    refine hb s l[i] W tk I2 H0 σ3 I2 H2 T3 mt4.root _ (o'.bind.mono (fun r _ o2 => ?_) fun ex _ z => z.re w0)
    refine ⟨fun Γ' σ4 I4 H4 T4 z mt5 => ?_, fun Γ' σ4 I4 H4 T4 z mt5 => ?_, fun Γ' σ4 I4 H4 T4 z mt5 => ?_, fun ow v I4 H4 T4 z wd5 q => ?_⟩
    · obtain ⟨s', hsub, e⟩ := hnx r (l.drop (i + 1)) Γ' z
      rw [e] at o2
      obtain ⟨T5, mt6⟩ := (Mt.re w0 mt5).sub hsub
      exact ⟨s', I4, T5, mt6, (s1.trans g3.i0).trans mt5.wd.i0, o2⟩
    · obtain ⟨s', hsub, e⟩ := hbk r (l.drop (i + 1)) Γ' z
      rw [e] at o2
      obtain ⟨T5, mt6⟩ := (Mt.re w0 mt5).sub hsub
      exact rest_s (hk s') tk mt6 o2
    · obtain ⟨s', hsub, e⟩ := hct r (l.drop (i + 1)) Γ' z
      rw [e] at o2
      obtain ⟨T5, mt6⟩ := (Mt.re w0 mt5).sub hsub
      exact ⟨s', I4, T5, mt6, (s1.trans g3.i0).trans mt5.wd.i0, o2⟩
    · obtain ⟨t, e, ht⟩ := hrt r (l.drop (i + 1)) ow z
      rw [e] at o2
      exact DO.rt (E := E) o2 ow v I4 H4 T4 ht (w0.re wd5) q
  · have e : i = l.length := by omega
    subst e
    rw [List.drop_length] at o'
    exact .inl ⟨stop (Nat.le_refl _), rest_s (hk s) tk mt' o'⟩
/-- a for with break, return -/
theorem vs_forH {S : Type} {n : Nat} (F : S → List SL) (s0 : S) {tg : Expr} {vs : List Nat} {u : α → List SL → List SL} {m : M (List α)} {body : List Stmt} {b : S → α → M (Stp S τ)} {k : S → M τ} (hp : PassesOwn (model X.prog X.w) X.A X.env X.xe) (hc : L2H.HotC X) (hi : VIH X Γ tg e m) (hg : VG X n tg vs u)
    (hb : ∀ s a, VS X (u a (F s)) Γx body (eSt F E) (b s a)) (hk : ∀ s, VS X (F s) Γx rest E (k s)) (h0 : Sub Γ (F s0)) (hs : Sub Γ Γx) (hn : ∀ s, (F s).length = n := by exact fun _ => rfl) (hf : ∀ x, foldedSetIterable e X.env x = pure x := by intro _; rfl) :
    VS X Γ Γx (.For tg e body [] pos :: rest) E (m >>= fun l => loopM b l s0 >>= fun r => r.on k) :=
  for_coreH (lp := fun l s => loopM b l s >>= fun r => r.on k) F s0 hp hc hi hg hb hk (fun r l => match r with | .nx s => loopM b l s >>= fun r => r.on k | .bk s => k s | .rt t => .ok t)
    (fun s a l => by
      rw [loopM_cons, M.bind_assoc]
      congr 1
      funext r
      cases r <;> rfl)
    (fun r l Γ' ⟨s, e, h⟩ => ⟨s, h, by rw [e]⟩) (fun r l Γ' ⟨s, e, h⟩ => ⟨s, h, by rw [e]⟩) (fun r l Γ' ⟨s, e, h⟩ => ⟨s, h, by rw [e]; rfl⟩) (fun r l o ⟨t, e, h⟩ => ⟨t, by rw [e], h⟩) h0 hs hn hf
/-- a for that is never left -/
theorem vs_forSH {S : Type} {n : Nat} (F : S → List SL) (s0 : S) {tg : Expr} {vs : List Nat} {u : α → List SL → List SL} {m : M (List α)} {body : List Stmt} {b : S → α → M S} {k : S → M τ} (hp : PassesOwn (model X.prog X.w) X.A X.env X.xe) (hc : L2H.HotC X) (hi : VIH X Γ tg e m) (hg : VG X n tg vs u)
    (hb : ∀ s a, VS X (u a (F s)) Γx body (eLp F) (b s a)) (hk : ∀ s, VS X (F s) Γx rest E (k s)) (h0 : Sub Γ (F s0)) (hs : Sub Γ Γx) (hn : ∀ s, (F s).length = n := by exact fun _ => rfl) (hf : ∀ x, foldedSetIterable e X.env x = pure x := by intro _; rfl) :
    VS X Γ Γx (.For tg e body [] pos :: rest) E (m >>= fun l => loopS b l s0 >>= k) :=
  for_coreH (lp := fun l s => loopS b l s >>= k) F s0 hp hc hi hg hb hk (fun r l => loopS b l r >>= k)
    (fun s a l => by rw [loopS_cons, M.bind_assoc])
    (fun r l Γ' h => ⟨r, h, rfl⟩) (fun r l Γ' h => ⟨r, h, rfl⟩) (fun r l Γ' h => h.elim) (fun r l o h => h.elim) h0 hs hn hf

end

/-! ### a def called while an error is handled -/
section
variable {P : Program} {w : World} {K : PySem.W.Frag} {mg : Str → Option Value} {base : Heap}
theorem fn_okH {x qual : Str} {st : Stmt} {f : Addr} {fd : FuncData} {N ps : List Str} {k : Nat} {A ρ : Type} {ea : A → List D} {eo : ρ → O} {m : A → M ρ} (F : Fun K x qual st f fd) (S : FnScope N ps (defScope st)) (hl : ∀ a, (ea a).length = ps.length)
    (body : ∀ (cdv : Value) (Ar : Around) (outer : List Env) (s : Shared) (H : Hp) (E : XK) (p : Addr × Obj), L2H.RoomH k (Ar.deeper (envOfC qual (defScope st) s.heap.objs.size f cdv)) →
      ∀ X, X = L2H.cxH (L2N.CX P w) P w K mg base N qual (defScope st) f cdv Ar outer s H E p → L2H.HotC X → ∀ a, VS X (ent N (ea a)) (anys N.length) (defBody st) (eFn eo) (m a)) :
    L2H.FnH P w K mg base (L2N.CX P w) (k + 1) f fd ps (spF K mg ea eo m) := by
  obtain ⟨oc, od, kV, doc, pm, an, cdv, ct, osl, rfl, lk, hcd⟩ := F.ex
  refine L2H.fn_ofH lk hcd S (fun vs H Q E h => ?_) (fun Ar outer s H vs Q E p hp hr h => ?_)
  · obtain ⟨I, x, _, r, _⟩ := h
    rw [r.length, hl]
  · obtain ⟨I, x, hs, r, o⟩ := h
    refine ⟨_, pss_of, ?_⟩
    refine body cdv Ar outer s H E p hr _ rfl ⟨p, hp, List.mem_singleton.mpr rfl⟩ x (fun cls d _ H' => E cls d H') (L2N.takes_of rfl rfl rfl rfl) I H _ I H [] (Mt.start hs r) _ ?_
    refine o.mono (fun r _ k => ?_) fun ex _ k cl d σ' I' H' T' mt a => ?_
    · exact ⟨fun Γ' σ' I' H' T' z mt => k .non I' H' [] (mt.wd.subl (List.nil_sublist _)) (by rw [show eo r = .imm .non from z]; exact .imm .non), fun _ _ _ _ _ z => z.elim, fun _ _ _ _ _ z => z.elim, fun o v I' H' T' z wd q => k v I' H' T' wd (by rw [← show o = eo r from z]; exact q)⟩
    · exact k cl d I' H' (mt.wd.subl (List.nil_sublist _)) a
end
theorem hotc_suite {X : Cx} {a : Addr} {oe : Obj} {cls : Value} {d : Option Addr} {pn : List (Addr × Obj)} (hz : L2N.Zn cls d oe) (hf : ∃ vs, oe.data = .fields vs) : L2H.HotC (X.suite a ((a, oe) :: pn)) := by
  obtain ⟨vs, h⟩ := hf
  exact ⟨(a, oe), ⟨rfl, vs, h, hz.2.2 vs h⟩, List.mem_cons_self⟩
theorem roomh_suite {X : Cx} {k : Nat} {a : Addr} {pn : List (Addr × Obj)} (r : Room k X.A) : L2H.RoomH k (X.suite a pn).A := ⟨r.dp, r.un⟩
section
variable {X : Cx} {Γ Γx : List SL} {e a b c : Expr} {es : List Expr} {rest : List Stmt} {pos p : Pos} {α β γ : Type} [Enc α] [Enc β] [Enc γ] {w w' : Bool} {τ : Type} {E : Eds τ}
  {k : Nat} {f : Addr} {fd : FuncData} {ps : List Str} {x : Str} {A ρ : Type} {ea : A → List D} {m : A → M ρ} {ma : M A}
/-- f(e, ..): the result is new or plain -/
theorem vo_callH {eo : ρ → O} (F : L2H.FnH X.prog X.w X.K X.mg X.base (L2N.CX X.prog X.w) k f fd ps (spF X.K X.mg ea eo m)) (hr : L2H.RoomH k X.A) (hc : L2H.HotC X) (hm : X.mg x = some (.ref f)) (hk : PySem.W.keepIn X.K (.ref f) = true) (hb : Binds X.K fd ps []) (h : VA false X Γ (e :: es) ea ma) (hg : Gl X x := by rfl)
    (hdb : (x == ("__debug__" : Str)) = false := by decide) (he : starEach (e :: es) X.env = (false, eval e X.env) :: starEach es X.env := by rfl) (hpl : (backTo pos (starEach es X.env)).any (·.1) = false := by rfl) : VO X Γ (.Call (.Name x p) (e :: es) [] pos) eo (ma >>= m) := fun W tk σ I H T mw Q o => by
  refine to_t (L2H.pe_callH (E := WE W) F hr hc hg hm hk hb (fun σ => L2N.passAt tk σ) pa_of hdb he hpl) (h.ap tk mw o.bind (fun a _ o1 vs I1 H1 g1 r1 => ?_) fun _ z => z)
  refine ⟨I1, a, g1.ih, r1, o1.mono (fun r _ k v I' H' T' wd q => k v I' H' T' (by have := Wd.ow g1 (fun _ z => nomatch z) wd; simpa using this) q) fun ex _ k cl d I' H' g at' => k cl d I' H' (g1.trans g) at'⟩
theorem ve_callH [Enc ρ] (F : L2H.FnH X.prog X.w X.K X.mg X.base (L2N.CX X.prog X.w) k f fd ps (spF X.K X.mg ea (fun r : ρ => .imm (enc r)) m)) (hr : L2H.RoomH k X.A) (hc : L2H.HotC X) (hm : X.mg x = some (.ref f)) (hk : PySem.W.keepIn X.K (.ref f) = true) (hb : Binds X.K fd ps []) (h : VA false X Γ (e :: es) ea ma) (hg : Gl X x := by rfl)
    (hdb : (x == ("__debug__" : Str)) = false := by decide) (he : starEach (e :: es) X.env = (false, eval e X.env) :: starEach es X.env := by rfl) (hpl : (backTo pos (starEach es X.env)).any (·.1) = false := by rfl) : VX w X Γ (.Call (.Name x p) (e :: es) [] pos) (ma >>= m) := (vo_callH F hr hc hm hk hb h hg hdb he hpl).ve fun r => O.toD_imm _
end
end Vc
namespace Vc
open PySem PySem.Spec PyProof.Rows L2
open Enc (enc)
/-! ### what the top has written, read off -/
theorem def_mk {K : PySem.W.Frag} {h : Heap} {mg : Str → Option Value} {x : Str} {st : Stmt} {f : Addr} {oc : Value} {od an : Option Addr} {osl : Array (Option Value)} {kV doc pm cdv ct : Value} {ps : List Str} (X : K.In h) (G : h.Ns mainGlobals mg)
    (hb : ∀ (kV doc pm : Value) (an : Option Addr) (cdv ct : Value) (us : List Value), us.length = ps.length → bindArgs (PySem.W.fnOf x x (defArgs st) (defBody st) (defScope st) .none kV doc pm an cdv ct) ⟨us, []⟩ = pure (ps.zip us))
    (a : PySem.W.nsIn K mainGlobals x = some (some (.ref f))) (l : K.lookup f = some ⟨oc, od, .func (PySem.W.fnOf x x (defArgs st) (defBody st) (defScope st) .none kV doc pm an cdv ct), osl⟩) (c : PySem.W.codeIn K cdv x = true) (k : PySem.W.keepIn K (.ref f) = true) :
    DefAt K mg x st f (PySem.W.fnOf x x (defArgs st) (defBody st) (defScope st) .none kV doc pm an cdv ct) ps :=
  ⟨fun_mk l c k, PySem.W.mg_of X G a, (fun_mk l c k).binds hb⟩

theorem ExcCls.mk' {K : PySem.W.Frag} {h : Heap} {mg : Str → Option Value} {x : Str} {C : Addr} (X : K.In h) (G : h.Ns mainGlobals mg) (a : PySem.W.nsIn K mainGlobals x = some (some (.ref C)))
    (q : PySem.W.excIn K C [.type "ValueError", .type "Exception", .type "BaseException", .type "object"] "ValueError.__new__" = true) (k : PySem.W.keepIn K (.ref C) = true) (b : PySem.W.subIn K (.ref C) (.type "BaseException") = some true) (t : PySem.W.typeIn K (.ref C) = some (.type "type")) : ExcCls K mg x :=
  ⟨C, PySem.W.mg_of X G a, q, k, b, t⟩
/-- tables of what is caught -/
def excTab (K : PySem.W.Frag) (tb : ETab) (f : Value → Option Bool) (n : Str) : Bool := tb.all fun e => match PySem.W.nsIn K mainGlobals e.1 with
  | some (some cl) => f cl == some (e.2.contains n)
  | _ => false
theorem excTab_ok {K : PySem.W.Frag} {h : Heap} {mg : Str → Option Value} {tb : ETab} {f : Value → Option Bool} {n : Str} (X : K.In h) (G : h.Ns mainGlobals mg) (q : excTab K tb f n = true) {m : Str} {up : List Str} (hl : tb.lookup m = some up) :
    ∃ cl, PySem.W.nsIn K mainGlobals m = some (some cl) ∧ mg m = some cl ∧ f cl = some (up.contains n) := by
  have := List.all_eq_true.mp q _ (lookup_mem hl)
  dsimp only at this
  split at this
  · rename_i cl e
    exact ⟨cl, e, PySem.W.mg_of X G e, by simpa using this⟩
  · cases this
theorem eex_mk {K : PySem.W.Frag} {h : Heap} {mg : Str → Option Value} {tb : ETab} {n : Str} {C : Addr} (X : K.In h) (G : h.Ns mainGlobals mg) (a : PySem.W.nsIn K mainGlobals n = some (some (.ref C))) (q : excTab K tb (fun cl => PySem.W.exmOne K cl (.ref C)) n = true) : EEx K mg tb n :=
  ⟨C, PySem.W.mg_of X G a, ⟨fun m up hl cl hm => by
    obtain ⟨cl', _, e1, e2⟩ := excTab_ok X G q hl
    rw [hm] at e1
    cases e1
    exact e2⟩⟩
def excCB (K : PySem.W.Frag) (v : Value) : Bool := match v with
  | .ref D => PySem.W.findIn K (.ref D) "__getattribute__" == some (some (.builtin "BaseException.__getattribute__")) && PySem.W.findIn K (.ref D) "__getattr__" == some none && PySem.W.subIn K (.ref D) (.type "BaseException") == some true && PySem.W.hasDictIn K D && PySem.W.findIn K (.ref D) "__class__" == some (some (.builtin "object.__class__")) &&
      PySem.W.specialIn K (.builtin "object.__class__") "__get__" == some (some (.builtin "getset_descriptor.__get__")) && PySem.W.takesIn K (.builtin "object.__class__") == some true && PySem.W.mroIn K D (.type "object") == some true
  | _ => false
theorem excCB_ok {K : PySem.W.Frag} {v : Value} (h : excCB K v = true) : ∃ D, v = .ref D ∧ ExcC K D := by
  cases v with
  | ref D =>
    unfold excCB at h
    simp only [Bool.and_eq_true] at h
    obtain ⟨⟨⟨⟨⟨⟨⟨h1, h2⟩, h3⟩, h4⟩, h5⟩, h6⟩, h7⟩, h8⟩ := h
    exact ⟨D, rfl, ⟨by simpa using h1, by simpa using h2, by simpa using h3, h4, by simpa using h5, by simpa using h6, by simpa using h7, by simpa using h8⟩⟩
  | _ => cases h
def iTab (K : PySem.W.Frag) (tb : ETab) (cv : Value) (n : Str) : Bool := excTab K tb (fun cl => if excCB K cl then PySem.W.kitOne K cl cv else none) n
theorem iok_mk {K : PySem.W.Frag} {h : Heap} {mg : Str → Option Value} {tb : ETab} {n : Str} {cv : Value} (X : K.In h) (G : h.Ns mainGlobals mg) (q : iTab K tb cv n = true) : IOk K mg tb n cv := ⟨fun m up hl => by
    obtain ⟨cl, _, e1, e2⟩ := excTab_ok X G q hl
    split at e2
    · rename_i h2
      obtain ⟨D, rfl, h3⟩ := excCB_ok h2
      exact ⟨D, e1, h3, e2⟩
    · cases e2⟩
theorem iex_mk {K : PySem.W.Frag} {h : Heap} {mg : Str → Option Value} {tb : ETab} {n : Str} {C : Addr} (X : K.In h) (G : h.Ns mainGlobals mg) (a : PySem.W.nsIn K mainGlobals n = some (some (.ref C))) (q : iTab K tb (.ref C) n = true) : IEx K mg tb n := ⟨C, PySem.W.mg_of X G a, iok_mk X G q⟩
/-- a written value read off -/
def rdK (K : PySem.W.Frag) : Nat → Value → Option (V × D)
  | _, .none => some (.non, .non)
  | _, .bool b => some (.bl b, .bl b)
  | _, .int i _ => some (.int i, .int i)
  | _, .str x _ => some (.str x, .str x)
  | 0, _ => none
  | n + 1, .ref a => match K.lookup a with
    | some ⟨.type "tuple", _, .seq its _, _⟩ => if its.size ≤ sizeLine then match (its.toList.map (rdK K n)).foldr (fun x r => match x, r with | some (v, d), some (vs, ds) => some (v :: vs, d :: ds) | _, _ => none) (some ([], [])) with
        | some (_, ds) => some (.ref a, .tup ds)
        | none => none
      else none
    | some ⟨.type "list", none, .seq its _, _⟩ => if its.size ≤ sizeLine then match (its.toList.map (rdK K n)).foldr (fun x r => match x, r with | some (v, d), some (vs, ds) => some (v :: vs, d :: ds) | _, _ => none) (some ([], [])) with
        | some (_, ds) => some (.ref a, .lst ds)
        | none => none
      else none
    | _ => none
  | _, _ => none
theorem rdK_list {K : PySem.W.Frag} {mg : Str → Option Value} {f : Value → Option (V × D)} (hf : ∀ u v d, f u = some (v, d) → RelV v u ∧ ∀ H, R K mg H v d) : ∀ (us : List Value) (vs : List V) (ds : List D), (us.map f).foldr (fun x r => match x, r with | some (v, d), some (vs, ds) => some (v :: vs, d :: ds) | _, _ => none) (some ([], [])) = some (vs, ds) → Vals vs us ∧ ∀ H, Rs K mg H vs ds := by
  intro us
  induction us with
  | nil => intro vs ds h; cases h; exact ⟨.nil, fun _ => .nil⟩
  | cons u us ih =>
    intro vs ds h
    rw [List.map_cons, List.foldr_cons] at h
    split at h
    · rename_i v d vs' ds' e1 e2
      cases h
      obtain ⟨h1, h2⟩ := hf u v d e1
      obtain ⟨h3, h4⟩ := ih _ _ e2
      exact ⟨.cons h1 h3, fun H => .cons (h2 H) (h4 H)⟩
    · cases h
theorem rdK_ok {K : PySem.W.Frag} {mg : Str → Option Value} : ∀ (n : Nat) (u : Value) (v : V) (d : D), rdK K n u = some (v, d) → RelV v u ∧ ∀ H, R K mg H v d := by
  intro n
  induction n with
  | zero =>
    intro u v d h
    cases u <;> first | (cases h; done) | (cases h; exact ⟨by first | rfl | exact ⟨_, rfl⟩, fun H => by constructor⟩)
  | succ n ih =>
    intro u v d h
    cases u with
    | ref a =>
      unfold rdK at h
      split at h
      · rename_i dd its k sl e
        split at h
        · rename_i hz
          split at h
          · rename_i vs ds e2
            cases h
            obtain ⟨h1, h2⟩ := rdK_list ih _ _ _ e2
            exact ⟨rfl, fun H => .tup (.inr ⟨_, its, k, e, rfl, rfl, hz, h1⟩) (h2 H)⟩
          · cases h
        · cases h
      · rename_i its k sl e
        split at h
        · rename_i hz
          split at h
          · rename_i vs ds e2
            cases h
            obtain ⟨h1, h2⟩ := rdK_list ih _ _ _ e2
            exact ⟨rfl, fun H => .lst (.inr ⟨_, its, k, e, rfl, rfl, rfl, hz, h1⟩) (h2 H)⟩
          · cases h
        · cases h
      · cases h
    | _ => first | (cases h; done) | (cases h; exact ⟨by first | rfl | exact ⟨_, rfl⟩, fun H => by constructor⟩)
theorem const_mk {K : PySem.W.Frag} {h : Heap} {mg : Str → Option Value} {x : Str} {q : Addr} {d : D} (X : K.In h) (G : h.Ns mainGlobals mg) (a : PySem.W.nsIn K mainGlobals x = some (some (.ref q))) (r : rdK K 8 (.ref q) = some (.ref q, d)) : ∃ q, mg x = some (.ref q) ∧ ∀ H, R K mg H (.ref q) d :=
  ⟨q, PySem.W.mg_of X G a, (rdK_ok 8 _ _ _ r).2⟩
theorem int_mk {K : PySem.W.Frag} {h : Heap} {mg : Str → Option Value} {x : Str} {i : Int} {t : Tok} (X : K.In h) (G : h.Ns mainGlobals mg) (a : PySem.W.nsIn K mainGlobals x = some (some (.int i t))) : ∃ t, mg x = some (.int i t) := ⟨t, PySem.W.mg_of X G a⟩

/-! ### the law's head -/
def spLaw (K : PySem.W.Frag) : Sp := fun vs H Q E => ∃ (a : Addr) (ns : List Int), vs = [.ref a] ∧ ns.length ≤ 63 ∧ SqL K H a (ns.map V.int) ∧ (Q = fun v _ => v = .bl true) ∧ E = fun _ _ _ => False
theorem law_walk {l : PySem.W.OpenLaw} {q : Program} {loose : List Str} {XP : (Str → Option Value) → Heap → Prop} {YP : World → Heap → Prop} {d : DefRec} {K : Params → PySem.W.Frag} {k : Nat} {m : List Int × Unit → M Bool} (hn : l.most = some 63) (hdf : d.params.defaults = []) (hdn : d.name = "law") (hr : Room k callerA)
    (hY : ∀ (w : World) (h : Heap), YP w h → (K w.params).In h) (hm : ∀ ns : List Int, ns.length ≤ 63 → m (ns, ()) = .ok true)
    (F : ∀ (w : World) (mg : Str → Option Value) (h : Heap), (K w.params).In h → h.Ns mainGlobals mg →
      ∃ (f : Addr) (fd : FuncData), mg "law" = some (.ref f) ∧ (∀ (s : Shared) (u : Value), BindsTo s fd ⟨[u], []⟩ [("script", u)]) ∧ ∀ base : Heap, FnOk l.prog w (K w.params) mg base (L2N.CX l.prog w) k f fd ["script"] (spF (K w.params) mg (eCons eNil) (fun r : Bool => O.imm (enc r)) m)) :
    PySem.W.WalkO q loose XP YP l.row.toRowW d [] (fun f vs => PySem.call f vs) :=
  L2.walk_of (n := 63) (k := k) (x := "script") (CX := fun w => L2N.CX l.prog w) (sp := fun w => spLaw (K w.params)) hn (by decide) hdf hr hY (fun w mg fa h KX G hmg => by
    obtain ⟨f, fd, h1, h2, h3⟩ := F w mg h KX G
    rw [hdn, h1] at hmg
    cases hmg
    refine ⟨fd, h2, fun base _ _ => ⟨fun vs H Q E ⟨a, ns, e, _⟩ => by rw [e]; rfl, fun A outer s H args us vs Q E hr e0 hb hv hs => ?_⟩⟩
    obtain ⟨a, ns, rfl, hl, hS, rfl, rfl⟩ := hs
    exact (h3 base).run A outer s H args us _ _ _ hr e0 hb hv (law_sp hm hl hS)) (fun w H a ns hl _ hS => ⟨a, ns, rfl, hl, hS, rfl, rfl⟩) fun w H s e s' z => cx_no z
end Vc

set_option Elab.async false
set_option linter.all false
set_option maxRecDepth 100000
namespace Vc
open PySem PySem.Spec PyProof.Rows L2
open Enc (enc)
/-! ### the same data at another type -/
def unO {α : Type} : Option α → M α
  | some a => .ok a
  | none => .stuck
@[simp] theorem unO_some {α : Type} (a : α) : unO (some a) = .ok a := rfl
def unL {α β : Type} : α ⊕ β → M α
  | .inl a => .ok a
  | .inr _ => .stuck
def unR {α β : Type} : α ⊕ β → M β
  | .inl _ => .stuck
  | .inr a => .ok a
@[simp] theorem unL_inl {α β : Type} (a : α) : unL (.inl a : α ⊕ β) = .ok a := rfl
@[simp] theorem unR_inr {α β : Type} (a : β) : unR (.inr a : α ⊕ β) = .ok a := rfl
section
variable {X : Cx} {Γ Γx : List SL} {e a b c : Expr} {es : List Expr} {rest : List Stmt} {pos p : Pos} {α β γ : Type} [Enc α] [Enc β] [Enc γ] {w w' : Bool} {τ : Type} {E : Eds τ}
theorem VX.to {m : M α} {f : α → M β} (h : VX w X Γ e m) (hf : ∀ a b, f a = .ok b → enc b = enc a) (hx : ∀ a e, f a ≠ .exc e) : VX w X Γ e (m >>= f) := fun W tk σ I H T mw Q o => by
  refine h W tk σ I H T mw Q (o.bind.mono (fun a _ o1 v I' H' g r => ?_) fun _ _ z => z)
  cases q : f a with
  | ok b =>
    rw [q] at o1
    exact o1 v I' H' g (by rw [hf a b q]; exact r)
  | stuck => rw [q] at o1; exact o1.elim
  | exc ex => exact absurd q (hx a ex)
theorem VX.unO {m : M (Option α)} (h : VX w X Γ e m) : VX w X Γ e (m >>= Vc.unO) := h.to (fun a b q => by cases a <;> cases q; rfl) fun a e q => by cases a <;> cases q
theorem VX.unL {m : M (α ⊕ β)} (h : VX w X Γ e m) : VX w X Γ e (m >>= Vc.unL) := h.to (fun a b q => by cases a <;> cases q; rfl) fun a e q => by cases a <;> cases q
theorem VX.unR {m : M (α ⊕ β)} (h : VX w X Γ e m) : VX w X Γ e (m >>= Vc.unR) := h.to (fun a b q => by cases a <;> cases q; rfl) fun a e q => by cases a <;> cases q
theorem VX.co {m : M α} (f : α → β) (h : VX w X Γ e m) (hf : ∀ a, enc (f a) = enc a := by intro _; rfl) : VX w X Γ e (m >>= fun a => M.ok (f a)) := h.to (fun a b q => by cases q; exact hf a) fun a e q => by cases q
theorem enc_map {f : α → β} (hf : ∀ a, enc (f a) = enc a) (l : List α) : enc (l.map f) = enc l := by
  show D.lst _ = D.lst _
  rw [List.map_map]
  congr 1
  exact List.map_congr_left fun a _ => hf a
theorem ow1_map {f : α → β} (hf : ∀ a, enc (f a) = enc a) (l : List α) : ow1 (l.map f) = ow1 l := by
  unfold ow1
  rw [List.map_map]
  congr 1
  exact List.map_congr_left fun a _ => congrArg O.imm (hf a)
theorem VO.to {o1 : α → O} {o2 : β → O} {m : M α} {f : α → M β} (h : VO X Γ e o1 m) (hf : ∀ a b, f a = .ok b → o2 b = o1 a) (hx : ∀ a e, f a ≠ .exc e) : VO X Γ e o2 (m >>= f) := fun W tk σ I H T mw Q o => by
  refine h W tk σ I H T mw Q (o.bind.mono (fun a _ o3 v I' H' T' wd r => ?_) fun _ _ z => z)
  cases q : f a with
  | ok b =>
    rw [q] at o3
    exact o3 v I' H' T' wd (by rw [hf a b q]; exact r)
  | stuck => rw [q] at o3; exact o3.elim
  | exc ex => exact absurd q (hx a ex)
/-- a new list of other items -/
theorem VO.coL {m : M (List α)} (f : α → β) (h : VO X Γ e ow1 m) (hf : ∀ a, enc (f a) = enc a := by intro _; rfl) : VO X Γ e ow1 (m >>= fun l => M.ok (l.map f)) := h.to (fun a b q => by cases q; exact ow1_map hf a) fun a e q => by cases q
theorem VX.coL {m : M (List α)} (f : α → β) (h : VX w X Γ e m) (hf : ∀ a, enc (f a) = enc a := by intro _; rfl) : VX w X Γ e (m >>= fun l => M.ok (l.map f)) := h.co (fun l => l.map f) fun l => enc_map hf l

/-! ### x in l -/
class Fla (α : Type) [Enc α] [DecidableEq α] : Prop where
  flat : ∀ (K : PySem.W.Frag) (mg : Str → Option Value) (H : Hp) (x : α) (v : V), R K mg H v (enc x) → flatV v = true
  eq : ∀ (K : PySem.W.Frag) (mg : Str → Option Value) (H : Hp) (x y : α) (v u : V), R K mg H v (enc x) → R K mg H u (enc y) → eqV v u = decide (x = y)
instance : Fla Int := ⟨fun _ _ _ _ _ a => by cases a; rfl, fun K mg H x y v u a b => by cases a; cases b; show (x == y) = _; by_cases h : x = y <;> simp [h]⟩
instance : Fla Bool := ⟨fun _ _ _ _ _ a => by cases a; rfl, fun K mg H x y v u a b => by cases a; cases b; cases x <;> cases y <;> rfl⟩
instance : Fla Str := ⟨fun _ _ _ _ _ a => by cases a; rfl, fun K mg H x y v u a b => by cases a; cases b; show (x == y) = _; by_cases h : x = y <;> simp [h]⟩
instance : Fla (Option Int) := ⟨fun _ _ _ x _ a => by cases x <;> cases a <;> rfl, fun K mg H x y v u a b => by
  cases x <;> cases y <;> cases a <;> cases b
  · rfl
  · rfl
  · rfl
  · rename_i x y
    show (x == y) = _
    by_cases h : x = y <;> simp [h]⟩
theorem inV_read [DecidableEq α] [Fla α] {K : PySem.W.Frag} {mg : Str → Option Value} {H : Hp} {x : α} {v : V} (r : R K mg H v (enc x)) : ∀ {l : List α} {xs : List V}, Rs K mg H xs (l.map enc) → xs.all flatV = true ∧ inV v xs = decide (x ∈ l)
  | [], _, .nil => ⟨rfl, rfl⟩
  | y :: l, _, .cons (v := u) (vs := us) a b => by
    obtain ⟨h1, h2⟩ := inV_read r b
    refine ⟨by rw [List.all_cons, Fla.flat K mg H y u a, h1]; rfl, ?_⟩
    unfold inV at h2 ⊢
    rw [List.any_cons, h2, Fla.eq K mg H y x u v a r]
    by_cases h : x = y
    · subst h; simp
    · have h' : ¬ y = x := fun z => h z.symm
      simp [h, h']
section
variable [DecidableEq α] [Fla α]
theorem ve_inL {m1 : M α} {m2 : M (List α)} (ha : VX true X Γ a m1) (hb : VX true X Γ b m2) (hm : behindInMarks .In b = false := by rfl) : VX w X Γ (.Compare a [.In] [b] pos) (m1 >>= fun x => m2 >>= fun l => M.ok (decide (x ∈ l))) := ve_cmp op_in_seq ha hb hm (fun x l H v u r1 r2 Q o => by
  obtain ⟨p, xs, rfl, hq, rs⟩ := r2.lst_inv
  obtain ⟨h1, h2⟩ := inV_read r1 rs
  exact ⟨p, xs, rfl, .inl hq, Fla.flat _ _ _ x v r1, h1, by rw [if_neg Bool.false_ne_true, h2]; exact o⟩) fun _ _ _ z => nomatch z
theorem ve_inNL {m1 : M α} {m2 : M (List α)} (ha : VX true X Γ a m1) (hb : VX true X Γ b m2) (hm : behindInMarks .NotIn b = false := by rfl) : VX w X Γ (.Compare a [.NotIn] [b] pos) (m1 >>= fun x => m2 >>= fun l => M.ok (!decide (x ∈ l))) := ve_cmp op_notIn_seq ha hb hm (fun x l H v u r1 r2 Q o => by
  obtain ⟨p, xs, rfl, hq, rs⟩ := r2.lst_inv
  obtain ⟨h1, h2⟩ := inV_read r1 rs
  exact ⟨p, xs, rfl, .inl hq, Fla.flat _ _ _ x v r1, h1, by rw [if_pos rfl, h2]; exact o⟩) fun _ _ _ z => nomatch z
theorem ve_inT {m1 : M α} {m2 : M (Tup α)} (ha : VX true X Γ a m1) (hb : VX true X Γ b m2) (hm : behindInMarks .In b = false := by rfl) : VX w X Γ (.Compare a [.In] [b] pos) (m1 >>= fun x => m2 >>= fun l => M.ok (decide (x ∈ l.l))) := ve_cmp op_in_seq ha hb hm (fun x l H v u r1 r2 Q o => by
  obtain ⟨p, xs, rfl, hq, rs⟩ := r2.tup_inv
  obtain ⟨h1, h2⟩ := inV_read r1 rs
  exact ⟨p, xs, rfl, .inr hq, Fla.flat _ _ _ x v r1, h1, by rw [if_neg Bool.false_ne_true, h2]; exact o⟩) fun _ _ _ z => nomatch z
theorem ve_inNT {m1 : M α} {m2 : M (Tup α)} (ha : VX true X Γ a m1) (hb : VX true X Γ b m2) (hm : behindInMarks .NotIn b = false := by rfl) : VX w X Γ (.Compare a [.NotIn] [b] pos) (m1 >>= fun x => m2 >>= fun l => M.ok (!decide (x ∈ l.l))) := ve_cmp op_notIn_seq ha hb hm (fun x l H v u r1 r2 Q o => by
  obtain ⟨p, xs, rfl, hq, rs⟩ := r2.tup_inv
  obtain ⟨h1, h2⟩ := inV_read r1 rs
  exact ⟨p, xs, rfl, .inr hq, Fla.flat _ _ _ x v r1, h1, by rw [if_pos rfl, h2]; exact o⟩) fun _ _ _ z => nomatch z
theorem vt_inL {m1 : M α} {m2 : M (List α)} (ha : VX true X Γ a m1) (hb : VX true X Γ b m2) (hm : behindInMarks .In b = false := by rfl) : VT X Γ (.Compare a [.In] [b] pos) (m1 >>= fun x => m2 >>= fun l => M.ok (decide (x ∈ l))) := vt_cmp op_in_seq ha hb hm (fun x l H v u r1 r2 Q o => by
  obtain ⟨p, xs, rfl, hq, rs⟩ := r2.lst_inv
  obtain ⟨h1, h2⟩ := inV_read r1 rs
  exact ⟨p, xs, rfl, .inl hq, Fla.flat _ _ _ x v r1, h1, by rw [if_neg Bool.false_ne_true, h2]; exact o⟩) fun _ _ _ z => nomatch z
theorem vt_inNL {m1 : M α} {m2 : M (List α)} (ha : VX true X Γ a m1) (hb : VX true X Γ b m2) (hm : behindInMarks .NotIn b = false := by rfl) : VT X Γ (.Compare a [.NotIn] [b] pos) (m1 >>= fun x => m2 >>= fun l => M.ok (!decide (x ∈ l))) := vt_cmp op_notIn_seq ha hb hm (fun x l H v u r1 r2 Q o => by
  obtain ⟨p, xs, rfl, hq, rs⟩ := r2.lst_inv
  obtain ⟨h1, h2⟩ := inV_read r1 rs
  exact ⟨p, xs, rfl, .inl hq, Fla.flat _ _ _ x v r1, h1, by rw [if_pos rfl, h2]; exact o⟩) fun _ _ _ z => nomatch z
theorem vt_inT {m1 : M α} {m2 : M (Tup α)} (ha : VX true X Γ a m1) (hb : VX true X Γ b m2) (hm : behindInMarks .In b = false := by rfl) : VT X Γ (.Compare a [.In] [b] pos) (m1 >>= fun x => m2 >>= fun l => M.ok (decide (x ∈ l.l))) := vt_cmp op_in_seq ha hb hm (fun x l H v u r1 r2 Q o => by
  obtain ⟨p, xs, rfl, hq, rs⟩ := r2.tup_inv
  obtain ⟨h1, h2⟩ := inV_read r1 rs
  exact ⟨p, xs, rfl, .inr hq, Fla.flat _ _ _ x v r1, h1, by rw [if_neg Bool.false_ne_true, h2]; exact o⟩) fun _ _ _ z => nomatch z
theorem vt_inNT {m1 : M α} {m2 : M (Tup α)} (ha : VX true X Γ a m1) (hb : VX true X Γ b m2) (hm : behindInMarks .NotIn b = false := by rfl) : VT X Γ (.Compare a [.NotIn] [b] pos) (m1 >>= fun x => m2 >>= fun l => M.ok (!decide (x ∈ l.l))) := vt_cmp op_notIn_seq ha hb hm (fun x l H v u r1 r2 Q o => by
  obtain ⟨p, xs, rfl, hq, rs⟩ := r2.tup_inv
  obtain ⟨h1, h2⟩ := inV_read r1 rs
  exact ⟨p, xs, rfl, .inr hq, Fla.flat _ _ _ x v r1, h1, by rw [if_pos rfl, h2]; exact o⟩) fun _ _ _ z => nomatch z
end
end
end Vc

set_option Elab.async false
set_option linter.all false
set_option maxRecDepth 100000
set_option maxHeartbeats 1000000
/-! ### list(..) over a source of new pairs -/
namespace PySem
namespace TS
open PySem
structure TSrc (prog : Program) (w : World) (A : Around) (I S : Addr) (wr : List Addr) (n : Nat) (Rel : Nat → Value → Value → Prop) (St : Nat → Heap → Prop) : Prop where
  off : S ∉ wr
  frame : ∀ i h h', St i h → (∀ b o, b ≠ S → h.get? b = some o → h'.get? b = some o) → St i h'
  item : ∀ i (s : Shared) (Q : Option Value → Shared → Prop) (E : Value → Shared → Prop), i < n → St i s.heap → S < s.heap.objs.size →
    (∀ k v h' tk, Rel i k v → h'.get? s.heap.objs.size = some { cls := .type "tuple", data := .seq #[k, v] } → St (i + 1) h' → (∀ b o, b ∉ wr → s.heap.get? b = some o → h'.get? b = some o) → Q (some (.ref s.heap.objs.size)) { s with heap := h', toks := tk }) → wpAny (model prog w) A (pyNext (.ref I)) Q E s
  done : ∀ (s : Shared) (Q : Option Value → Shared → Prop) (E : Value → Shared → Prop), St n s.heap →
    (∀ h' tk, (∀ b o, b ∉ wr → s.heap.get? b = some o → h'.get? b = some o) → Q none { s with heap := h', toks := tk }) → wpAny (model prog w) A (pyNext (.ref I)) Q E s
structure TG (Rel : Nat → Value → Value → Prop) (lo : Nat) (h : Heap) (as : List Addr) : Prop where
  rise : as.Pairwise (· < ·)
  above : ∀ a ∈ as, lo ≤ a
  pairs : ∀ (j : Nat) (a : Addr), as[j]? = some a → ∃ k v, Rel j k v ∧ h.get? a = some { cls := .type "tuple", data := .seq #[k, v] }
theorem TG.there {Rel : Nat → Value → Value → Prop} {lo : Nat} {h : Heap} {as : List Addr} (g : TG Rel lo h as) {a : Addr} (ha : a ∈ as) : a < h.objs.size := by
  obtain ⟨j, hj⟩ := List.mem_iff_getElem?.mp ha
  obtain ⟨_, _, _, e⟩ := g.pairs j a hj
  exact Heap.lt_size e
section
variable {prog : Program} {w : World} {A : Around} {s : Shared} {R : Result → Shared → Prop} {I S : Addr} {wr : List Addr} {n : Nat} {Rel : Nat → Value → Value → Prop} {St : Nat → Heap → Prop}
theorem t_loop (W : TSrc prog w A.in1 I S wr n Rel St) {lo : Nat} (hSl : S < lo) (hwl : ∀ b ∈ wr, b < lo) (hn : n ≤ sizeLine) (res : Value) {h₁ : Heap}
    (hR : ∀ h' tk acc c as, (∀ b o, b ≠ S → b ∉ wr → h₁.get? b = some o → h'.get? b = some o) → h'.get? S = some { cls := .type "list", dict := none, data := .seq acc c, slots := #[] } → as.length = n → TG Rel lo h' as →
      acc.toList = as.map Value.ref → R (.ok (.ret res)) { s with heap := h', toks := tk }) :
    ∀ (k i : Nat) (h : Heap) (tk c : Nat) (acc : Array Value) (as : List Addr), n - i = k → i ≤ n → St i h → (∀ b o, b ≠ S → b ∉ wr → h₁.get? b = some o → h.get? b = some o) →
      h.get? S = some { cls := .type "list", dict := none, data := .seq acc c, slots := #[] } → acc.toList = as.map Value.ref → as.length = i → TG Rel lo h as → lo ≤ h.objs.size →
      codeAny (model prog w) A (.builtin "list.extend.loop" ⟨[.ref S, .ref I, res], []⟩) R { s with heap := h, toks := tk } := by
  have nw : ∀ {a : Addr}, lo ≤ a → a ∉ wr := fun {a} h z => absurd (hwl a z) (Nat.not_lt.mpr h)
  intro k
  induction k with
  | zero =>
    intro i h tk c acc as hk hi hst hkeep hS hacc hal hG hIs
    have hin : i = n := by omega
    subst hin
    refine codeAny_builtin PySem.F.entry_extend_loop ?_
    rw [Around.under_plainId PySem.F.plain_extend_loop _]
    show wpAny _ A.in1 (pyNext (.ref I) >>= _) _ _ _
    refine wpAny_bind (W.done { s with heap := h, toks := tk } _ _ hst fun h' tk' he => ?_)
    refine wpAny_pure (hR h' tk' acc c as (fun b o h1 h2 e => he b o h2 (hkeep b o h1 h2 e)) (he S _ W.off hS) (by omega) ⟨hG.rise, hG.above, fun j a hj => ?_⟩ hacc)
    obtain ⟨key, x, e2, e3⟩ := hG.pairs j a hj
    exact ⟨key, x, e2, he a _ (nw (hG.above a (List.mem_of_getElem? hj))) e3⟩
  | succ k ih =>
    intro i h tk c acc as hk hi hst hkeep hS hacc hal hG hIs
    have hlt : i < n := by omega
    have hsz : acc.size = i := by rw [← Array.length_toList, hacc, List.length_map, hal]
    refine codeAny_builtin PySem.F.entry_extend_loop ?_
    rw [Around.under_plainId PySem.F.plain_extend_loop _]
    show wpAny _ A.in1 (pyNext (.ref I) >>= _) _ _ _
    refine wpAny_bind (W.item i { s with heap := h, toks := tk } _ _ hlt hst (Heap.lt_size hS) fun key x h' tk' hkey ht hst' hkp => ?_)
    dsimp only at ht hkp ⊢
    have hS' := hkp S _ W.off hS
    have up : ∀ b o, b ≠ S → h'.get? b = some o → (h'.update S (Obj.mapSeq (·.push (Value.ref h.objs.size)))).get? b = some o := fun b o hb e => (Heap.get?_update_other _ _ (Ne.symm hb)).trans e
    have hSl' : S < h.objs.size := Heap.lt_size hS
    show wpAny _ A.in1 (updateSeq S (·.push (Value.ref h.objs.size)) >>= _) _ _ _
    refine wpAny_bind ?_
    refine wpAny_updateSeq hS' rfl (wpAny_pure ⟨plainId_quiet PySem.F.plain_extend_loop _, ih (i + 1) _ tk' _ (acc.push (Value.ref h.objs.size)) (as ++ [h.objs.size]) (by omega) hlt (W.frame _ _ _ hst' up)
      (fun b o h1 h2 e => up b o h1 (hkp b o h2 (hkeep b o h1 h2 e))) (Heap.get?_update_self _ hS' rfl) (by rw [Array.toList_push, hacc, List.map_append]; rfl) (by rw [List.length_append, hal]; rfl) ⟨?_, ?_, ?_⟩ ?_⟩) (by rw [hsz]; omega) (by show (acc.push (Value.ref h.objs.size)).size ≤ sizeLine + 1; rw [Array.size_push, hsz]; omega)
    · refine List.pairwise_append.mpr ⟨hG.rise, List.pairwise_singleton _ _, fun a ha b hb => ?_⟩
      rw [List.mem_singleton.mp hb]
      exact hG.there ha
    · intro a ha
      rcases List.mem_append.mp ha with ha | ha
      · exact hG.above a ha
      · rw [List.mem_singleton.mp ha]; exact hIs
    · intro j b hj
      rcases Nat.lt_trichotomy j as.length with h1 | h1 | h1
      · rw [List.getElem?_append_left h1] at hj
        obtain ⟨key', x', e2, e3⟩ := hG.pairs j b hj
        have hb := hG.above b (List.mem_of_getElem? hj)
        exact ⟨key', x', e2, up b _ (Nat.ne_of_gt (Nat.lt_of_lt_of_le hSl hb)) (hkp b _ (nw hb) e3)⟩
      · subst h1
        have hb : h.objs.size = b := by simpa using hj
        subst hb
        exact ⟨key, x, by rw [hal]; exact hkey, up _ _ (Nat.ne_of_gt hSl') ht⟩
      · have hnone : (as ++ [h.objs.size])[j]? = none := List.getElem?_eq_none (by rw [List.length_append, List.length_singleton]; omega)
        rw [hnone] at hj; cases hj
    · have e : (h'.update S (Obj.mapSeq (·.push (Value.ref h.objs.size)))).get? h.objs.size = _ := up _ _ (Nat.ne_of_gt hSl') ht
      exact Nat.le_of_lt (Nat.lt_of_le_of_lt hIs (Heap.lt_size e))
end
section
variable {prog : Program} {w : World} {A : Around} {E : Value → Shared → Prop} {s : Shared} {I : Addr} {n : Nat} {Rel : Nat → Value → Value → Prop} {T : String}
theorem t_call {wr : List Addr} {St : Nat → Heap → Prop} {Q : Value → Shared → Prop} (hT : ∀ s' : Shared, (∀ b o, b ≠ s.heap.objs.size → s.heap.get? b = some o → s'.heap.get? b = some o) → s'.TypeIs (.ref I) T) (hIl : I < s.heap.objs.size)
    (hit : ∀ (A : Around) (s' : Shared) (Q : Value → Shared → Prop) (E : Value → Shared → Prop), (∀ b o, b ≠ s.heap.objs.size → s.heap.get? b = some o → s'.heap.get? b = some o) → Q (.ref I) s' → wpAny (model prog w) A (pyIter (.ref I)) Q E s')
    (h2 : (Value.type T == Value.type "list") = false) (h3 : (Value.type T == Value.type "tuple") = false) (hl : typeLookup (.type T) "__len__" = pure none) (hh : typeLookup (.type T) "__length_hint__" = pure none)
    (W : TSrc prog w A.in1.in1 I s.heap.objs.size wr n Rel St) (hwl : ∀ b ∈ wr, b < s.heap.objs.size) (hst : ∀ h', (∀ b o, b ≠ s.heap.objs.size → s.heap.get? b = some o → h'.get? b = some o) → St 0 h') (hn : n ≤ sizeLine)
    (hQ : ∀ h' tk acc c as, (∀ b o, b ∉ wr → s.heap.get? b = some o → h'.get? b = some o) → h'.get? s.heap.objs.size = some { cls := .type "list", dict := none, data := .seq acc c, slots := #[] } → as.length = n → TG Rel (s.heap.objs.size + 1) h' as →
      acc.toList = as.map Value.ref → Q (.ref s.heap.objs.size) { s with heap := h', toks := tk }) :
    wpAny (model prog w) A (call (.type "list") [.ref I]) Q E s := by
  refine callType_codes (Q₁ := fun obj s₁ => obj = .ref s.heap.objs.size ∧ s₁ = { s with heap := s.heap.push { cls := .type "list", data := .seq #[] } }) PySem.F.called_list (PySem.F.typeCall_list_1 _) PySem.F.entry_list_init
    (code_list_new _ ⟨rfl, rfl⟩) fun obj s₁ h₁ => ?_
  obtain ⟨rfl, rfl⟩ := h₁
  have hS : (s.heap.push { cls := .type "list", data := .seq #[] }).get? s.heap.objs.size = some { cls := .type "list", data := .seq #[] } := Heap.get?_push_size _ rfl
  have hSI : s.heap.objs.size ≠ I := Nat.ne_of_gt hIl
  refine ⟨⟨_, hS, rfl⟩, PySem.F.args_list_init_2 _ _, ?_⟩
  show wpAny _ A.in1.in1 (do let old ← Builtin.List.listItems (.ref s.heap.objs.size); Builtin.List.listUpdate (.ref s.heap.objs.size) (fun _ => #[]); letGo old.toList.reverse; Builtin.List.listExtendWith (.ref s.heap.objs.size) (.ref I) .none) _ _ _
  refine wpAny_bind ?_
  unfold Builtin.List.listItems
  refine wpAny_bind (wpAny_seqItems hS rfl (wpAny_pure ?_))
  show wpAny _ A.in1.in1 (updateSeq s.heap.objs.size (fun _ => #[]) >>= fun _ => letGo (#[] : Array Value).toList.reverse >>= fun _ => Builtin.List.listExtendWith (.ref s.heap.objs.size) (.ref I) .none) _ _ _
  refine wpAny_bind (wpAny_updateSeq hS rfl ?_)
  have hS2 := Heap.get?_update_self (Obj.mapSeq (fun _ => (#[] : Array Value))) hS rfl
  refine wpAny_bind (wpAny_letGo ?_)
  unfold Builtin.List.listExtendWith
  have up : ∀ (h : Heap) (f : Obj → Obj), (∀ b o, b ≠ s.heap.objs.size → s.heap.get? b = some o → h.get? b = some o) → ∀ b o, b ≠ s.heap.objs.size → s.heap.get? b = some o → (h.update s.heap.objs.size f).get? b = some o := fun h f q b o hb e =>
    (Heap.get?_update_other _ _ (Ne.symm hb)).trans (q b o hb e)
  have k1 : ∀ b o, b ≠ s.heap.objs.size → s.heap.get? b = some o → (s.heap.push { cls := .type "list", data := .seq #[] }).get? b = some o := fun b o _ e => Heap.get?_push_of_some _ e
  have k2 := up _ (Obj.mapSeq (fun _ => (#[] : Array Value))) k1
  refine wpAny_bind (wpAny_typeOf (hT _ k2) ?_)
  have h1 : Builtin.List.listSameRef (.ref s.heap.objs.size) (.ref I) = false := by simp [Builtin.List.listSameRef, hSI]
  simp only [h1, h2, h3, Bool.or_false, Bool.false_eq_true, if_false]
  refine wpAny_bind (hit _ _ _ _ k2 ?_)
  refine wpAny_bind (wpAny_holding ?_)
  unfold Builtin.List.listLengthHint
  refine wpAny_bind (wpAny_specialOf (hT _ k2) hl ?_)
  show wpAny _ A.in1.in1 (specialOf (Value.ref I) (Str.ofString "__length_hint__") >>= _) _ _ _
  refine wpAny_bind (wpAny_specialOf (hT _ k2) hh ?_)
  refine wpAny_pure ?_
  show wpAny _ A.in1.in1 (rule "list.extend.makes-room" >>= fun _ => Builtin.List.listTouch (.ref s.heap.objs.size) >>= fun _ =>
    again (.builtin "list.extend.loop" ⟨[.ref s.heap.objs.size, .ref I, .none], []⟩)) _ _ _
  refine wpAny_bind (wpAny_rule ?_)
  refine wpAny_bind ?_
  show wpAny _ A.in1.in1 (updateSeq s.heap.objs.size (·.push .none) >>= fun _ => updateSeq s.heap.objs.size (·.pop)) _ _ _
  refine wpAny_bind (wpAny_updateSeq hS2 rfl ?_)
  have hS3 := Heap.get?_update_self (Obj.mapSeq (·.push Value.none)) hS2 rfl
  refine wpAny_updateSeq (hz := by seq_fits) hS3 rfl ?_
  have hS4 := Heap.get?_update_self (Obj.mapSeq (·.pop)) hS3 rfl
  have k4 := up _ (Obj.mapSeq (·.pop)) (up _ (Obj.mapSeq (·.push Value.none)) k2)
  refine wpAny_pure ⟨plainId_quiet PySem.F.plain_extend_loop _, ?_⟩
  exact t_loop (A := A.in1) (h₁ := s.heap) (s := s) (lo := s.heap.objs.size + 1) (W) (Nat.lt_succ_self _) (fun b hb => Nat.lt_succ_of_lt (hwl b hb)) hn .none
    (fun h' tk acc c as hk hS' hl' hG hacc => ⟨rfl, hQ h' tk acc c as (fun b o hb e => hk b o (Nat.ne_of_lt (Heap.lt_size e)) hb e) hS' hl' hG hacc⟩)
    n 0 _ s.toks _ #[] [] (Nat.sub_zero _) (Nat.zero_le _) (hst _ k4) (fun b o hb _ e => k4 b o hb e) hS4 rfl rfl ⟨List.Pairwise.nil, (fun _ ha => nomatch ha), (fun j a hj => by simp at hj)⟩ (Heap.lt_size hS4)
end
theorem enum_len0 : typeLookup (.type "enumerate") "__len__" = pure none := by rw [typeLookup_type, builtinLookup_eq_fast]; kernel_rfl
theorem enum_hint0 : typeLookup (.type "enumerate") "__length_hint__" = pure none := by rw [typeLookup_type, builtinLookup_eq_fast]; kernel_rfl
theorem zip_len0 : typeLookup (.type "zip") "__len__" = pure none := by rw [typeLookup_type, builtinLookup_eq_fast]; kernel_rfl
theorem zip_hint0 : typeLookup (.type "zip") "__length_hint__" = pure none := by rw [typeLookup_type, builtinLookup_eq_fast]; kernel_rfl
section
open PySem.W
variable {prog : Program} {w : World} {A : Around}
def StE (e it l S : Addr) (items : Array Value) (i : Nat) (h : Heap) : Prop :=
  h.IsListIter it l i ∧ h.IsList l items ∧ ((∃ old, IsEnum h e it i old) ∨ ∃ old T f oT, IsEnumHeld h e it i old T f ∧ h.get? T = some oT ∧ T ≠ e ∧ T ≠ it ∧ T ≠ S)
theorem src_enum {e it l S : Addr} (hA : A.handled = none) (hei : e ≠ it) (hle : l ≠ e) (hli : l ≠ it) (hSe : S ≠ e) (hSi : S ≠ it) (hSl : S ≠ l) (items : Array Value) :
    TSrc prog w A e S [e, it] items.size (fun i k v => (∃ t, k = .int i t) ∧ items[i]? = some v) (StE e it l S items) where
  off := by simp [hSe, hSi]
  frame := fun i g1 g2 ⟨st1, st2, st3⟩ kp => ⟨st1.at fun o y => kp _ o (Ne.symm hSi) y, st2.at fun o y => kp _ o (Ne.symm hSl) y, st3.elim (fun ⟨old, y⟩ => .inl ⟨old, kp _ _ (Ne.symm hSe) y⟩)
    fun ⟨old, T, f, oT, y, hT, q1, q2, q3⟩ => .inr ⟨old, T, f, oT, kp _ _ (Ne.symm hSe) y, kp _ _ q3 hT, q1, q2, q3⟩⟩
  item := fun i sa Qa Ea hi ⟨st1, st2, st3⟩ hds hQ => by
    have eg := Array.getElem?_eq_getElem hi
    have ei : ((i + 1 : Nat) : Int) = (i : Int) + 1 := by omega
    have nn : sa.heap.objs.size ≠ it := let ⟨_, y, _⟩ := st1; Nat.ne_of_gt (Heap.lt_size y)
    rcases st3 with ⟨old, he⟩ | ⟨old, T, f, oT, he, hT, q1, q2, q3⟩
    · refine wpAny_pyNext_enum_item he st1 st2 eg hei fun g1 y1 y2 y3 y4 y5 => ?_
      exact hQ _ _ g1 (sa.toks + 1) ⟨⟨_, rfl⟩, eg⟩ y3 ⟨y2, st2.at fun o y => y5 l o hle hli y, .inr ⟨_, sa.heap.objs.size, false, _, (by rw [ei]; exact y1), y3, Nat.ne_of_gt (Heap.lt_size he), nn, Nat.ne_of_gt hds⟩⟩
        fun b o hb y => y5 b o (fun z => hb (by simp [z])) (fun z => hb (by simp [z])) y
    · refine wpAny_pyNext_enum_item_held he hT q1 q2 st1 st2 eg hei fun g1 y1 y2 y3 y4 y5 => ?_
      exact hQ _ _ g1 (sa.toks + 1) ⟨⟨_, rfl⟩, eg⟩ y3 ⟨y2, st2.at fun o y => y5 l o hle hli y, .inr ⟨old, T, true, oT, (by rw [ei]; exact y1), y5 _ _ q1 q2 hT, q1, q2, q3⟩⟩
        fun b o hb y => y5 b o (fun z => hb (by simp [z])) (fun z => hb (by simp [z])) y
  done := fun sa Qa Ea ⟨st1, st2, st3⟩ hQ => by
    have eg : items[items.size]? = none := Array.getElem?_eq_none (Nat.le_refl _)
    rcases st3 with ⟨old, he⟩ | ⟨old, T, f, oT, he, hT, q1, q2, q3⟩
    · exact wpAny_pyNext_enum_end hA he st1 st2 eg fun g1 y5 => hQ g1 sa.toks fun b o hb y => y5 b o (fun z => hb (by simp [z])) y
    · exact wpAny_pyNext_enum_end_held hA he st1 st2 eg fun g1 y5 => hQ g1 sa.toks fun b o hb y => y5 b o (fun z => hb (by simp [z])) y
def StZ (z TI TO i1 i2 l1 l2 S : Addr) (xs ys : Array Value) (i : Nat) (h : Heap) : Prop :=
  IsPair h TI (.ref i1) (.ref i2) ∧ h.IsListIter i1 l1 i ∧ h.IsListIter i2 l2 i ∧ h.IsList l1 xs ∧ h.IsList l2 ys ∧
      ((IsZip h z TI TO .none ∧ ∃ a b, IsPair h TO a b) ∨ ∃ T f oT, IsZipHeld h z TI TO T f ∧ h.get? T = some oT ∧ T ≠ z ∧ T ≠ i1 ∧ T ≠ i2 ∧ T ≠ S)
theorem src_zip {z TI TO i1 i2 l1 l2 S : Addr} (hA : A.handled = none) (D : ZipApart z TI TO i1 i2 l1 l2) (hS : ∀ b ∈ [z, TI, TO, i1, i2, l1, l2], S ≠ b) (xs ys : Array Value) :
    TSrc prog w A z S [z, TO, i1, i2] (min xs.size ys.size) (fun i k v => xs[i]? = some k ∧ ys[i]? = some v) (StZ z TI TO i1 i2 l1 l2 S xs ys) where
  off := fun hm => hS S (by simp only [List.mem_cons, List.not_mem_nil, or_false] at hm ⊢; rcases hm with e | e | e | e <;> simp [e]) rfl
  frame := fun i g1 g2 ⟨st1, st2, st3, st4, st5, st6⟩ kp => by
    have ne : ∀ b ∈ [z, TI, TO, i1, i2, l1, l2], b ≠ S := fun b hb => (hS b hb).symm
    refine ⟨kp _ _ (ne _ (by simp)) st1, st2.at fun o y => kp _ o (ne _ (by simp)) y, st3.at fun o y => kp _ o (ne _ (by simp)) y, st4.at fun o y => kp _ o (ne _ (by simp)) y, st5.at fun o y => kp _ o (ne _ (by simp)) y, ?_⟩
    rcases st6 with ⟨hz, a, b, hTO⟩ | ⟨T, f, oT, hz, hT, q1, q2, q3, q4⟩
    · exact .inl ⟨kp _ _ (ne _ (by simp)) hz, a, b, kp _ _ (ne _ (by simp)) hTO⟩
    · exact .inr ⟨T, f, oT, kp _ _ (ne _ (by simp)) hz, kp _ _ q4 hT, q1, q2, q3, q4⟩
  item := fun i sa Qa Ea hi ⟨st1, st2, st3, st4, st5, st6⟩ hds hQ => by
    have ga := Array.getElem?_eq_getElem (Nat.lt_of_lt_of_le hi (Nat.min_le_left ..))
    have gb := Array.getElem?_eq_getElem (Nat.lt_of_lt_of_le hi (Nat.min_le_right ..))
    have lt : ∀ {c o}, sa.heap.get? c = some o → sa.heap.objs.size ≠ c := fun e => Nat.ne_of_gt (Heap.lt_size e)
    have n1 : sa.heap.objs.size ≠ i1 := let ⟨_, e, _⟩ := st2; lt e
    have n2 : sa.heap.objs.size ≠ i2 := let ⟨_, e, _⟩ := st3; lt e
    rcases st6 with ⟨hz, a, b, hTO⟩ | ⟨T, f, oT, hz, hT, q1, q2, q3, q4⟩
    · refine wpAny_pyNext_zip_item D hz st1 hTO st2 st3 st4 st5 ga gb fun g1 a1 a2 a3 a4 a5 a6 kp => ?_
      exact hQ _ _ g1 sa.toks ⟨ga, gb⟩ a5
        ⟨kp _ _ D.TIz D.TITO D.TIi1 D.TIi2 st1, a3, a4, st4.at fun o e => kp _ o D.l1z D.l1TO D.l1i1 D.l1i2 e, st5.at fun o e => kp _ o D.l2z D.l2TO D.l2i1 D.l2i2 e, .inr ⟨sa.heap.objs.size, false, _, a1, a5, lt hz, n1, n2, Nat.ne_of_gt hds⟩⟩
        fun c o hc e => kp c o (fun x => hc (by simp [x])) (fun x => hc (by simp [x])) (fun x => hc (by simp [x])) (fun x => hc (by simp [x])) e
    · refine wpAny_pyNext_zip_item_held D hz hT st1 st2 st3 st4 st5 ga gb fun g1 a1 a3 a4 a5 a6 kp => ?_
      exact hQ _ _ g1 sa.toks ⟨ga, gb⟩ a5
        ⟨kp _ _ D.TIz D.TIi1 D.TIi2 st1, a3, a4, st4.at fun o e => kp _ o D.l1z D.l1i1 D.l1i2 e, st5.at fun o e => kp _ o D.l2z D.l2i1 D.l2i2 e, .inr ⟨T, true, oT, a1, kp _ _ q1 q2 q3 hT, q1, q2, q3, q4⟩⟩
        fun c o hc e => kp c o (fun x => hc (by simp [x])) (fun x => hc (by simp [x])) (fun x => hc (by simp [x])) e
  done := fun sa Qa Ea ⟨st1, st2, st3, st4, st5, st6⟩ hQ => by
    have hend : xs[min xs.size ys.size]? = none ∨ ys[min xs.size ys.size]? = none := (Nat.le_total xs.size ys.size).elim (fun h => .inl (Array.getElem?_eq_none (by rw [Nat.min_eq_left h]; exact Nat.le_refl _))) fun h => .inr (Array.getElem?_eq_none (by rw [Nat.min_eq_right h]; exact Nat.le_refl _))
    rcases st6 with ⟨hz, a, b, hTO⟩ | ⟨T, f, oT, hz, hT, q1, q2, q3, q4⟩
    · exact wpAny_pyNext_zip_end hA D hz st1 hTO st2 st3 st4 st5 hend fun g1 kp => hQ g1 sa.toks fun c o hc e => kp c o (fun x => hc (by simp [x])) (fun x => hc (by simp [x])) (fun x => hc (by simp [x])) (fun x => hc (by simp [x])) e
    · exact wpAny_pyNext_zip_end_held hA D hz hT st1 st2 st3 st4 st5 hend fun g1 kp => hQ g1 sa.toks fun c o hc e => kp c o (fun x => hc (by simp [x])) (fun x => hc (by simp [x])) (fun x => hc (by simp [x])) e
end
end TS
end PySem

namespace Vc
open PySem PySem.Spec PyProof.Rows L2
open Enc (enc)
/-- new pairs at their addresses -/
def layP : Hp → List Addr → List (V × V) → Hp
  | H, a :: as, p :: ps => layP (upd H a (.tup [p.1, p.2])) as ps
  | H, _, _ => H
theorem layP_off {b : Addr} : ∀ (as : List Addr) (ps : List (V × V)) (H : Hp), b ∉ as → layP H as ps b = H b
  | [], _, _, _ => rfl
  | _ :: _, [], _, _ => rfl
  | a :: as, p :: ps, H, h => by
    show layP (upd H a (.tup [p.1, p.2])) as ps b = H b
    rw [layP_off as ps _ fun z => h (List.mem_cons_of_mem _ z), upd_ne fun z => h (by rw [z]; exact List.mem_cons_self)]
theorem layP_at : ∀ (as : List Addr) (ps : List (V × V)) (H : Hp), as.Nodup → ∀ (j : Nat) (a : Addr) (p : V × V), as[j]? = some a → ps[j]? = some p → layP H as ps a = some (.tup [p.1, p.2]) := by
  intro as
  induction as with
  | nil => intro ps H _ j a p h _; simp at h
  | cons b as ih =>
    intro ps H hn j a p h1 h2
    cases ps with
    | nil => simp at h2
    | cons q ps =>
      show layP (upd H b (.tup [q.1, q.2])) as ps a = _
      cases j with
      | zero =>
        cases h1; cases h2
        rw [layP_off as ps _ (List.nodup_cons.mp hn).1, upd_same]
      | succ j => exact ih ps _ (List.nodup_cons.mp hn).2 j a p (by simpa using h1) (by simpa using h2)
theorem vals_ref : ∀ as : List Addr, Vals (as.map V.ref) (as.map Value.ref)
  | [] => .nil
  | _ :: as => .cons rfl (vals_ref as)
theorem laid {X : Cx} {pins : List (Addr × Obj)} {σ : L2.St} {H : Hp} {s : Shared} {h' : Heap} {tk : Nat} {Rel : Nat → Value → Value → Prop} {ps : List (V × V)} {acc : Array Value} {c : Nat} {as : List Addr} {n : Nat} (I : Inv X pins σ H s) (hz : ps.length ≤ sizeLine)
    (hk : ∀ b o, s.heap.get? b = some o → h'.get? b = some o) (hS : h'.get? n = some { cls := .type "list", dict := none, data := .seq acc c, slots := #[] }) (hn : s.heap.objs.size ≤ n) (hl : as.length = ps.length) (hG : TS.TG Rel (n + 1) h' as) (hacc : acc.toList = as.map Value.ref)
    (hR : ∀ (j : Nat) (k v : Value) (p : V × V), Rel j k v → ps[j]? = some p → RelV p.1 k ∧ RelV p.2 v) :
    H n = none ∧ (∀ t ∈ as, H t = none) ∧ n ∉ as ∧ as.Nodup ∧ Inv X pins σ (layP (upd H n (.lst (as.map V.ref))) as ps) { s with heap := h', toks := tk } := by
  have hSn : n ∉ as := fun z => by
    have h1 : n + 1 ≤ n := hG.above _ z
    omega
  have nd : as.Nodup := List.Pairwise.imp (fun {a b} (h : a < b) => Nat.ne_of_lt h) hG.rise
  have ab : ∀ t ∈ as, s.heap.objs.size ≤ t := fun t ht => Nat.le_trans hn (Nat.le_of_succ_le (hG.above t ht))
  have new : ∀ t ∈ as, H t = none := fun t ht => I.hok.fresh (ab t ht)
  have newS : H n = none := I.hok.fresh hn
  have off : ∀ b, b ∉ as → b ≠ n → layP (upd H n (.lst (as.map V.ref))) as ps b = H b := fun b h1 h2 => by rw [layP_off as ps _ h1, upd_ne h2]
  have low : ∀ b o, s.heap.get? b = some o → b ∉ as ∧ b ≠ n := fun b o e => by
    have := Heap.lt_size e
    exact ⟨fun z => absurd (ab b z) (Nat.not_le.mpr this), Nat.ne_of_lt (Nat.lt_of_lt_of_le this hn)⟩
  have kp : ∀ b u, H b = some u → (layP (upd H n (.lst (as.map V.ref))) as ps) b = some u := fun b u e => by
    rw [off b (fun z => by rw [new b z] at e; cases e) (fun z => by rw [z, newS] at e; cases e)]
    exact e
  have eS : layP (upd H n (.lst (as.map V.ref))) as ps n = some (.lst (as.map V.ref)) := by rw [layP_off as ps _ hSn, upd_same]
  refine ⟨newS, new, hSn, nd, ?_⟩
  refine I.call' (ch := []) rfl ⟨fun b o q _ _ _ => hk b o q, fun b o q _ _ _ => ⟨o.slots, hk b o q⟩, fun b o q m _ => ?_, fun b o q _ => ⟨o, hk b o q⟩, fun b xs q => kp b _ q, fun b o u q => kp b _ q, fun b qs q => ⟨#[], by rw [kp b _ q]; simp⟩⟩ (fun b u q => ?_) I.bare fun b z => by simp at z
  · obtain ⟨z1, z2⟩ := low b o q
    rw [off b z1 z2]
    exact m
  · by_cases hb : b ∈ as
    · obtain ⟨j, e1⟩ := List.mem_iff_getElem?.mp hb
      have hj : j < ps.length := by rw [← hl]; exact (List.getElem?_eq_some_iff.mp e1).1
      obtain ⟨k, v, f2, f3⟩ := hG.pairs j b e1
      have e2 := List.getElem?_eq_getElem hj
      rw [layP_at as ps _ nd j b _ e1 e2] at q
      cases q
      obtain ⟨g1, g2⟩ := hR j k v _ f2 e2
      exact ⟨by show 2 ≤ sizeLine; decide, [k, v], .cons g1 (.cons g2 .nil), ⟨_, f3, rfl, _, rfl⟩⟩
    · by_cases hb2 : b = n
      · rw [hb2] at q ⊢
        rw [eS] at q
        cases q
        refine ⟨by rw [List.length_map, hl]; exact hz, acc.toList, c, by rw [hacc]; exact vals_ref as, ?_⟩
        rw [Array.toArray_toList]
        exact hS
      · rw [off b hb hb2] at q
        exact (I.hok b u q).stay (fun d v _ y => hk d v y) (fun d y => kp d _ y) fun d xs y => kp d _ y
/-- what list() of new pairs leaves -/
def LaidQ (H : Hp) (ps : List (V × V)) (Q : L2.VK) : Prop := ∀ (n : Addr) (as : List Addr), H n = none → (∀ t ∈ as, H t = none) → n ∉ as → as.Nodup → as.length = ps.length → Q (.ref n) (layP (upd H n (.lst (as.map V.ref))) as ps)
def enumV (xs : List V) : List (V × V) := xs.zipIdx.map fun p => (.int (p.2 : Nat), p.1)
theorem enumV_get {xs : List V} {j : Nat} {p : V × V} (h : (enumV xs)[j]? = some p) : p.1 = .int (j : Nat) ∧ xs[j]? = some p.2 := by
  unfold enumV at h
  rw [List.getElem?_map, List.getElem?_zipIdx] at h
  cases e : xs[j]? with
  | none => rw [e] at h; cases h
  | some x =>
    rw [e] at h
    cases h
    exact ⟨by simp, rfl⟩
theorem enumV_len (xs : List V) : (enumV xs).length = xs.length := by unfold enumV; simp
def tListEnum (K : PySem.W.Frag) (te : TE) : TE := fun σ H Q => te σ H fun x H1 => ∃ a xs, x = .ref a ∧ SqL K H1 a xs ∧ LaidQ H1 (enumV xs) Q
def tListZip (K : PySem.W.Frag) (ta : TA) : TE := fun σ H Q => ta σ H fun vs H1 => ∃ a b xs ys, vs = [.ref a, .ref b] ∧ SqL K H1 a xs ∧ SqL K H1 b ys ∧ LaidQ H1 (xs.zip ys) Q
section
variable {X : Cx} {e e2 : Expr} {te : TE} {ta : TA} {p pos q pos2 : Pos}
theorem pe_listEnum (hc : X.calm = true) (hg : Gl X "list") (hm : X.mg "list" = none) (hg2 : Gl X "enumerate") (hm2 : X.mg "enumerate" = none) (he : PE X e te)
    (na : starEach [e] X.env = (false, eval e X.env) :: starEach [] X.env) (nb : starEach [.Call (.Name "enumerate" q) [e] [] pos2] X.env = (false, eval (.Call (.Name "enumerate" q) [e] [] pos2) X.env) :: starEach [] X.env) :
    PE X (.Call (.Name "list" p) [.Call (.Name "enumerate" q) [e] [] pos2] [] pos) (tListEnum X.K te) := by
  refine ⟨fun pins s σ H Q I h => ?_⟩
  refine Call_ (ld_blt I hg hm boot_list (PyProof.Rows.callWith_type1 (args_cons ?_ nb) nb))
  refine Call_ (ld_blt I hg2 hm2 boot_enumerate (PyProof.Rows.callWith_type1 (args_cons (thn (he.run pins s σ H _ I h) fun u s1 ⟨x, H1, I1, rx, a, xs, ex, hq, k⟩ => args_nil ?_) na) na))
  subst ex
  cases rx
  obtain ⟨its, rv, pl, hz⟩ := I1.list hq
  have la : a < s1.heap.objs.size := pl.lt
  have hlen := rv.length
  refine call_enumerate_list pl.isList fun h2 y1 y2 y3 y4 => args_nil ?_
  have li : h2.objs.size ≠ a := by rw [y3]; exact Nat.ne_of_gt (Nat.lt_of_lt_of_le la (Nat.le_add_right _ _))
  refine TS.t_call (s := { s1 with heap := h2 }) (T := "enumerate") (n := its.length) (wr := [s1.heap.objs.size + 1, s1.heap.objs.size]) (Rel := fun i k v => (∃ t, k = .int i t) ∧ its.toArray[i]? = some v) (St := TS.StE (s1.heap.objs.size + 1) s1.heap.objs.size a h2.objs.size its.toArray)
    (fun s' k => ⟨_, k _ _ (by show s1.heap.objs.size + 1 ≠ h2.objs.size; rw [y3]; exact Nat.ne_of_lt (Nat.lt_succ_self _)) y1, rfl⟩) (by show _ < h2.objs.size; rw [y3]; exact Nat.lt_succ_self _)
    (fun A' s' Q' E' k hQ => wpAny_pyIter_enum (k _ _ (by show s1.heap.objs.size + 1 ≠ h2.objs.size; rw [y3]; exact Nat.ne_of_lt (Nat.lt_succ_self _)) y1) hQ) (by decide) (by decide) TS.enum_len0 TS.enum_hint0 ?_ ?_ ?_ (by rw [← hlen]; exact hz) ?_
  · have := TS.src_enum (prog := X.prog) (w := X.w) (A := X.A.in1.in1) (e := s1.heap.objs.size + 1) (it := s1.heap.objs.size) (l := a) (S := h2.objs.size) (I1.ok.hd hc) (Nat.succ_ne_self _) (Nat.ne_of_lt (Nat.lt_succ_of_lt la)) (Nat.ne_of_lt la) (by rw [y3]; exact Nat.ne_of_gt (Nat.lt_succ_self _)) (by rw [y3]; exact Nat.ne_of_gt (Nat.lt_add_of_pos_right (by decide))) li its.toArray
    rw [List.size_toArray] at this
    exact this
  · intro b hb
    show b < h2.objs.size
    rw [y3]
    simp only [List.mem_cons, List.not_mem_nil, or_false] at hb
    rcases hb with z | z <;> rw [z]
    · exact Nat.lt_succ_self _
    · exact Nat.lt_add_of_pos_right (by decide)
  · intro h3 k
    have k' : ∀ b o, b < h2.objs.size → h2.get? b = some o → h3.get? b = some o := fun b o hb e => k b o (Nat.ne_of_lt hb) e
    have lt2 : ∀ b, b < s1.heap.objs.size + 2 → b < h2.objs.size := fun b hb => by rw [y3]; exact hb
    exact ⟨y2.at fun o y => k' _ o (lt2 _ (Nat.lt_add_of_pos_right (by decide))) y, pl.isList.at fun o y => k' _ o (lt2 _ (Nat.lt_of_lt_of_le la (Nat.le_add_right _ _))) (y4 _ o y), .inl ⟨.none, k' _ _ (lt2 _ (Nat.lt_succ_self _)) y1⟩⟩
  · intro h3 tk acc c as k5 hS hl hG hacc
    have hz' : (enumV xs).length ≤ sizeLine := by rw [enumV_len]; exact hz
    obtain ⟨q1, q2, q3, q4, q5⟩ := laid (ps := enumV xs) (n := h2.objs.size) (tk := tk) (h' := h3) I1 hz' (fun b o ob => k5 b o (fun z => by
      have := Heap.lt_size ob
      simp only [List.mem_cons, List.not_mem_nil, or_false] at z
      rcases z with z | z <;> rw [z] at this
      · exact absurd this (Nat.not_lt.mpr (Nat.le_succ _))
      · exact absurd this (Nat.lt_irrefl _)) (y4 b o ob)) hS (by rw [y3]; exact Nat.le_add_right _ _) (by rw [hl, enumV_len, hlen]) hG hacc (fun j k v p hr hp => by
      obtain ⟨⟨t, rfl⟩, r2⟩ := hr
      obtain ⟨f1, f2⟩ := enumV_get hp
      rw [f1]
      refine ⟨⟨t, rfl⟩, ?_⟩
      obtain ⟨u, g1, g2⟩ := rv.get f2
      rw [show its.toArray[j]? = its[j]? by simp, g1] at r2
      cases r2
      exact g2)
    exact ⟨.ref h2.objs.size, _, q5, rfl, k _ as q1 q2 q3 q4 (by rw [hl, enumV_len, hlen])⟩
theorem zip_getP {xs ys : List V} {j : Nat} {p : V × V} (h : (xs.zip ys)[j]? = some p) : xs[j]? = some p.1 ∧ ys[j]? = some p.2 := by
  rw [List.getElem?_zip_eq_some] at h
  exact h
theorem pe_listZip (hc : X.calm = true) (hg : Gl X "list") (hm : X.mg "list" = none) (hg2 : Gl X "zip") (hm2 : X.mg "zip" = none) (ha : PA X [e, e2] ta)
    (na : starEach [e, e2] X.env = (false, eval e X.env) :: starEach [e2] X.env) (hpl : (backTo pos2 (starEach [e2] X.env)).any (·.1) = false) (nb : starEach [.Call (.Name "zip" q) [e, e2] [] pos2] X.env = (false, eval (.Call (.Name "zip" q) [e, e2] [] pos2) X.env) :: starEach [] X.env) :
    PE X (.Call (.Name "list" p) [.Call (.Name "zip" q) [e, e2] [] pos2] [] pos) (tListZip X.K ta) := by
  refine ⟨fun pins s σ H Q I h => ?_⟩
  refine Call_ (ld_blt I hg hm boot_list (PyProof.Rows.callWith_type1 (args_cons ?_ nb) nb))
  refine Call_ (ld_blt I hg2 hm2 PyProof.Rows.boot_zip (PyProof.Rows.callWith_type1 (thn (ha.run pos2 pins s σ H _ I h) fun us s1 ⟨vs, H1, I1, r1, a, b, xs, ys, ex, hqx, hqy, k⟩ => ?_) na hpl))
  subst ex
  cases r1 with
  | cons r rr =>
  cases rr with
  | cons r' rr =>
  cases rr
  cases r
  cases r'
  obtain ⟨its, rv, p1, hz⟩ := I1.list hqx
  obtain ⟨its2, rv2, p2, hz2⟩ := I1.list hqy
  have la : a < s1.heap.objs.size := p1.lt
  have lb : b < s1.heap.objs.size := p2.lt
  have hlen := rv.length
  have hlen2 := rv2.length
  refine call_zip_2 p1.isList p2.isList fun h2 y1 yI yO y21 y22 y3 y4 => args_nil ?_
  generalize hB : s1.heap.objs.size = B at la lb y1 yI yO y21 y22 y3
  have D := PySem.W.ktu_apart B a b la lb
  have hne : ∀ c, c < B + 5 → h2.objs.size ≠ c := fun c hc => by rw [y3]; exact Nat.ne_of_gt hc
  have all5 : ∀ c ∈ [B + 4, B + 2, B + 3, B, B + 1, a, b], c < B + 5 := by
    intro c hc
    simp only [List.mem_cons, List.not_mem_nil, or_false] at hc
    rcases hc with z | z | z | z | z | z | z <;> rw [z] <;> first | (exact Nat.add_lt_add_left (by decide) _) | exact Nat.lt_add_of_pos_right (by decide) | exact Nat.lt_of_lt_of_le la (Nat.le_add_right _ _) | exact Nat.lt_of_lt_of_le lb (Nat.le_add_right _ _)
  have z4 : B + 4 ≠ h2.objs.size := (hne _ (all5 _ (by simp))).symm
  refine TS.t_call (s := { s1 with heap := h2 }) (T := "zip") (n := min its.length its2.length) (wr := [B + 4, B + 3, B, B + 1]) (Rel := fun i k v => its.toArray[i]? = some k ∧ its2.toArray[i]? = some v) (St := TS.StZ (B + 4) (B + 2) (B + 3) B (B + 1) a b h2.objs.size its.toArray its2.toArray)
    (fun s' k => ⟨_, k _ _ z4 y1, rfl⟩) (by show _ < h2.objs.size; rw [y3]; exact Nat.lt_succ_self _)
    (fun A' s' Q' E' k hQ => wpAny_pyIter_zip (k _ _ z4 y1) hQ) (by decide) (by decide) TS.zip_len0 TS.zip_hint0 ?_ ?_ ?_ (Nat.le_trans (Nat.min_le_left ..) (by rw [← hlen]; exact hz)) ?_
  · have := TS.src_zip (prog := X.prog) (w := X.w) (A := X.A.in1.in1) (S := h2.objs.size) (I1.ok.hd hc) D (fun c hc => hne c (all5 c hc)) its.toArray its2.toArray
    rw [List.size_toArray, List.size_toArray] at this
    exact this
  · intro c hc
    show c < h2.objs.size
    rw [y3]
    exact all5 c (by simp only [List.mem_cons, List.not_mem_nil, or_false] at hc ⊢; rcases hc with z | z | z | z <;> simp [z])
  · intro h3 k
    have k' : ∀ c o, c < B + 5 → h2.get? c = some o → h3.get? c = some o := fun c o hc e => k c o (hne c hc).symm e
    exact ⟨k' _ _ (all5 _ (by simp)) yI, y21.at fun o y => k' _ o (all5 _ (by simp)) y, y22.at fun o y => k' _ o (all5 _ (by simp)) y, p1.isList.at fun o y => k' _ o (all5 _ (by simp)) (y4 _ o y), p2.isList.at fun o y => k' _ o (all5 _ (by simp)) (y4 _ o y), .inl ⟨k' _ _ (all5 _ (by simp)) y1, .none, .none, k' _ _ (all5 _ (by simp)) yO⟩⟩
  · intro h3 tk acc c as k5 hS hl hG hacc
    have hz' : (xs.zip ys).length ≤ sizeLine := by rw [List.length_zip]; exact Nat.le_trans (Nat.min_le_left ..) hz
    have hla : as.length = (xs.zip ys).length := by rw [hl, List.length_zip, hlen, hlen2]
    obtain ⟨q1, q2, q3, q4, q5⟩ := laid (ps := xs.zip ys) (n := h2.objs.size) (tk := tk) (h' := h3) I1 hz' (fun c o ob => k5 c o (fun z => by
      have lt := Heap.lt_size ob
      rw [hB] at lt
      simp only [List.mem_cons, List.not_mem_nil, or_false] at z
      rcases z with z | z | z | z <;> rw [z] at lt
      · exact absurd lt (Nat.not_lt.mpr (Nat.le_add_right _ _))
      · exact absurd lt (Nat.not_lt.mpr (Nat.le_add_right _ _))
      · exact absurd lt (Nat.lt_irrefl _)
      · exact absurd lt (Nat.not_lt.mpr (Nat.le_add_right _ _))) (y4 c o ob)) hS (by rw [y3, hB]; exact Nat.le_add_right _ _) hla hG hacc (fun j k v p hr hp => by
      obtain ⟨f1, f2⟩ := zip_getP hp
      obtain ⟨u, g1, g2⟩ := rv.get f1
      obtain ⟨u2, g3, g4⟩ := rv2.get f2
      obtain ⟨r1, r2⟩ := hr
      rw [show its.toArray[j]? = its[j]? by simp, g1] at r1
      rw [show its2.toArray[j]? = its2[j]? by simp, g3] at r2
      cases r1; cases r2
      exact ⟨g2, g4⟩)
    exact ⟨.ref h2.objs.size, _, q5, rfl, k _ as q1 q2 q3 q4 hla⟩
end

/-! ### values -/
theorem laid_ow {K : PySem.W.Frag} {mg : Str → Option Value} {I H : Hp} {n : Addr} {as : List Addr} {ps : List (V × V)} {β : Type} [Enc β] {l : List β} (hs : Same I H) (hn : H n = none) (ha : ∀ t ∈ as, H t = none) (hna : n ∉ as) (nd : as.Nodup) (hl : as.length = ps.length) (hll : ps.length = l.length)
    (hr : ∀ (j : Nat) (p : V × V) (b : β), ps[j]? = some p → l[j]? = some b → ∃ d1 d2, enc b = .tup [d1, d2] ∧ R K mg I p.1 d1 ∧ R K mg I p.2 d2) :
    ∃ I' : Hp, Wd I H I' (layP (upd H n (.lst (as.map V.ref))) as ps) [n] ∧ Ow K mg I' (layP (upd H n (.lst (as.map V.ref))) as ps) (.ref n) (ow1 l) [n] := by
  let H' := layP (upd H n (.lst (as.map V.ref))) as ps
  have off : ∀ b, b ∉ as → b ≠ n → H' b = H b := fun b h1 h2 => by show layP _ _ _ b = _; rw [layP_off as ps _ h1, upd_ne h2]
  have eS : H' n = some (.lst (as.map V.ref)) := by show layP _ _ _ n = _; rw [layP_off as ps _ hna, upd_same]
  have i0 : Same I (fun b => if b ∈ as then H' b else I b) := fun b u e => by
    have : b ∉ as := fun z => by have h1 := hs b u e; rw [ha b z] at h1; cases h1
    show (if b ∈ as then H' b else I b) = _
    rw [if_neg this]
    exact e
  refine ⟨fun b => if b ∈ as then H' b else I b, ⟨fun b u e => ?_, i0, fun b u e => ?_, fun b hb => ?_, by simp, fun b h1 h2 => ?_⟩, ?_⟩
  · have e' : (if b ∈ as then H' b else I b) = some u := e
    by_cases h : b ∈ as
    · rw [if_pos h] at e'; exact e'
    · rw [if_neg h] at e'
      have h1 := hs b u e'
      exact (off b h fun z => by rw [z, hn] at h1; cases h1).trans h1
  · exact (off b (fun z => by rw [ha b z] at e; cases e) fun z => by rw [z, hn] at e; cases e).trans e
  · have z : b = n := by simpa using hb
    subst z
    exact ⟨by show (if b ∈ as then H' b else I b) = none; rw [if_neg hna]; exact hs.free hn, hn⟩
  · show (if b ∈ as then H' b else I b) = none
    rw [if_neg fun z => h1 (ha b z)]
    exact h2
  · refine .lst (T := []) eS ?_
    rw [show l.map (fun a => O.imm (enc a)) = (l.map enc).map O.imm by rw [List.map_map]; rfl]
    refine Ows.of_imm ?_
    have key : ∀ (as' : List Addr) (l' : List β) (k : Nat), as'.length = l'.length → (∀ j, as'[j]? = as[j + k]?) → (∀ j, l'[j]? = l[j + k]?) → Rs K mg (fun b => if b ∈ as then H' b else I b) (as'.map V.ref) (l'.map enc) := by
      intro as'
      induction as' with
      | nil => intro l' k h _ _; cases l' with
        | nil => exact .nil
        | cons _ _ => cases h
      | cons a as' ih =>
        intro l' k h h1 h2
        cases l' with
        | nil => cases h
        | cons b l' =>
          refine .cons ?_ (ih l' (k + 1) (by simpa using h) (fun j => by have := h1 (j + 1); rw [List.getElem?_cons_succ] at this; rw [this]; congr 1; omega) (fun j => by have := h2 (j + 1); rw [List.getElem?_cons_succ] at this; rw [this]; congr 1; omega))
          have ea : as[k]? = some a := by have := h1 0; rw [Nat.zero_add] at this; rw [← this]; rfl
          have eb : l[k]? = some b := by have := h2 0; rw [Nat.zero_add] at this; rw [← this]; rfl
          have hk : k < ps.length := by rw [← hl]; exact (List.getElem?_eq_some_iff.mp ea).1
          have ep := List.getElem?_eq_getElem hk
          obtain ⟨d1, d2, e1, r1, r2⟩ := hr k _ b ep eb
          rw [e1]
          refine .tup (.inl (.inl ?_)) (.cons (r1.mono i0) (.cons (r2.mono i0) .nil))
          show (if a ∈ as then H' a else I a) = _
          rw [if_pos (List.mem_of_getElem? ea)]
          exact layP_at as ps _ nd k a _ ea ep
    exact key as l 0 (by rw [hl, hll]) (fun _ => rfl) fun _ => rfl
theorem Rs.len2 {K : PySem.W.Frag} {mg : Str → Option Value} {H : Hp} {xs : List V} {α : Type} [Enc α] {l : List α} (r : Rs K mg H xs (l.map enc)) : xs.length = l.length := by rw [r.length, List.length_map]
theorem Rs.at2 {K : PySem.W.Frag} {mg : Str → Option Value} {H : Hp} {α : Type} [Enc α] : ∀ {xs : List V} {l : List α}, Rs K mg H xs (l.map enc) → ∀ {j : Nat} {x : V} {a : α}, xs[j]? = some x → l[j]? = some a → R K mg H x (enc a)
  | _ :: _, _ :: _, .cons h _, 0, _, _, e1, e2 => by cases e1; cases e2; exact h
  | _ :: _, _ :: _, .cons _ t, j + 1, _, _, e1, e2 => Rs.at2 t (by simpa using e1) (by simpa using e2)
  | [], [], .nil, j, _, _, e1, _ => by simp at e1
section
variable {X : Cx} {Γ : List SL} {e a b : Expr} {pos p q pos2 : Pos} {α β : Type} [Enc α] [Enc β]
theorem vo_listEnum {m : M (List α)} (hc : X.calm = true) (hm : X.mg "list" = none) (hm2 : X.mg "enumerate" = none) (h : VX false X Γ e m) (hg : Gl X "list" := by rfl) (hg2 : Gl X "enumerate" := by rfl)
    (na : starEach [e] X.env = (false, eval e X.env) :: starEach [] X.env := by rfl) (nb : starEach [.Call (.Name "enumerate" q) [e] [] pos2] X.env = (false, eval (.Call (.Name "enumerate" q) [e] [] pos2) X.env) :: starEach [] X.env := by rfl) :
    VO X Γ (.Call (.Name "list" p) [.Call (.Name "enumerate" q) [e] [] pos2] [] pos) ow1 (m >>= fun l => M.ok (enumL l)) := fun W tk σ I H T mw Q o => by
  refine to_t (pe_listEnum hc hg hm hg2 hm2 pe_of na nb) (h.ap tk mw o.bind (fun l _ o1 v I1 H1 g1 r1 => ?_) fun _ z => z)
  obtain ⟨a, xs, rfl, hq, rs⟩ := R.lst_inv r1
  refine ⟨a, xs, rfl, (g1.ih).seq hq, fun n as q1 q2 q3 q4 q5 => ?_⟩
  obtain ⟨I', wd, ow⟩ := laid_ow (K := X.K) (mg := X.mg) (l := enumL l) g1.ih q1 q2 q3 q4 q5 (by rw [enumV_len, rs.len2]; unfold enumL; simp) (fun j p b e1 e2 => by
    obtain ⟨f1, f2⟩ := enumV_get e1
    obtain ⟨f3, f4⟩ := enumL_get e2
    refine ⟨.int b.1, enc b.2, rfl, ?_, rs.at2 f2 f3⟩
    rw [f1, f4]
    exact .int _)
  exact o1 _ I' _ [n] (by have := Wd.ow g1 (fun _ z => nomatch z) wd; simpa using this) ow
theorem vo_listZip {m1 : M (List α)} {m2 : M (List β)} (hc : X.calm = true) (hm : X.mg "list" = none) (hm2 : X.mg "zip" = none) (h1 : VX false X Γ a m1) (h2 : VX false X Γ b m2) (hg : Gl X "list" := by rfl) (hg2 : Gl X "zip" := by rfl)
    (na : starEach [a, b] X.env = (false, eval a X.env) :: starEach [b] X.env := by rfl) (na2 : starEach [b] X.env = (false, eval b X.env) :: starEach [] X.env := by rfl) (hpl : (backTo pos2 (starEach [b] X.env)).any (·.1) = false := by rfl) (nb : starEach [.Call (.Name "zip" q) [a, b] [] pos2] X.env = (false, eval (.Call (.Name "zip" q) [a, b] [] pos2) X.env) :: starEach [] X.env := by rfl) :
    VO X Γ (.Call (.Name "list" p) [.Call (.Name "zip" q) [a, b] [] pos2] [] pos) ow1 (m1 >>= fun x => m2 >>= fun y => M.ok (x.zip y)) := fun W tk σ I H T mw Q o => by
  refine to_t (pe_listZip hc hg hm hg2 hm2 (pa_cons pe_of (pa_cons pe_of pa_nil na2) na) na hpl nb) (h1.ap tk mw o.bind (fun l _ o1 v I1 H1 g1 r1 => ?_) fun _ z => z)
  refine h2.ap tk (mw.gr g1) o1.bind (fun l2 _ o2 u I2 H2 g2 r2 => ?_) fun _ z => z.gr g1
  obtain ⟨a, xs, rfl, hq, rs⟩ := R.lst_inv r1
  obtain ⟨b, ys, rfl, hq2, rs2⟩ := R.lst_inv r2
  have rs' := rs.mono g2.i0
  refine ⟨a, b, xs, ys, rfl, g2.ih.seq (g2.i0.seq hq), g2.ih.seq hq2, fun n as q1 q2 q3 q4 q5 => ?_⟩
  obtain ⟨I', wd, ow⟩ := laid_ow (K := X.K) (mg := X.mg) (l := l.zip l2) g2.ih q1 q2 q3 q4 q5 (by rw [List.length_zip, List.length_zip, rs.len2, rs2.len2]) (fun j p b e1 e2 => by
    obtain ⟨f1, f2⟩ := zip_getP e1
    obtain ⟨f3, f4⟩ := List.getElem?_zip_eq_some.mp e2
    exact ⟨enc b.1, enc b.2, rfl, rs'.at2 f1 f3, rs2.at2 f2 f4⟩)
  exact o2 _ I' _ [n] (by have := Wd.ow (g1.trans g2) (fun _ z => nomatch z) wd; simpa using this) ow
end
end Vc

set_option Elab.async false
set_option linter.all false
set_option maxRecDepth 100000
namespace Vc
open PySem PySem.Spec PyProof.Rows L2
open Enc (enc)
section
variable {X : Cx} {Γ Γx : List SL} {e a b c d : Expr} {es : List Expr} {rest : List Stmt} {pos p : Pos} {α β γ : Type} [Enc α] [Enc β] [Enc γ] {w w' : Bool} {τ : Type} {E : Eds τ} {ta tb tc td : TE}
theorem vt_isN [NN α] {j : Nat} {pc : Pos} {m : M (Option α)} (ha : VX true X Γ a m) : VT X Γ (.Compare a [.Is] [.Constant .none j pc] pos) (m >>= fun o => M.ok o.isNone) :=
  (vt_cmp (β := Unit) (f := fun (o : Option α) (_ : Unit) => M.ok o.isNone) op_isN ha ve_non (nomark _) (fun x y H v u r1 r2 Q o => by
    cases r2
    exact ⟨rfl, by rw [opt_non r1]; exact o⟩) fun _ _ _ z => nomatch z).congr (by cases m <;> rfl)
theorem vt_isNN [NN α] {j : Nat} {pc : Pos} {m : M (Option α)} (ha : VX true X Γ a m) : VT X Γ (.Compare a [.IsNot] [.Constant .none j pc] pos) (m >>= fun o => M.ok o.isSome) :=
  (vt_cmp (β := Unit) (f := fun (o : Option α) (_ : Unit) => M.ok o.isSome) op_notN ha ve_non (nomark _) (fun x y H v u r1 r2 Q o => by
    cases r2
    refine ⟨rfl, ?_⟩
    rw [opt_non r1]
    cases x
    · exact o
    · exact o) fun _ _ _ z => nomatch z).congr (by cases m <;> rfl)
def tChain3 (r r' r2 : R2) (ta tb tc td : TE) : TE := fun σ H Q => ta σ H fun x H1 => tb σ H1 fun y H2 => r x y H2 fun z H3 => ∃ k, z = .bl k ∧
  (if k = true then tc σ H3 fun w' H4 => r' y w' H4 fun z2 H5 => ∃ k2, z2 = .bl k2 ∧ (if k2 = true then td σ H5 fun w2 H6 => r2 w' w2 H6 Q else Q (.bl false) H5) else Q (.bl false) H3)
theorem pe_chain3 {op op' op2 : CmpOp} {r r' r2 : R2} (ho : OpR X (compareOp op) r) (ho' : OpR X (compareOp op') r') (ho2 : OpR X (compareOp op2) r2) (ha : PE X a ta) (hb : PE X b tb) (hc : PE X c tc) (hd : PE X d td)
    (hm : lastMarks [op, op', op2] [b, c, d] = false) : PE X (.Compare a [op, op', op2] [b, c, d] pos) (tChain3 r r' r2 ta tb tc td) := by
  refine ⟨fun pins s σ H Q I h => ?_⟩
  refine Compare_chain (thn (ha.run pins s σ H _ I h) fun v s1 ⟨x, H1, I1, r1, q1⟩ => chain_link (thn (hb.run pins s1 σ H1 _ I1 q1) fun u s2 ⟨y, H2, I2, r2, q2⟩ =>
    thn (ho pins s2 σ H2 x y v u _ I2 r1 r2 q2) fun dv s3 ⟨z, H3, I3, r3, k, e, q3⟩ => ?_)) hm
  subst e
  cases r3
  refine wpAny_truthy_bool ?_
  cases k with
  | false => exact ite_ff ⟨.bl false, H3, I3, rfl, q3⟩
  | true =>
    refine ite_tt (chain_link (thn (hc.run pins s3 σ H3 _ I3 q3) fun w' s4 ⟨z', H4, I4, r4, q4⟩ => thn (ho' pins s4 σ H4 y z' u w' _ I4 r2 r4 q4) fun dv2 s5 ⟨z5, H5, I5, r5, k2, e2, q5⟩ => ?_))
    subst e2
    cases r5
    refine wpAny_truthy_bool ?_
    cases k2 with
    | false => exact ite_ff ⟨.bl false, H5, I5, rfl, q5⟩
    | true => exact ite_tt (chain_last (thn (hd.run pins s5 σ H5 _ I5 q5) fun w2 s6 ⟨z6, H6, I6, r6, q6⟩ => ho2 pins s6 σ H6 z' z6 w' w2 Q I6 r4 r6 q6))
theorem ve_chain3 {op op' op2 : CmpOp} {p1 p2 p3 : Int → Int → Bool} {m1 m2 m3 m4 : M Int} (ho : OpR X (compareOp op) (rI0 fun i j => .bl (p1 i j))) (ho' : OpR X (compareOp op') (rI0 fun i j => .bl (p2 i j))) (ho2 : OpR X (compareOp op2) (rI0 fun i j => .bl (p3 i j))) (ha : VX true X Γ a m1) (hb : VX true X Γ b m2) (hc : VX true X Γ c m3) (hd : VX true X Γ d m4)
    (h1 : lastMarks [op, op', op2] [b, c, d] = false) : VX w X Γ (.Compare a [op, op', op2] [b, c, d] pos) (m1 >>= fun x => m2 >>= fun y => bAnd (M.ok (p1 x y)) (m3 >>= fun z => bAnd (M.ok (p2 y z)) (m4 >>= fun t => M.ok (p3 z t)))) := fun W tk σ I H T mw Q o => by
  refine to_t (pe_chain3 ho ho' ho2 pe_of pe_of pe_of pe_of h1) ?_
  refine ha.ap tk mw o.bind (fun x _ o1 v I1 H1 g1 r1 => ?_) fun _ z => z
  refine hb.ap tk (mw.gr g1) o1.bind (fun y _ o2 u I2 H2 g2 r2 => ?_) fun _ z => z.gr g1
  cases r1; cases r2
  refine ⟨x, y, rfl, rfl, p1 x y, rfl, ?_⟩
  cases q : p1 x y with
  | false =>
    rw [q] at o2
    exact iteF (o2 _ I2 H2 (g1.trans g2) (.bl false))
  | true =>
    rw [q] at o2
    refine iteT ?_
    refine hc.ap tk ((mw.gr g1).gr g2) (show Out (m3 >>= fun z => bAnd (M.ok (p2 y z)) (m4 >>= fun t => M.ok (p3 z t))) _ _ from o2).bind (fun z _ o3 t I3 H3 g3 r3 => ?_) fun _ z => (z.gr g1).gr g2
    cases r3
    refine ⟨y, z, rfl, rfl, p2 y z, rfl, ?_⟩
    cases q2 : p2 y z with
    | false =>
      rw [q2] at o3
      exact iteF (o3 _ I3 H3 ((g1.trans g2).trans g3) (.bl false))
    | true =>
      rw [q2] at o3
      refine iteT ?_
      refine hd.ap tk (((mw.gr g1).gr g2).gr g3) (show Out (m4 >>= fun t => M.ok (p3 z t)) _ _ from o3).bind (fun t2 _ o4 t3 I4 H4 g4 r4 => ?_) fun _ z => ((z.gr g1).gr g2).gr g3
      cases r4
      exact ⟨z, t2, rfl, rfl, o4 _ I4 H4 (((g1.trans g2).trans g3).trans g4) (.bl _)⟩
theorem vt_chainp {op op' : CmpOp} {p1 p2 : Int → Int → Bool} {x y z : Int} (ho : OpR X (compareOp op) (rI0 fun i j => .bl (p1 i j))) (ho' : OpR X (compareOp op') (rI0 fun i j => .bl (p2 i j))) (ha : VX true X Γ a (M.ok x)) (hb : VX true X Γ b (M.ok y)) (hc : VX true X Γ c (M.ok z))
    (h1 : lastMarks [op, op'] [b, c] = false := by with_unfolding_all rfl) : VT X Γ (.Compare a [op, op'] [b, c] pos) (M.ok (p1 x y && p2 y z)) := fun W tk σ I H T mw Q o => by
  refine to_k (pt_chain ho ho' pe_of pe_of pe_of h1) ?_
  refine ha.ap tk mw (P := fun _ => True) (E := fun _ => False) trivial (fun x' q1 _ v I1 H1 g1 r1 => ?_) fun _ z => z.elim
  cases q1
  refine hb.ap tk (mw.gr g1) (P := fun _ => True) (E := fun _ => False) trivial (fun y' q2 _ u I2 H2 g2 r2 => ?_) fun _ z => z.elim
  cases q2; cases r1; cases r2
  refine ⟨x, y, rfl, rfl, p1 x y, rfl, ?_⟩
  cases q : p1 x y with
  | false =>
    have o : Q (p1 x y && p2 y z) H2 := o I2 H2 (g1.trans g2)
    rw [q] at o
    exact iteF ⟨false, rfl, o⟩
  | true =>
    refine iteT ?_
    refine hc.ap tk ((mw.gr g1).gr g2) (P := fun _ => True) (E := fun _ => False) trivial (fun z' q3 _ t I3 H3 g3 r3 => ?_) fun _ z => z.elim
    cases q3; cases r3
    have o : Q (p1 x y && p2 y z) H3 := o I3 H3 ((g1.trans g2).trans g3)
    rw [q] at o
    exact ⟨y, z, rfl, rfl, p2 y z, rfl, o⟩
theorem ve_chain3p {op op' op2 : CmpOp} {p1 p2 p3 : Int → Int → Bool} {x y z t : Int} (ho : OpR X (compareOp op) (rI0 fun i j => .bl (p1 i j))) (ho' : OpR X (compareOp op') (rI0 fun i j => .bl (p2 i j))) (ho2 : OpR X (compareOp op2) (rI0 fun i j => .bl (p3 i j))) (ha : VX true X Γ a (M.ok x)) (hb : VX true X Γ b (M.ok y)) (hc : VX true X Γ c (M.ok z)) (hd : VX true X Γ d (M.ok t))
    (h1 : lastMarks [op, op', op2] [b, c, d] = false := by with_unfolding_all rfl) : VX w X Γ (.Compare a [op, op', op2] [b, c, d] pos) (M.ok (p1 x y && (p2 y z && p3 z t))) :=
  (ve_chain3 ho ho' ho2 ha hb hc hd h1).congr (by
    rw [M.ok_bind, M.ok_bind, M.ok_bind, M.ok_bind]
    cases p1 x y <;> cases p2 y z <;> rfl)
end
end Vc

set_option Elab.async false
set_option linter.all false
set_option maxRecDepth 100000
namespace Vc
open PySem PySem.Spec PyProof.Rows L2
/-! ### helpers for plain laws -/
def okO {α : Type} : M α → Option α
  | .ok a => some a
  | _ => none
theorem of_okO {α : Type} {m : M α} {a : α} (h : okO m = some a) : m = .ok a := by
  cases m with
  | ok b => cases h; rfl
  | _ => cases h
theorem bAnd_l (a : Bool) (y : M Bool) : bAnd (.ok a) y = if a then y else .ok false := by cases a <;> rfl
theorem bOr_l (a : Bool) (y : M Bool) : bOr (.ok a) y = if a then .ok true else y := by cases a <;> rfl
theorem getI_lt {α : Type} {l : List α} {i : Nat} (h : i < l.length) : getI l (i : Int) = .ok l[i] := getI_nat (List.getElem?_eq_getElem h)
theorem getI_pos {α : Type} {l : List α} {k : Int} (h0 : 0 ≤ k) {a : α} (h : l[k.toNat]? = some a) : getI l k = .ok a := by
  have := getI_nat (l := l) h
  rwa [Int.toNat_of_nonneg h0] at this
theorem setL_lt {α : Type} {l : List α} {i : Nat} (a : α) (h : i < l.length) : setL l (i : Int) a = .ok (l.set i a) := by
  unfold setL
  have : ixN l.length (i : Int) = some i := by
    unfold ixN
    rw [if_pos (by omega)]
    simp [h]
  rw [this]
theorem rng_nat (n : Nat) : rng 0 (n : Int) = (List.range n).map fun i : Nat => (i : Int) := by
  unfold rng
  rw [Int.sub_zero, Int.toNat_natCast]
  apply List.map_congr_left
  intro a _
  omega
theorem rOk_nat {n : Nat} (h : n < 2 ^ 62) : rOk (n : Int) := ⟨by omega, by omega⟩
theorem loopS_append {α S : Type} (f : S → α → M S) : ∀ (l l' : List α) (s : S), loopS f (l ++ l') s = loopS f l s >>= fun s' => loopS f l' s'
  | [], l', s => by rw [List.nil_append, loopS_nil, M.ok_bind]
  | a :: l, l', s => by
    rw [List.cons_append, loopS_cons, loopS_cons, M.bind_assoc]
    congr 1
    funext s'
    exact loopS_append f l l' s'
/-- a loop that keeps an invariant of its list -/
theorem loopS_inv {α S : Type} {f : S → α → M S} (I : Nat → S → Prop) {l : List α} {s : S} (h0 : I 0 s) (hs : ∀ i (h : i < l.length) s, I i s → ∃ s', f s l[i] = .ok s' ∧ I (i + 1) s') : ∃ s', loopS f l s = .ok s' ∧ I l.length s' := by
  induction l generalizing s I with
  | nil => exact ⟨s, rfl, h0⟩
  | cons a l ih =>
    obtain ⟨s1, e1, h1⟩ := hs 0 (by simp) s h0
    obtain ⟨s2, e2, h2⟩ := ih (fun i => I (i + 1)) h1 fun i h s hI => hs (i + 1) (by simpa using h) s hI
    refine ⟨s2, ?_, h2⟩
    rw [loopS_cons]
    rw [show f s a = .ok s1 from e1, M.ok_bind, e2]
theorem loopS_inv' {α S : Type} {f : S → α → M S} (I : Nat → S → Prop) {T : S} {l : List α} {s : S} (h0 : I 0 s) (hs : ∀ i (h : i < l.length) s, I i s → ∃ s', f s l[i] = .ok s' ∧ I (i + 1) s') (hT : ∀ s, I l.length s → s = T) : loopS f l s = .ok T := by
  obtain ⟨s', e, h⟩ := loopS_inv I h0 hs
  rw [e, hT _ h]
/-- a loop that folds -/
theorem loopS_fold {α S : Type} {f : S → α → M S} {g : S → α → S} (l : List α) (s : S) (h : ∀ s, ∀ a ∈ l, f s a = .ok (g s a)) : loopS f l s = .ok (l.foldl g s) := by
  induction l generalizing s with
  | nil => rfl
  | cons a l ih =>
    rw [loopS_cons, h s a (by simp), M.ok_bind, ih _ fun s b hb => h s b (by simp [hb])]
    rfl
theorem loopM_all {α S τ : Type} {f : S → α → M (Stp S τ)} {l : List α} {s : S} (h : ∀ a ∈ l, f s a = .ok (.nx s)) : loopM f l s = .ok (.nx s) := by
  induction l with
  | nil => rfl
  | cons a l ih =>
    rw [loopM_cons, h a (by simp), M.ok_bind]
    exact ih fun b hb => h b (by simp [hb])
theorem repM_nat {α : Type} {x : List α} {n : Nat} (h1 : n < 2 ^ 62) (h2 : x.length * n ≤ sizeLine) : repM x (n : Int) = .ok (List.replicate n x).flatten := by
  unfold repM
  rw [chk_ok ⟨by omega, by omega, by rw [Int.toNat_natCast]; exact h2⟩, M.ok_bind, Int.toNat_natCast]
theorem rep1 {α : Type} (a : α) (n : Nat) : (List.replicate n [a]).flatten = List.replicate n a := by
  induction n with
  | zero => rfl
  | succ n ih => rw [List.replicate_succ, List.flatten_cons, ih]; rfl
theorem repM_one {α : Type} {a : α} {k : Int} (h1 : k < 2 ^ 24) (h0 : -(2 ^ 62) ≤ k) : repM [a] k = .ok (List.replicate k.toNat a) := by
  unfold repM
  have : sizeLine = 2 ^ 24 := rfl
  rw [chk_ok ⟨by omega, by omega, by rw [List.length_singleton, this]; omega⟩, M.ok_bind, rep1]
theorem catM_ok {α : Type} {x y : List α} (h : x.length + y.length ≤ 2 ^ 24) : catM x y = .ok (x ++ y) := by
  unfold catM
  rw [chk_ok (show _ ≤ sizeLine from h), M.ok_bind]
theorem cut_all {α : Type} (l : List α) : cutL l none none = l := by
  unfold cutL HT.sIx
  simp
theorem cut_to {α : Type} (l : List α) {k : Nat} (h : k ≤ l.length) : cutL l none (some (k : Int)) = l.take k := by
  unfold cutL
  rw [HT.sIx_nat, HT.sIx_none, Nat.min_eq_left h]
  simp
theorem lcGo_map {α β : Type} {t : α → M Bool} {f : α → M β} {p : α → Bool} {h : α → β} : ∀ {l : List α}, (∀ a ∈ l, t a = .ok (p a)) → (∀ a ∈ l, p a = true → f a = .ok (h a)) → lcGo t f l = .ok ((l.filter p).map h)
  | [], _, _ => rfl
  | a :: l, ht, hf => by
    show (t a >>= fun c => if c then f a >>= fun b => lcGo t f l >>= fun r => .ok (b :: r) else lcGo t f l) = _
    rw [ht a (by simp), M.ok_bind, lcGo_map (fun b hb => ht b (by simp [hb])) fun b hb => hf b (by simp [hb]), List.filter_cons]
    cases e : p a with
    | true => rw [if_pos rfl, hf a (by simp) e, M.ok_bind, M.ok_bind, if_pos rfl]; rfl
    | false => rw [if_neg Bool.false_ne_true, if_neg Bool.false_ne_true]
theorem lcM_filter {α β : Type} {t : α → M Bool} {f : α → M β} {p : α → Bool} {h : α → β} {l : List α} (hl : l.length ≤ 2 ^ 24) (ht : ∀ a ∈ l, t a = .ok (p a)) (hf : ∀ a ∈ l, p a = true → f a = .ok (h a)) : lcM t f l = .ok ((l.filter p).map h) := by
  unfold lcM
  rw [chk_ok (show _ ≤ sizeLine from hl), M.ok_bind, lcGo_map ht hf]
  rfl
theorem lcM_map {α β : Type} {f : α → M β} {h : α → β} {l : List α} (hl : l.length ≤ 2 ^ 24) (hf : ∀ a ∈ l, f a = .ok (h a)) : lcM (fun _ => .ok true) f l = .ok (l.map h) := by
  rw [lcM_filter (p := fun _ => true) hl (fun _ _ => rfl) fun a ha _ => hf a ha, List.filter_eq_self.mpr fun _ _ => rfl]
theorem enumL_len {α : Type} (l : List α) : (enumL l).length = l.length := by unfold enumL; rw [List.length_map, List.length_zipIdx]
theorem enumL_at {α : Type} [Enc α] {l : List α} {i : Nat} (h : i < (enumL l).length) : (enumL l)[i] = ((i : Int), l[i]'(by rw [← enumL_len l]; exact h)) := by
  obtain ⟨h1, h2⟩ := enumL_get (List.getElem?_eq_getElem h)
  refine Prod.ext h2 ?_
  rw [List.getElem?_eq_getElem (by rw [← enumL_len l]; exact h)] at h1
  exact (Option.some.inj h1).symm
theorem rngD_nat {m : Nat} : rngD ((m : Int) - 1) (-1) = (List.range m).map fun i : Nat => ((m - 1 - i : Nat) : Int) := by
  unfold rngD
  rw [show ((m : Int) - 1 - -1).toNat = m by omega]
  apply List.map_congr_left
  intro a ha
  have := List.mem_range.mp ha
  omega
/-- one cell of the script -/
def scell (ns : List Int) (k : Nat) : Int := ns.getD k 0
end Vc

set_option Elab.async false
set_option linter.all false
set_option maxRecDepth 100000
namespace Vc.Gf
open PySem PySem.Spec PyProof.Rows L2 Vc
/-! ### the field -/
abbrev F := Fin 16
def g (a : F) : Int := (a.val : Int)
/-- the product, by shifts -/
def fmn (a b : Nat) : Nat :=
  let x := (if b.testBit 0 then a else 0) ^^^ (if b.testBit 1 then a <<< 1 else 0) ^^^ (if b.testBit 2 then a <<< 2 else 0) ^^^ (if b.testBit 3 then a <<< 3 else 0)
  let x := if x.testBit 6 then x ^^^ 76 else x
  let x := if x.testBit 5 then x ^^^ 38 else x
  if x.testBit 4 then x ^^^ 19 else x
def fm (a b : F) : F := Fin.ofNat 16 (fmn a.val b.val)
def fa (a b : F) : F := a ^^^ b
/-- the inverse: the power 14 -/
def fi (a : F) : F := let b := fm a a; let c := fm b b; let d := fm c c; fm b (fm c d)
theorem xor_g : ∀ a b : F, Builtin.bitXor (g a) (g b) = g (fa a b) := by decide +kernel
theorem fm_comm : ∀ a b : F, fm a b = fm b a := by decide +kernel
theorem fm_assoc : ∀ a b c : F, fm a (fm b c) = fm (fm a b) c := by decide +kernel
theorem fm_add : ∀ a b c : F, fm a (fa b c) = fa (fm a b) (fm a c) := by decide +kernel
theorem fm_zero : ∀ a : F, fm a 0 = 0 := by decide +kernel
theorem zero_fm : ∀ a : F, fm 0 a = 0 := by decide +kernel
theorem fm_one : ∀ a : F, fm a 1 = a := by decide +kernel
theorem fa_comm : ∀ a b : F, fa a b = fa b a := by decide +kernel
theorem fa_assoc : ∀ a b c : F, fa a (fa b c) = fa (fa a b) c := by decide +kernel
theorem fa_zero : ∀ a : F, fa a 0 = a := by decide +kernel
theorem zero_fa : ∀ a : F, fa 0 a = a := by decide +kernel
theorem fa_self : ∀ a : F, fa a a = 0 := by decide +kernel
theorem fi_mul : ∀ a : F, a ≠ 0 → fm (fi a) a = 1 := by decide +kernel
theorem g_inj : ∀ a b : F, g a = g b → a = b := by decide +kernel
theorem to_g {z : Int} (h0 : 0 ≤ z) (h1 : z < 16) : ∃ a : F, z = g a := ⟨⟨z.toNat, by omega⟩, by show z = ((z.toNat : Nat) : Int); omega⟩
theorem mod_g (z : Int) : ∃ a : F, z % 16 = g a := to_g (Int.emod_nonneg _ (by decide)) (Int.emod_lt_of_pos _ (by decide))
theorem one_fm (a : F) : fm 1 a = a := by rw [fm_comm, fm_one]
/-! ### polynomials -/
abbrev P := List F
def gl (p : P) : List Int := p.map g
def co (p : P) (k : Nat) : F := p.getD k 0
@[simp] theorem gl_len (p : P) : (gl p).length = p.length := List.length_map _
theorem co_nil (k : Nat) : co [] k = 0 := rfl
theorem co_cons0 (a : F) (p : P) : co (a :: p) 0 = a := rfl
theorem co_conss (a : F) (p : P) (k : Nat) : co (a :: p) (k + 1) = co p k := rfl
theorem co_ge {p : P} {k : Nat} (h : p.length ≤ k) : co p k = 0 := by
  unfold co
  rw [List.getD_eq_getElem?_getD, List.getElem?_eq_none h]; rfl
theorem co_lt {p : P} {k : Nat} (h : k < p.length) : co p k = p[k] := by
  unfold co
  rw [List.getD_eq_getElem?_getD, List.getElem?_eq_getElem h]; rfl
theorem get_gl {p : P} {k : Nat} (h : k < p.length) : getI (gl p) (k : Int) = .ok (g (co p k)) := by
  rw [getI_lt (by rw [gl_len]; exact h), co_lt h]
  congr 1
  exact List.getElem_map _
theorem set_gl {p : P} {k : Nat} (a : F) (h : k < p.length) : setL (gl p) (k : Int) (g a) = .ok (gl (p.set k a)) := by
  rw [setL_lt _ (by rw [gl_len]; exact h)]
  congr 1
  exact List.map_set.symm
theorem co_set {p : P} {k : Nat} (a : F) (h : k < p.length) (j : Nat) : co (p.set k a) j = if j = k then a else co p j := by
  unfold co
  rw [List.getD_eq_getElem?_getD, List.getD_eq_getElem?_getD, List.getElem?_set]
  by_cases e : j = k
  · subst e; rw [if_pos rfl, if_pos rfl, if_pos h]; rfl
  · rw [if_neg (fun z => e z.symm), if_neg e]
theorem gl_inj {p q : P} (h : gl p = gl q) : p = q := (List.map_inj_right (fun a b => g_inj a b)).mp h
theorem gl_dec (p q : P) : decide (gl p = gl q) = decide (p = q) := by
  by_cases h : p = q
  · subst h; simp
  · rw [decide_eq_false h, decide_eq_false fun z => h (gl_inj z)]
theorem gl_rep (n : Nat) : List.replicate n (0 : Int) = gl (List.replicate n 0) := by
  unfold gl; rw [List.map_replicate]; rfl
theorem co_rep (n k : Nat) : co (List.replicate n (0 : F)) k = 0 := by
  unfold co
  rw [List.getD_eq_getElem?_getD, List.getElem?_replicate]
  split <;> rfl
theorem list_of {p q : P} (hl : p.length = q.length) (h : ∀ k, co p k = co q k) : p = q := by
  apply List.ext_getElem hl
  intro i h1 h2
  have := h i
  rwa [co_lt h1, co_lt h2] at this
/-- without the zeros at the end -/
def red : P → P
  | [] => []
  | a :: p => match red p with
    | [] => if a = 0 then [] else [a]
    | b :: r => a :: b :: r
theorem red_cons (a : F) (p : P) : red (a :: p) = match red p with
    | [] => if a = 0 then [] else [a]
    | b :: r => a :: b :: r := rfl
theorem co_red (p : P) : ∀ k, co (red p) k = co p k := by
  induction p with
  | nil => intro k; rfl
  | cons a p ih =>
    intro k
    rw [red_cons]
    cases e : red p with
    | nil =>
      rw [e] at ih
      dsimp only
      split
      · rename_i h
        cases k with
        | zero => rw [co_nil, co_cons0, h]
        | succ k => rw [co_conss, ← ih k, co_nil, co_nil]
      · cases k with
        | zero => rfl
        | succ k => rw [co_conss, co_conss, ← ih k]
    | cons b r =>
      rw [e] at ih
      dsimp only
      cases k with
      | zero => rfl
      | succ k => rw [co_conss, co_conss, ih k]
theorem red_zero {p : P} (h : ∀ k, co p k = 0) : red p = [] := by
  induction p with
  | nil => rfl
  | cons a p ih =>
    rw [red_cons, ih fun k => by have := h (k + 1); rwa [co_conss] at this]
    dsimp only
    rw [if_pos (by have := h 0; rwa [co_cons0] at this)]
theorem red_ext {p q : P} (h : ∀ k, co p k = co q k) : red p = red q := by
  induction p generalizing q with
  | nil => exact (red_zero fun k => (h k).symm).symm
  | cons a p ih =>
    cases q with
    | nil => exact red_zero h
    | cons b q =>
      have e0 := h 0
      rw [co_cons0, co_cons0] at e0
      subst e0
      rw [red_cons, red_cons, ih (q := q) fun k => by have := h (k + 1); rwa [co_conss, co_conss] at this]
theorem red_red (p : P) : red (red p) = red p := red_ext (co_red p)
theorem red_len (p : P) : (red p).length ≤ p.length := by
  induction p with
  | nil => exact Nat.le_refl _
  | cons a p ih =>
    rw [red_cons]
    cases e : red p with
    | nil => dsimp only; split <;> simp
    | cons b r => rw [e] at ih; simp only [List.length_cons] at ih ⊢; omega
theorem red_last (p : P) (h : red p ≠ []) : co p ((red p).length - 1) ≠ 0 := by
  induction p with
  | nil => exact absurd rfl h
  | cons a p ih =>
    rw [red_cons] at h ⊢
    cases e : red p with
    | nil =>
      rw [e] at h
      dsimp only at h ⊢
      split
      · rename_i z; rw [if_pos z] at h; exact absurd rfl h
      · rename_i z; exact z
    | cons b r =>
      dsimp only
      rw [e] at ih
      have := ih (by simp)
      simp only [List.length_cons, Nat.add_sub_cancel] at this ⊢
      rw [co_conss]
      exact this
theorem red_hi (p : P) {k : Nat} (h : (red p).length ≤ k) : co p k = 0 := by rw [← co_red, co_ge h]
theorem red_take (p : P) : p.take (red p).length = red p := by
  have hl := red_len p
  apply list_of
  · rw [List.length_take]; omega
  · intro k
    rw [co_red]
    by_cases h : k < (red p).length
    · rw [co_lt (by rw [List.length_take]; omega), co_lt (by omega), List.getElem_take]
    · rw [co_ge (by rw [List.length_take]; omega), red_hi p (by omega)]
theorem red_short {p : P} {n : Nat} (h : ∀ k, n ≤ k → co p k = 0) : (red p).length ≤ n := by
  by_cases z : red p = []
  · rw [z]; exact Nat.zero_le _
  · have := red_last p z
    have hp : (red p).length ≠ 0 := fun e => z (List.length_eq_zero_iff.mp e)
    by_cases hn : (red p).length ≤ n
    · exact hn
    · exact absurd (h _ (by omega)) this
theorem zero_g : ∀ a : F, decide (g a = 0) = decide (a = 0) := by decide +kernel
/-- one step of the strip -/
theorem strip_step (p : P) {s : Nat} (h1 : (red p).length ≤ s) (h2 : s ≤ p.length) :
    (bAnd (M.ok (decide ((s : Int) > 0))) (getI (gl p) ((s : Int) - 1) >>= fun x => M.ok (decide (x = 0)))) = .ok (decide ((red p).length < s)) := by
  rw [bAnd_l]
  cases s with
  | zero => rw [if_neg (by simp)]; simp
  | succ s =>
    rw [if_pos (decide_eq_true (by omega)), show ((s + 1 : Nat) : Int) - 1 = (s : Int) by omega, get_gl (by omega), M.ok_bind, zero_g]
    congr 1
    by_cases e : (red p).length < s + 1
    · rw [decide_eq_true e, decide_eq_true (red_hi p (by omega))]
    · rw [decide_eq_false e]
      have : (red p).length = s + 1 := by omega
      apply decide_eq_false
      have h := red_last p (fun z => by rw [z] at this; cases this)
      rw [this] at h
      exact h
/-! ### finite sums -/
def xs (n : Nat) (f : Nat → F) : F := match n with
  | 0 => 0
  | n + 1 => fa (xs n f) (f n)
theorem xs_succ (n : Nat) (f : Nat → F) : xs (n + 1) f = fa (xs n f) (f n) := rfl
theorem xs_congr {n : Nat} {f h : Nat → F} (e : ∀ i, i < n → f i = h i) : xs n f = xs n h := by
  induction n with
  | zero => rfl
  | succ n ih => rw [xs_succ, xs_succ, ih fun i hi => e i (by omega), e n (by omega)]
theorem xs_zero {n : Nat} {f : Nat → F} (e : ∀ i, i < n → f i = 0) : xs n f = 0 := by
  induction n with
  | zero => rfl
  | succ n ih => rw [xs_succ, ih fun i hi => e i (by omega), e n (by omega), fa_zero]
theorem xs_ext {n m : Nat} {f : Nat → F} (h : n ≤ m) (e : ∀ i, n ≤ i → f i = 0) : xs m f = xs n f := by
  induction m with
  | zero => rw [show n = 0 by omega]
  | succ m ih =>
    by_cases hn : n = m + 1
    · rw [hn]
    · rw [xs_succ, ih (by omega), e m (by omega), fa_zero]
theorem xs_head (n : Nat) (f : Nat → F) : xs (n + 1) f = fa (f 0) (xs n fun i => f (i + 1)) := by
  induction n with
  | zero => rw [xs_succ]; show fa 0 _ = fa _ 0; rw [zero_fa, fa_zero]
  | succ n ih => rw [xs_succ, ih, xs_succ, fa_assoc]
theorem xs_upd {n : Nat} {f h : Nat → F} {j : Nat} (hj : j < n) (h0 : f j = 0) (e : ∀ i, i ≠ j → h i = f i) : xs n h = fa (xs n f) (h j) := by
  induction n with
  | zero => omega
  | succ n ih =>
    rw [xs_succ, xs_succ]
    by_cases q : j = n
    · subst q
      rw [h0, fa_zero, xs_congr (n := j) fun i hi => e i (by omega)]
    · rw [ih (by omega), e n fun z => q z.symm, ← fa_assoc, fa_comm (h j), fa_assoc]
theorem fa_fa (a b : F) : fa (fa a b) b = a := by rw [← fa_assoc, fa_self, fa_zero]
/-! ### shifts and products -/
def sh (i : Nat) (a : F) (d : P) (k : Nat) : F := if i ≤ k then fm a (co d (k - i)) else 0
theorem sh_zero (i : Nat) (d : P) (k : Nat) : sh i 0 d k = 0 := by unfold sh; rw [zero_fm]; split <;> rfl
theorem sh_ext {i : Nat} {a : F} {d d' : P} (h : ∀ k, co d k = co d' k) (k : Nat) : sh i a d k = sh i a d' k := by unfold sh; rw [h]
def cp (p d : P) (k : Nat) : F := xs p.length fun i => sh i (co p i) d k
theorem cp_ext {p p' d d' : P} (hp : ∀ k, co p k = co p' k) (hd : ∀ k, co d k = co d' k) (k : Nat) : cp p d k = cp p' d' k := by
  have e : ∀ (q : P) (n : Nat), q.length ≤ n → cp q d k = xs n fun i => sh i (co q i) d k := fun q n h => (xs_ext h fun i hi => by rw [co_ge hi, sh_zero]).symm
  have e' : cp p' d' k = cp p' d k := xs_congr fun i _ => sh_ext (fun k => (hd k).symm) k
  rw [e', e p (max p.length p'.length) (by omega), e p' (max p.length p'.length) (by omega)]
  exact xs_congr fun i _ => by rw [hp]
theorem cp_nil (d : P) (k : Nat) : cp [] d k = 0 := rfl
theorem cp_cons (a : F) (p d : P) (k : Nat) : cp (a :: p) d k = fa (fm a (co d k)) (match k with | 0 => 0 | k + 1 => cp p d k) := by
  unfold cp
  rw [List.length_cons, xs_head, show sh 0 (co (a :: p) 0) d k = fm a (co d k) by unfold sh; rw [if_pos (Nat.zero_le _), co_cons0, Nat.sub_zero]]
  apply congrArg
  cases k with
  | zero => exact xs_zero fun i _ => by unfold sh; rw [if_neg (by omega)]
  | succ k =>
    refine xs_congr fun i _ => ?_
    unfold sh
    rw [co_conss]
    by_cases h : i ≤ k
    · rw [if_pos h, if_pos (by omega), show k + 1 - (i + 1) = k - i by omega]
    · rw [if_neg h, if_neg (by omega)]
/-! ### values -/
def ev (p : P) (x : F) : F := p.foldr (fun s v => fa (fm v x) s) 0
theorem ev_cons (a : F) (p : P) (x : F) : ev (a :: p) x = fa (fm (ev p x) x) a := rfl
theorem ev_zero {p : P} (h : ∀ k, co p k = 0) (x : F) : ev p x = 0 := by
  induction p with
  | nil => rfl
  | cons a p ih =>
    rw [ev_cons, ih fun k => by have := h (k + 1); rwa [co_conss] at this]
    have := h 0
    rw [co_cons0] at this
    rw [this, zero_fm, fa_zero]
theorem ev_ext {p q : P} (h : ∀ k, co p k = co q k) (x : F) : ev p x = ev q x := by
  induction p generalizing q with
  | nil => exact (ev_zero (fun k => (h k).symm) x).symm
  | cons a p ih =>
    cases q with
    | nil => exact ev_zero h x
    | cons b q =>
      have e0 := h 0
      rw [co_cons0, co_cons0] at e0
      subst e0
      rw [ev_cons, ev_cons, ih (q := q) fun k => by have := h (k + 1); rwa [co_conss, co_conss] at this]
def pa : P → P → P
  | [], q => q
  | p, [] => p
  | a :: p, b :: q => fa a b :: pa p q
theorem co_pa : ∀ (p q : P) (k : Nat), co (pa p q) k = fa (co p k) (co q k)
  | [], q, k => by rw [co_nil, zero_fa]; rfl
  | a :: p, [], k => by rw [co_nil, fa_zero]; rfl
  | a :: p, b :: q, 0 => rfl
  | a :: p, b :: q, k + 1 => by
    rw [co_conss, co_conss]
    exact co_pa p q k
theorem ev_pa : ∀ (p q : P) (x : F), ev (pa p q) x = fa (ev p x) (ev q x)
  | [], q, x => by show ev q x = fa 0 _; rw [zero_fa]
  | a :: p, [], x => by show ev (a :: p) x = fa _ 0; rw [fa_zero]
  | a :: p, b :: q, x => by
    show fa (fm (ev (pa p q) x) x) (fa a b) = fa (fa (fm (ev p x) x) a) (fa (fm (ev q x) x) b)
    rw [ev_pa p q x, fm_comm _ x, fm_add, fm_comm x, fm_comm x]
    generalize fm (ev p x) x = u
    generalize fm (ev q x) x = v
    rw [← fa_assoc, ← fa_assoc, fa_assoc v, fa_comm v a, fa_assoc a v b]
theorem ev_scale (a : F) (d : P) (x : F) : ev (d.map (fm a)) x = fm a (ev d x) := by
  induction d with
  | nil => show (0 : F) = fm a 0; rw [fm_zero]
  | cons b d ih => rw [List.map_cons, ev_cons, ev_cons, ih, fm_add, fm_assoc]
theorem co_scale (a : F) (d : P) (k : Nat) : co (d.map (fm a)) k = fm a (co d k) := by
  induction d generalizing k with
  | nil => rw [List.map_nil, co_nil, fm_zero]
  | cons b d ih =>
    cases k with
    | zero => rfl
    | succ k => rw [List.map_cons, co_conss, co_conss, ih]
def cv : P → P → P
  | [], _ => []
  | a :: p, d => pa (d.map (fm a)) (0 :: cv p d)
theorem co_cv (p d : P) : ∀ k, co (cv p d) k = cp p d k := by
  induction p with
  | nil => intro k; rfl
  | cons a p ih =>
    intro k
    show co (pa _ _) k = _
    rw [co_pa, co_scale, cp_cons]
    congr 1
    cases k with
    | zero => rfl
    | succ k => rw [co_conss, ih]
theorem ev_cv (p d : P) (x : F) : ev (cv p d) x = fm (ev p x) (ev d x) := by
  induction p with
  | nil => show (0 : F) = fm 0 _; rw [zero_fm]
  | cons a p ih =>
    show ev (pa _ _) x = _
    rw [ev_pa, ev_scale, ev_cons, ev_cons, ih, fa_zero, fm_comm (fa _ a) _, fm_add, fm_comm (ev d x) a, fa_comm (fm a _)]
    congr 1
    rw [← fm_assoc, fm_comm (ev d x) x, fm_comm (ev d x), fm_assoc]
theorem co_appl {r : P} (s : P) {k : Nat} (h : k < r.length) : co (r ++ s) k = co r k := by
  unfold co
  rw [List.getD_eq_getElem?_getD, List.getD_eq_getElem?_getD, List.getElem?_append_left h]
theorem co_appr (r : P) (a : F) : co (r ++ [a]) r.length = a := by
  unfold co
  rw [List.getD_eq_getElem?_getD, List.getElem?_append_right (Nat.le_refl _), Nat.sub_self]
  rfl
def psum (p q : P) : P := red (pa p q)
theorem pa_len (p q : P) : (pa p q).length = max p.length q.length := by
  induction p generalizing q with
  | nil => show q.length = _; simp
  | cons a p ih =>
    cases q with
    | nil => show (a :: p).length = _; simp
    | cons b q => show (fa a b :: pa p q).length = _; simp only [List.length_cons, ih]; omega
theorem gl_at {p : P} {i : Nat} (h : i < (gl p).length) : (gl p)[i] = g (p[i]'(by rw [← gl_len p]; exact h)) := List.getElem_map _
theorem gl_append (p q : P) : gl p ++ gl q = gl (p ++ q) := by unfold gl; rw [List.map_append]
theorem gl_one (a : F) : [g a] = gl [a] := rfl
theorem gl_take (p : P) (n : Nat) : (gl p).take n = gl (p.take n) := by unfold gl; rw [List.map_take]
theorem loop_ev {f : Int → Int → M Int} {x : F} (hf : ∀ v s : F, f (g v) (g s) = .ok (g (fa (fm v x) s))) : ∀ p : P, loopS f ((gl p).reverse) (g 0) = .ok (g (ev p x))
  | [] => rfl
  | a :: p => by
    show loopS f ((g a :: gl p).reverse) _ = _
    rw [List.reverse_cons, loopS_append, loop_ev hf p, M.ok_bind, loopS_cons, hf, M.ok_bind, loopS_nil, ev_cons]
theorem fm_back (r a : F) (h : a ≠ 0) : fm (fm r (fi a)) a = r := by rw [← fm_assoc, fi_mul a h, fm_one]
end Vc.Gf

set_option Elab.async false
set_option linter.all false
set_option maxRecDepth 100000
namespace Vc.Gf
open PySem PySem.Spec PyProof.Rows L2 Vc
instance : Std.Associative fm := ⟨fun a b c => (fm_assoc a b c).symm⟩
instance : Std.Commutative fm := ⟨fm_comm⟩
instance : Std.Associative fa := ⟨fun a b c => (fa_assoc a b c).symm⟩
instance : Std.Commutative fa := ⟨fa_comm⟩
theorem add_fm (a b c : F) : fm (fa a b) c = fa (fm a c) (fm b c) := by rw [fm_comm, fm_add, fm_comm c, fm_comm c]
theorem fa_eq0 : ∀ a b : F, fa a b = 0 → a = b := by decide +kernel
theorem fa_ne {a b : F} (h : a ≠ b) : fa a b ≠ 0 := fun z => h (fa_eq0 a b z)
theorem mul_fi {a : F} (h : a ≠ 0) : fm a (fi a) = 1 := by rw [fm_comm, fi_mul a h]
theorem fm_eq0 : ∀ a b : F, fm a b = 0 → a = 0 ∨ b = 0 := by decide +kernel
/-! ### sums and products -/
theorem xs_fm (n : Nat) (f : Nat → F) (c : F) : fm (xs n f) c = xs n fun k => fm (f k) c := by
  induction n with
  | zero => exact zero_fm c
  | succ n ih => rw [xs_succ, xs_succ, add_fm, ih]
theorem xs_fa (n : Nat) (f h : Nat → F) : fa (xs n f) (xs n h) = xs n fun k => fa (f k) (h k) := by
  induction n with
  | zero => rfl
  | succ n ih => rw [xs_succ, xs_succ, xs_succ, ← ih]; ac_rfl
def pr (n : Nat) (f : Nat → F) : F := match n with
  | 0 => 1
  | n + 1 => fm (pr n f) (f n)
theorem pr_succ (n : Nat) (f : Nat → F) : pr (n + 1) f = fm (pr n f) (f n) := rfl
theorem pr_congr {n : Nat} {f h : Nat → F} (e : ∀ i, i < n → f i = h i) : pr n f = pr n h := by
  induction n with
  | zero => rfl
  | succ n ih => rw [pr_succ, pr_succ, ih fun i hi => e i (by omega), e n (by omega)]
theorem pr_head (n : Nat) (f : Nat → F) : pr (n + 1) f = fm (f 0) (pr n fun i => f (i + 1)) := by
  induction n with
  | zero => show fm 1 _ = fm _ 1; rw [fm_one, one_fm]
  | succ n ih => rw [pr_succ, ih, pr_succ, fm_assoc]
theorem pr_mul (n : Nat) (f h : Nat → F) : pr n (fun j => fm (f j) (h j)) = fm (pr n f) (pr n h) := by
  induction n with
  | zero => show 1 = fm 1 1; rw [fm_one]
  | succ n ih => rw [pr_succ, pr_succ, pr_succ, ih]; ac_rfl
theorem pr_zero {n k : Nat} {f : Nat → F} (hk : k < n) (h : f k = 0) : pr n f = 0 := by
  induction n with
  | zero => omega
  | succ n ih =>
    rw [pr_succ]
    by_cases e : k = n
    · subst e; rw [h, fm_zero]
    · rw [ih (by omega), zero_fm]
theorem pr_one {n : Nat} {f : Nat → F} (h : ∀ i, i < n → f i = 1) : pr n f = 1 := by
  induction n with
  | zero => rfl
  | succ n ih => rw [pr_succ, ih fun i hi => h i (by omega), h n (by omega), fm_one]
/-- the product without the factor k -/
def prx (n k : Nat) (f : Nat → F) : F := pr n fun j => if j = k then 1 else f j
theorem prx_split {n k : Nat} (f : Nat → F) (hk : k < n) : pr n f = fm (f k) (prx n k f) := by
  induction n with
  | zero => omega
  | succ n ih =>
    unfold prx at ih ⊢
    rw [pr_succ, pr_succ]
    by_cases e : k = n
    · subst e
      rw [if_pos rfl, fm_one, fm_comm (f k)]
      rw [pr_congr (n := k) (f := fun j => if j = k then 1 else f j) (h := f) fun i hi => if_neg (by omega)]
    · rw [if_neg (fun z => e z.symm), ih (by omega)]; ac_rfl
theorem prx_succ {n k : Nat} (f : Nat → F) (hk : k < n) : prx (n + 1) k f = fm (prx n k f) (f n) := by
  unfold prx; rw [pr_succ, if_neg (by omega)]
theorem prx_last (n : Nat) (f : Nat → F) : prx (n + 1) n f = pr n f := by
  unfold prx; rw [pr_succ, if_pos rfl, fm_one]; exact pr_congr fun i hi => if_neg (by omega)
theorem prx_mul (n k : Nat) (f h : Nat → F) : prx n k (fun j => fm (f j) (h j)) = fm (prx n k f) (prx n k h) := by
  unfold prx
  rw [← pr_mul]
  apply pr_congr
  intro i _
  split
  · rw [fm_one]
  · rfl
theorem prx_head {n k : Nat} (f : Nat → F) : prx (n + 1) (k + 1) f = fm (f 0) (prx n k fun j => f (j + 1)) := by
  unfold prx
  rw [pr_head, if_neg (by omega)]
  congr 1
  apply pr_congr
  intro i _
  by_cases e : i = k
  · rw [if_pos e, if_pos (by omega)]
  · rw [if_neg e, if_neg (by omega)]
/-! ### Lagrange and Newton -/
section
variable (X Y : Nat → F)
def lgt (t : F) (n k : Nat) : F := fm (Y k) (prx n k fun j => fm (fa t (X j)) (fi (fa (X k) (X j))))
/-- the value at t of the polynomial through n points -/
def lg (t : F) (n : Nat) : F := xs n (lgt X Y t n)
/-- the divided difference of the first n + 1 points -/
def dd (n : Nat) : F := xs (n + 1) fun k => fm (Y k) (prx (n + 1) k fun j => fi (fa (X k) (X j)))
end
def Dist (X : Nat → F) (n : Nat) : Prop := ∀ i j, i < n → j < n → i ≠ j → X i ≠ X j
theorem Dist.le {X : Nat → F} {n m : Nat} (h : Dist X n) (l : m ≤ n) : Dist X m := fun i j hi hj e => h i j (by omega) (by omega) e
theorem dd_zero (X Y : Nat → F) : dd X Y 0 = Y 0 := by
  unfold dd; rw [xs_succ, prx_last]; show fa 0 (fm _ 1) = _; rw [zero_fa, fm_one]
theorem lg_succ {X Y : Nat → F} {n : Nat} (h : Dist X (n + 1)) (t : F) : lg X Y t (n + 1) = fa (lg X Y t n) (fm (dd X Y n) (pr n fun j => fa t (X j))) := by
  unfold lg dd
  rw [xs_succ, xs_succ, add_fm, xs_fm, fa_assoc, xs_fa]
  congr 1
  · apply xs_congr
    intro k hk
    unfold lgt
    have hn : fa (X k) (X n) ≠ 0 := fa_ne (h k n (by omega) (by omega) (by omega))
    rw [prx_succ _ hk, prx_succ _ hk, prx_mul, prx_split (fun j => fa t (X j)) hk]
    generalize prx n k (fun j => fa t (X j)) = A
    generalize prx n k (fun j => fi (fa (X k) (X j))) = B
    have e : fa t (X n) = fa (fa (X k) (X n)) (fa t (X k)) := by
      have : fa (fa (X k) (X n)) (fa t (X k)) = fa (fa t (X n)) (fa (X k) (X k)) := by ac_rfl
      rw [this, fa_self, fa_zero]
    rw [e]
    generalize hv : fa (X k) (X n) = v at hn
    generalize fa t (X k) = u
    generalize Y k = y
    rw [add_fm, mul_fi hn, fm_add, fm_one, fm_add]
    congr 1
    ac_rfl
  · unfold lgt
    rw [prx_last, prx_last, pr_mul]
    generalize pr n (fun j => fa t (X j)) = A
    ac_rfl
/-- Newton's form of the value -/
def nw (X D : Nat → F) (t : F) (n : Nat) : F := xs n fun a => fm (D a) (pr a fun j => fa t (X j))
theorem lg_nw {X Y : Nat → F} {n : Nat} (h : Dist X n) (t : F) : lg X Y t n = nw X (dd X Y) t n := by
  induction n with
  | zero => rfl
  | succ n ih => rw [lg_succ h, ih (h.le (by omega))]; rfl
theorem nw_head (X D : Nat → F) (t : F) (n : Nat) : nw X D t (n + 1) = fa (fm (nw (fun j => X (j + 1)) (fun j => D (j + 1)) t n) (fa t (X 0))) (D 0) := by
  unfold nw
  rw [xs_head, fa_comm, xs_fm]
  congr 1
  · apply xs_congr
    intro k _
    dsimp only
    rw [pr_head]; ac_rfl
  · exact fm_one _
theorem dd_step {X Y : Nat → F} {n : Nat} (h : Dist X (n + 2)) : fm (fa (dd (fun j => X (j + 1)) (fun j => Y (j + 1)) n) (dd X Y n)) (fi (fa (X (n + 1)) (X 0))) = dd X Y (n + 1) := by
  have h0 : fa (X (n + 1)) (X 0) ≠ 0 := fa_ne (h _ _ (by omega) (by omega) (by omega))
  have key : fa (dd (fun j => X (j + 1)) (fun j => Y (j + 1)) n) (dd X Y n) = fm (dd X Y (n + 1)) (fa (X (n + 1)) (X 0)) := by
    have e1 : dd (fun j => X (j + 1)) (fun j => Y (j + 1)) n = fm (dd X Y (n + 1)) (fa (X 0) (X 0)) ∨ True := .inr trivial
    have e1 : dd (fun j => X (j + 1)) (fun j => Y (j + 1)) n = xs (n + 2) fun k => fm (fm (Y k) (prx (n + 2) k fun j => fi (fa (X k) (X j)))) (fa (X k) (X 0)) := by
      unfold dd
      rw [xs_head (n + 1), fa_self, fm_zero, zero_fa]
      apply xs_congr
      intro k hk
      have hk0 : fa (X (k + 1)) (X 0) ≠ 0 := fa_ne (h _ _ (by omega) (by omega) (by omega))
      rw [prx_head]
      generalize prx (n + 1) k (fun j => fi (fa (X (k + 1)) (X (j + 1)))) = A
      have : fm (fm (Y (k + 1)) (fm (fi (fa (X (k + 1)) (X 0))) A)) (fa (X (k + 1)) (X 0)) = fm (fm (Y (k + 1)) A) (fm (fi (fa (X (k + 1)) (X 0))) (fa (X (k + 1)) (X 0))) := by ac_rfl
      rw [this, fi_mul _ hk0, fm_one]
    have e2 : dd X Y n = xs (n + 2) fun k => fm (fm (Y k) (prx (n + 2) k fun j => fi (fa (X k) (X j)))) (fa (X k) (X (n + 1))) := by
      unfold dd
      rw [xs_succ (n + 1), fa_self, fm_zero, fa_zero]
      apply xs_congr
      intro k hk
      have hk0 : fa (X k) (X (n + 1)) ≠ 0 := fa_ne (h _ _ (by omega) (by omega) (by omega))
      rw [prx_succ _ hk]
      generalize prx (n + 1) k (fun j => fi (fa (X k) (X j))) = A
      have : fm (fm (Y k) (fm A (fi (fa (X k) (X (n + 1)))))) (fa (X k) (X (n + 1))) = fm (fm (Y k) A) (fm (fi (fa (X k) (X (n + 1)))) (fa (X k) (X (n + 1)))) := by ac_rfl
      rw [this, fi_mul _ hk0, fm_one]
    rw [e1, e2, xs_fa, show dd X Y (n + 1) = xs (n + 2) fun k => fm (Y k) (prx (n + 2) k fun j => fi (fa (X k) (X j))) from rfl, xs_fm]
    apply xs_congr
    intro k hk
    rw [← fm_add]
    congr 1
    have : fa (fa (X k) (X 0)) (fa (X k) (X (n + 1))) = fa (fa (X (n + 1)) (X 0)) (fa (X k) (X k)) := by ac_rfl
    rw [this, fa_self, fa_zero]
  rw [key, ← fm_assoc, mul_fi h0, fm_one]
theorem lg_at {X Y : Nat → F} {n i : Nat} (h : Dist X n) (hi : i < n) : lg X Y (X i) n = Y i := by
  unfold lg
  have : xs n (lgt X Y (X i) n) = fa (xs n fun _ => 0) (lgt X Y (X i) n i) := by
    apply xs_upd hi rfl
    intro k hk
    by_cases hk2 : k < n
    · unfold lgt prx
      rw [pr_zero (k := i) hi (by rw [if_neg (fun z => hk z.symm)]; dsimp only; rw [fa_self, zero_fm]), fm_zero]
    · unfold lgt prx
      rw [pr_zero (k := i) hi (by rw [if_neg (fun z => hk z.symm)]; dsimp only; rw [fa_self, zero_fm]), fm_zero]
  rw [this, xs_zero fun _ _ => rfl, zero_fa]
  unfold lgt
  rw [show prx n i (fun j => fm (fa (X i) (X j)) (fi (fa (X i) (X j)))) = 1 from pr_one fun j hj => by
    split
    · rfl
    · rename_i e; exact mul_fi (fa_ne (h _ _ hi hj fun z => e z.symm)), fm_one]
theorem lg_congr {X Y X' Y' : Nat → F} {n : Nat} {t : F} (hX : ∀ i, i < n → X i = X' i) (hY : ∀ i, i < n → Y i = Y' i) : lg X Y t n = lg X' Y' t n := by
  unfold lg
  apply xs_congr
  intro k hk
  unfold lgt prx
  rw [hY k hk, hX k hk]
  congr 1
  apply pr_congr
  intro j hj
  dsimp only
  rw [hX j hj]
/-! ### as a polynomial; roots -/
theorem ev_lin (a t : F) : ev [a, 1] t = fa t a := by
  show fa (fm (fa (fm 0 t) 1) t) a = _
  rw [zero_fm, zero_fa, one_fm]
theorem cv_len (p : P) (a b : F) (h : p ≠ []) : (cv p [a, b]).length = p.length + 1 := by
  induction p with
  | nil => exact absurd rfl h
  | cons c p ih =>
    show (pa ([a, b].map (fm c)) (0 :: cv p [a, b])).length = _
    rw [pa_len]
    by_cases hp : p = []
    · subst hp; rfl
    · rw [List.length_cons, ih hp]; simp only [List.length_map, List.length_cons, List.length_nil]; omega
theorem pr_poly (X : Nat → F) (n : Nat) : ∃ p : P, p.length = n + 1 ∧ ∀ t, ev p t = pr n fun j => fa t (X j) := by
  induction n with
  | zero => exact ⟨[1], rfl, fun t => by show fa (fm 0 t) 1 = 1; rw [zero_fm, zero_fa]⟩
  | succ n ih =>
    obtain ⟨p, hl, hp⟩ := ih
    refine ⟨cv p [X n, 1], by rw [cv_len _ _ _ (by rintro rfl; cases hl), hl], fun t => ?_⟩
    rw [ev_cv, hp, ev_lin, pr_succ]
theorem lg_poly {X Y : Nat → F} {n : Nat} (h : Dist X n) : ∃ p : P, p.length = n ∧ ∀ t, ev p t = lg X Y t n := by
  induction n with
  | zero => exact ⟨[], rfl, fun _ => rfl⟩
  | succ n ih =>
    obtain ⟨p, hl, hp⟩ := ih (h.le (by omega))
    obtain ⟨q, hm, hq⟩ := pr_poly X n
    refine ⟨pa p (q.map (fm (dd X Y n))), by rw [pa_len, List.length_map]; omega, fun t => ?_⟩
    rw [ev_pa, hp, ev_scale, hq, lg_succ h]
/-- synthetic division -/
def qd (x : F) : P → P
  | [] => []
  | a :: p => ev (a :: p) x :: qd x p
theorem qd_len (x : F) (p : P) : (qd x p).length = p.length := by induction p with
  | nil => rfl
  | cons a p ih => show (_ :: _ : P).length = _; rw [List.length_cons, List.length_cons, ih]
theorem ev_qd (a : F) (p : P) (x t : F) : ev (a :: p) t = fa (ev (a :: p) x) (fm (fa t x) (ev (qd x p) t)) := by
  induction p generalizing a with
  | nil =>
    show fa (fm 0 t) a = fa (fa (fm 0 x) a) (fm _ 0)
    rw [zero_fm, zero_fm, fm_zero, fa_zero]
  | cons b p ih =>
    rw [ev_cons, ev_cons a, show qd x (b :: p) = ev (b :: p) x :: qd x p from rfl, ev_cons (ev (b :: p) x), ih b]
    generalize ev (b :: p) x = u
    generalize ev (qd x p) t = v
    generalize hw : fa t x = w
    have e : fm w u = fa (fm u t) (fm u x) := by rw [← hw, add_fm, fm_comm t, fm_comm x]
    rw [add_fm, fm_add, e]
    have e2 : fa (fa (fm u x) a) (fa (fm w (fm v t)) (fa (fm u t) (fm u x))) = fa (fa (fa (fm u t) (fm (fm w v) t)) a) (fa (fm u x) (fm u x)) := by ac_rfl
    rw [e2, fa_self, fa_zero]
theorem roots {n : Nat} : ∀ (p : P) (S : List F), p.length ≤ S.length → S.length = n → S.Nodup → (∀ s ∈ S, ev p s = 0) → ∀ t, ev p t = 0 := by
  induction n with
  | zero =>
    intro p S h1 h2 _ _ t
    have : p = [] := List.length_eq_zero_iff.mp (by omega)
    subst this; rfl
  | succ n ih =>
    intro p S h1 h2 hd hr t
    cases p with
    | nil => rfl
    | cons a p =>
      cases S with
      | nil => cases h2
      | cons x S =>
        rw [List.nodup_cons] at hd
        have hx := hr x (by simp)
        rw [ev_qd a p x t, hx, zero_fa]
        rw [ih (qd x p) S (by rw [qd_len]; simpa using h1) (by simpa using h2) hd.2 (fun s hs => ?_) t, fm_zero]
        have := hr s (by simp [hs])
        rw [ev_qd a p x s, hx, zero_fa] at this
        rcases fm_eq0 _ _ this with h | h
        · exact absurd (fa_eq0 _ _ h ▸ hs) hd.1
        · exact h
theorem ev_unique {p q : P} (S : List F) (hp : p.length ≤ S.length) (hq : q.length ≤ S.length) (hd : S.Nodup) (h : ∀ s ∈ S, ev p s = ev q s) (t : F) : ev p t = ev q t := by
  have := roots (pa p q) S (by rw [pa_len]; omega) rfl hd (fun s hs => by rw [ev_pa, h s hs, fa_self]) t
  rw [ev_pa] at this
  exact fa_eq0 _ _ this
end Vc.Gf

set_option Elab.async false
set_option linter.all false
set_option maxRecDepth 100000
namespace Vc.Gf
open PySem PySem.Spec PyProof.Rows L2 Vc
def nF (i : Nat) : F := Fin.ofNat 16 i
theorem g_nF {i : Nat} (h : i < 16) : g (nF i) = (i : Int) := by
  show ((i % 16 : Nat) : Int) = _; rw [Nat.mod_eq_of_lt h]
theorem nF_inj {i j : Nat} (hi : i < 16) (hj : j < 16) (h : nF i = nF j) : i = j := by
  have := congrArg g h; rw [g_nF hi, g_nF hj] at this; omega
theorem Dist_nF {n : Nat} (h : n ≤ 16) : Dist nF n := fun i j hi hj e z => e (nF_inj (by omega) (by omega) z)
theorem Dist_fn {n : Nat} {K : Nat → Nat} (h : ∀ i, i < n → K i < 16) (hd : ∀ i j, i < n → j < n → i ≠ j → K i ≠ K j) : Dist (fun i => nF (K i)) n := fun i j hi hj e z => hd i j hi hj e (nF_inj (h i hi) (h j hj) z)
/-- a list of symbols by a function -/
def fl (n : Nat) (R : Nat → F) : List Int := (List.range n).map fun a => g (R a)
@[simp] theorem fl_len (n : Nat) (R : Nat → F) : (fl n R).length = n := by unfold fl; rw [List.length_map, List.length_range]
theorem fl_congr {n : Nat} {R R' : Nat → F} (h : ∀ i, i < n → R i = R' i) : fl n R = fl n R' := by
  unfold fl; apply List.map_congr_left; intro a ha; rw [h a (List.mem_range.mp ha)]
theorem fl_getElem {n : Nat} (R : Nat → F) {i : Nat} (h : i < (fl n R).length) : (fl n R)[i] = g (R i) := by
  unfold fl at h ⊢; rw [List.getElem_map, List.getElem_range]
theorem fl_get {n : Nat} (R : Nat → F) {i : Nat} (h : i < n) : getI (fl n R) (i : Int) = .ok (g (R i)) := by
  rw [getI_lt (by rw [fl_len]; exact h), fl_getElem]
theorem fl_set {n : Nat} (R : Nat → F) {i : Nat} (v : F) (h : i < n) : setL (fl n R) (i : Int) (g v) = .ok (fl n fun a => if a = i then v else R a) := by
  rw [setL_lt _ (by rw [fl_len]; exact h)]
  congr 1
  apply List.ext_getElem
  · rw [List.length_set, fl_len, fl_len]
  · intro j h1 h2
    rw [List.getElem_set, fl_getElem, fl_getElem]
    by_cases e : i = j
    · subst e; rw [if_pos rfl, if_pos rfl]
    · rw [if_neg e, if_neg (fun z : j = i => e z.symm)]
theorem gl_fl (p : P) : gl p = fl p.length (co p) := by
  apply List.ext_getElem
  · rw [gl_len, fl_len]
  · intro i h1 h2
    rw [fl_getElem, gl_at, co_lt (by rw [gl_len] at h1; exact h1)]
theorem fl_gl (n : Nat) (R : Nat → F) : fl n R = gl ((List.range n).map R) := by
  unfold fl gl; rw [List.map_map]; rfl
/-- points with values -/
def pt (n : Nat) (X Y : Nat → F) : List (Int × Int) := (List.range n).map fun a => (g (X a), g (Y a))
@[simp] theorem pt_len (n : Nat) (X Y : Nat → F) : (pt n X Y).length = n := by unfold pt; rw [List.length_map, List.length_range]
theorem pt_get {n : Nat} (X Y : Nat → F) {i : Nat} (h : i < n) : getI (pt n X Y) (i : Int) = .ok (g (X i), g (Y i)) := by
  rw [getI_lt (by rw [pt_len]; exact h)]
  congr 1
  unfold pt; rw [List.getElem_map, List.getElem_range]
theorem rng_gl {a b : Nat} (h : b ≤ 16) : rng (a : Int) (b : Int) = gl ((List.range (b - a)).map fun i => nF (a + i)) := by
  unfold rng gl
  rw [show ((b : Int) - (a : Int)).toNat = b - a by omega, List.map_map]
  apply List.map_congr_left
  intro i hi
  have := List.mem_range.mp hi
  show (a : Int) + (i : Int) = g (nF (a + i))
  rw [g_nF (by omega)]
  rfl
theorem rng0_gl {b : Nat} (h : b ≤ 16) : rng 0 (b : Int) = gl ((List.range b).map nF) := by
  have := rng_gl (a := 0) h
  rw [show ((0 : Nat) : Int) = 0 from rfl] at this
  rw [this, Nat.sub_zero]
  congr 2
  funext i; rw [Nat.zero_add]
theorem rng1 (n : Nat) : rng 1 (n : Int) = (List.range (n - 1)).map fun i : Nat => ((i + 1 : Nat) : Int) := by
  unfold rng
  rw [show ((n : Int) - 1).toNat = n - 1 by omega]
  apply List.map_congr_left
  intro a _
  show (1 : Int) + (a : Int) = _
  omega
theorem rngD_to {n k : Nat} (h : k ≤ n) : rngD ((n : Int) - 1) ((k : Int) - 1) = (List.range (n - k)).map fun i : Nat => ((n - 1 - i : Nat) : Int) := by
  unfold rngD
  rw [show ((n : Int) - 1 - ((k : Int) - 1)).toNat = n - k by omega]
  apply List.map_congr_left
  intro a ha
  have := List.mem_range.mp ha
  omega
/-! ### the table of the divided differences -/
def ddl (X Y : Nat → F) (lo m : Nat) : F := dd (fun j => X (lo + j)) (fun j => Y (lo + j)) m
/-- row s of the table: place a -/
def ddT (X Y : Nat → F) (s a : Nat) : F := ddl X Y (a - min s a) (min s a)
theorem ddT_zero (X Y : Nat → F) (a : Nat) : ddT X Y 0 a = Y a := by
  unfold ddT ddl; rw [Nat.zero_min, dd_zero]; show Y (a - 0 + 0) = _; rw [Nat.sub_zero, Nat.add_zero]
theorem ddT_low {X Y : Nat → F} {s a : Nat} (h : a ≤ s) : ddT X Y (s + 1) a = ddT X Y s a := by
  unfold ddT; rw [Nat.min_eq_right h, Nat.min_eq_right (by omega)]
theorem ddT_end {X Y : Nat → F} {s a : Nat} (h : a ≤ s) : ddT X Y s a = dd X Y a := by
  unfold ddT ddl; rw [Nat.min_eq_right h, Nat.sub_self]
  congr 1 <;> (funext j; rw [Nat.zero_add])
theorem ddT_step {X Y : Nat → F} {n s a : Nat} (hd : Dist X n) (h : s + 1 ≤ a) (ha : a < n) : fm (fa (ddT X Y s a) (ddT X Y s (a - 1))) (fi (fa (X a) (X (a - (s + 1))))) = ddT X Y (s + 1) a := by
  unfold ddT ddl
  rw [Nat.min_eq_left (by omega), Nat.min_eq_left (by omega), Nat.min_eq_left h]
  obtain ⟨lo, rfl⟩ : ∃ lo, a = lo + (s + 1) := ⟨a - (s + 1), by omega⟩
  have D : Dist (fun j => X (lo + j)) (s + 2) := fun i j hi hj e => hd _ _ (by omega) (by omega) (by omega)
  have := dd_step (Y := fun j => Y (lo + j)) D
  rw [show lo + (s + 1) - (s + 1) = lo by omega, show lo + (s + 1) - s = lo + 1 by omega, show lo + (s + 1) - 1 - s = lo by omega, ← this]
  rw [show (fun j => X (lo + 1 + j)) = fun j => X (lo + (j + 1)) from funext fun j => by rw [Nat.add_assoc, Nat.add_comm 1 j], show (fun j => Y (lo + 1 + j)) = fun j => Y (lo + (j + 1)) from funext fun j => by rw [Nat.add_assoc, Nat.add_comm 1 j]]
  rfl
/-- Newton's form from the place lo on -/
theorem nw_shift {X D : Nat → F} {t : F} {n k : Nat} (h : k < n) : fa (fm (nw (fun j => X (n - k + j)) (fun j => D (n - k + j)) t k) (fa t (X (n - 1 - k)))) (D (n - 1 - k)) = nw (fun j => X (n - (k + 1) + j)) (fun j => D (n - (k + 1) + j)) t (k + 1) := by
  rw [nw_head]
  rw [show n - 1 - k = n - (k + 1) + 0 by omega]
  rw [show (fun j => X (n - k + j)) = fun j => X (n - (k + 1) + (j + 1)) from funext fun j => by congr 1; omega, show (fun j => D (n - k + j)) = fun j => D (n - (k + 1) + (j + 1)) from funext fun j => by congr 1; omega]
end Vc.Gf

set_option Elab.async false
set_option linter.all false
set_option maxRecDepth 100000
set_option maxHeartbeats 4000000
namespace Q
open PySem PySem.Spec PyProof.Rows L2 Vc
open Vc.Enc (enc)
def top (i : Nat) : Stmt := PySem.Challenge.pw_paperark_k29_codewords_and_missing_symbo.main.body.getD i (.Pass ⟨0, 0, 0, 0⟩)
def k_tab : ETab := [("ArchiveError", ["ArchiveError", "ValueError", "Exception", "BaseException"]), ("InvalidSymbol", ["InvalidSymbol", "ArchiveError", "ValueError", "Exception", "BaseException"])]
def k_INVERSES : (Tup Int) := (⟨[(0 : Int), (1 : Int), (9 : Int), (14 : Int), (13 : Int), (11 : Int), (7 : Int), (6 : Int), (15 : Int), (2 : Int), (12 : Int), (5 : Int), (10 : Int), (4 : Int), (3 : Int), (8 : Int)]⟩ : (Tup Int))
def k_PRODUCTS : (Tup (Tup Int)) := (⟨[(⟨[(0 : Int), (0 : Int), (0 : Int), (0 : Int), (0 : Int), (0 : Int), (0 : Int), (0 : Int), (0 : Int), (0 : Int), (0 : Int), (0 : Int), (0 : Int), (0 : Int), (0 : Int), (0 : Int)]⟩ : (Tup Int)), (⟨[(0 : Int), (1 : Int), (2 : Int), (3 : Int), (4 : Int), (5 : Int), (6 : Int), (7 : Int), (8 : Int), (9 : Int), (10 : Int), (11 : Int), (12 : Int), (13 : Int), (14 : Int), (15 : Int)]⟩ : (Tup Int)), (⟨[(0 : Int), (2 : Int), (4 : Int), (6 : Int), (8 : Int), (10 : Int), (12 : Int), (14 : Int), (3 : Int), (1 : Int), (7 : Int), (5 : Int), (11 : Int), (9 : Int), (15 : Int), (13 : Int)]⟩ : (Tup Int)), (⟨[(0 : Int), (3 : Int), (6 : Int), (5 : Int), (12 : Int), (15 : Int), (10 : Int), (9 : Int), (11 : Int), (8 : Int), (13 : Int), (14 : Int), (7 : Int), (4 : Int), (1 : Int), (2 : Int)]⟩ : (Tup Int)), (⟨[(0 : Int), (4 : Int), (8 : Int), (12 : Int), (3 : Int), (7 : Int), (11 : Int), (15 : Int), (6 : Int), (2 : Int), (14 : Int), (10 : Int), (5 : Int), (1 : Int), (13 : Int), (9 : Int)]⟩ : (Tup Int)), (⟨[(0 : Int), (5 : Int), (10 : Int), (15 : Int), (7 : Int), (2 : Int), (13 : Int), (8 : Int), (14 : Int), (11 : Int), (4 : Int), (1 : Int), (9 : Int), (12 : Int), (3 : Int), (6 : Int)]⟩ : (Tup Int)), (⟨[(0 : Int), (6 : Int), (12 : Int), (10 : Int), (11 : Int), (13 : Int), (7 : Int), (1 : Int), (5 : Int), (3 : Int), (9 : Int), (15 : Int), (14 : Int), (8 : Int), (2 : Int), (4 : Int)]⟩ : (Tup Int)), (⟨[(0 : Int), (7 : Int), (14 : Int), (9 : Int), (15 : Int), (8 : Int), (1 : Int), (6 : Int), (13 : Int), (10 : Int), (3 : Int), (4 : Int), (2 : Int), (5 : Int), (12 : Int), (11 : Int)]⟩ : (Tup Int)), (⟨[(0 : Int), (8 : Int), (3 : Int), (11 : Int), (6 : Int), (14 : Int), (5 : Int), (13 : Int), (12 : Int), (4 : Int), (15 : Int), (7 : Int), (10 : Int), (2 : Int), (9 : Int), (1 : Int)]⟩ : (Tup Int)), (⟨[(0 : Int), (9 : Int), (1 : Int), (8 : Int), (2 : Int), (11 : Int), (3 : Int), (10 : Int), (4 : Int), (13 : Int), (5 : Int), (12 : Int), (6 : Int), (15 : Int), (7 : Int), (14 : Int)]⟩ : (Tup Int)), (⟨[(0 : Int), (10 : Int), (7 : Int), (13 : Int), (14 : Int), (4 : Int), (9 : Int), (3 : Int), (15 : Int), (5 : Int), (8 : Int), (2 : Int), (1 : Int), (11 : Int), (6 : Int), (12 : Int)]⟩ : (Tup Int)), (⟨[(0 : Int), (11 : Int), (5 : Int), (14 : Int), (10 : Int), (1 : Int), (15 : Int), (4 : Int), (7 : Int), (12 : Int), (2 : Int), (9 : Int), (13 : Int), (6 : Int), (8 : Int), (3 : Int)]⟩ : (Tup Int)), (⟨[(0 : Int), (12 : Int), (11 : Int), (7 : Int), (5 : Int), (9 : Int), (14 : Int), (2 : Int), (10 : Int), (6 : Int), (1 : Int), (13 : Int), (15 : Int), (3 : Int), (4 : Int), (8 : Int)]⟩ : (Tup Int)), (⟨[(0 : Int), (13 : Int), (9 : Int), (4 : Int), (1 : Int), (12 : Int), (8 : Int), (5 : Int), (2 : Int), (15 : Int), (11 : Int), (6 : Int), (3 : Int), (14 : Int), (10 : Int), (7 : Int)]⟩ : (Tup Int)), (⟨[(0 : Int), (14 : Int), (15 : Int), (1 : Int), (13 : Int), (3 : Int), (2 : Int), (12 : Int), (9 : Int), (7 : Int), (6 : Int), (8 : Int), (4 : Int), (10 : Int), (11 : Int), (5 : Int)]⟩ : (Tup Int)), (⟨[(0 : Int), (15 : Int), (13 : Int), (2 : Int), (9 : Int), (6 : Int), (4 : Int), (11 : Int), (1 : Int), (14 : Int), (12 : Int), (3 : Int), (8 : Int), (7 : Int), (5 : Int), (10 : Int)]⟩ : (Tup Int))]⟩ : (Tup (Tup Int)))
instance : Eqv (Option Int) := eqvOpt _ (by decide)
instance : LayT (Option Int) := ⟨fun o => by
  cases o with
  | none => rfl
  | some a => show Eqv.lay a = true; exact LayT.lt a⟩
instance : Eqv (Option (List Int)) := eqvOpt _ (by decide)
instance : LayT (Option (List Int)) := ⟨fun o => by
  cases o with
  | none => rfl
  | some a => show Eqv.lay a = true; exact LayT.lt a⟩
def m_check_symbols (p_symbols : (List Int)) : M Unit :=
  (loopS (fun (s1 : Unit) (a2 : Int) => (if ((decide (a2 < (0 : Int))) || (decide (a2 ≥ (16 : Int)))) then (M.exc ⟨"InvalidSymbol", []⟩) else (M.ok ()))) p_symbols () >>= (fun s1 : Unit => (M.ok ())))
def m__differences (p_known : (List (Int × Int))) : M (List Int) :=
  ((lcM (fun (a3 : (Int × Int)) => M.ok true) (fun (a3 : (Int × Int)) => (M.ok a3.2)) p_known) >>= fun result_4 => ((chk (rOk (1 : Int) ∧ rOk (p_known.length : Int)) >>= fun _ => M.ok (rng (1 : Int) (p_known.length : Int))) >>= fun x22 => loopS (fun (s5 : (List Int)) (a6 : Int) => ((chk (rOk ((p_known.length : Int) - (1 : Int)) ∧ rOk (a6 - (1 : Int))) >>= fun _ => M.ok (rngD ((p_known.length : Int) - (1 : Int)) (a6 - (1 : Int)))) >>= fun x21 => loopS (fun (s7 : (List Int)) (a8 : Int) => (((((getI p_known a8) >>= fun x9 => M.ok x9.1) >>= fun x11 => ((getI p_known (a8 - a6)) >>= fun x10 => M.ok x10.1) >>= fun x12 => M.ok (Builtin.bitXor x11 x12)) >>= fun x13 => getI (k_INVERSES).l x13) >>= fun slope_14 => (((((getI s7 a8) >>= fun x15 => (getI s7 (a8 - (1 : Int))) >>= fun x16 => M.ok (Builtin.bitXor x15 x16)) >>= fun x17 => getI (k_PRODUCTS).l x17) >>= fun x18 => getI (x18).l slope_14) >>= fun x20 => setL s7 a8 x20 >>= fun result_19 => (M.ok result_19)))) x21 s5 >>= (fun s7 : (List Int) => (M.ok s7)))) x22 result_4 >>= (fun s5 : (List Int) => (M.ok s5))))
def m__law_cell (p_script : (List Int)) (p_k : Int) : M Int :=
  (if (decide (p_k < (p_script.length : Int))) then ((getI p_script p_k) >>= fun r => M.ok r) else (M.ok (0 : Int)))
def m__law_mix (p_cell : Int) (p_k : Int) : M Int :=
  ((M.ok ((((p_cell * (48271 : Int)) + (p_k * (69621 : Int))) + (12345 : Int)) % (2147483647 : Int))) >>= fun number_23 => ((M.ok ((((number_23 * (16807 : Int)) + (p_k * (40692 : Int))) + (777 : Int)) % (2147483629 : Int))) >>= fun number_24 => (M.ok (number_24 / (997 : Int)))))
def m__law_is_int (p_value : Int) : M Bool :=
  (M.ok (true && (!false)))
def m__law_times (p_a : Int) (p_b : Int) : M Int :=
  (if ((decide (p_a = (0 : Int))) || (decide (p_b = (0 : Int)))) then (M.ok (0 : Int)) else ((M.ok (⟨[(0 : Int), (0 : Int), (1 : Int), (4 : Int), (2 : Int), (8 : Int), (5 : Int), (10 : Int), (3 : Int), (14 : Int), (9 : Int), (7 : Int), (6 : Int), (13 : Int), (11 : Int), (12 : Int)]⟩ : Tup Int)) >>= fun logs_25 => (((((getI (logs_25).l p_a) >>= fun x26 => (getI (logs_25).l p_b) >>= fun x27 => M.ok (x26 + x27)) >>= fun x28 => M.ok (x28 % (15 : Int))) >>= fun x29 => getI ((⟨[(1 : Int), (2 : Int), (4 : Int), (8 : Int), (3 : Int), (6 : Int), (12 : Int), (11 : Int), (5 : Int), (10 : Int), (7 : Int), (14 : Int), (15 : Int), (13 : Int), (9 : Int)]⟩ : Tup Int)).l x29) >>= fun r => M.ok r)))
def m__law_inverse (p_a : Int) : M Int :=
  ((getI ((⟨[(0 : Int), (1 : Int), (9 : Int), (14 : Int), (13 : Int), (11 : Int), (7 : Int), (6 : Int), (15 : Int), (2 : Int), (12 : Int), (5 : Int), (10 : Int), (4 : Int), (3 : Int), (8 : Int)]⟩ : Tup Int)).l p_a) >>= fun r => M.ok r)
def m__continued (p_known : (List (Int × Int))) (p_points : (List Int)) : M (List Int) :=
  ((m__differences p_known) >>= fun differences_30 => ((M.ok ([] : List Int)) >>= fun values_31 => (loopS (fun (s32 : (List Int)) (a33 : Int) => ((M.ok (0 : Int)) >>= fun value_34 => ((chk (rOk ((p_known.length : Int) - (1 : Int)) ∧ rOk (-(1 : Int))) >>= fun _ => M.ok (rngD ((p_known.length : Int) - (1 : Int)) (-(1 : Int)))) >>= fun x46 => loopS (fun (s35 : Int) (a36 : Int) => ((((getI (k_PRODUCTS).l s35) >>= fun x39 => (((getI p_known a36) >>= fun x37 => M.ok x37.1) >>= fun x38 => M.ok (Builtin.bitXor a33 x38)) >>= fun x40 => getI (x39).l x40) >>= fun x41 => (getI differences_30 a36) >>= fun x42 => M.ok (Builtin.bitXor x41 x42)) >>= fun value_43 => (M.ok value_43))) x46 value_34 >>= (fun s35 : Int => (chk (s32.length < sizeLine) >>= fun _ => (fun values_44 => (M.ok values_44)) (s32 ++ [s35])))))) p_points values_31 >>= (fun s32 : (List Int) => (M.ok s32)))))
def m__known (p_received : (List (Option Int))) (p_count : Int) : M (List (Int × Int)) :=
  (if ((decide (p_count < (1 : Int))) || ((decide (p_count > (p_received.length : Int))) || (decide ((p_received.length : Int) > (16 : Int))))) then (M.exc ⟨"InvalidSymbol", []⟩) else ((lcM (fun (a47 : (Int × (Option Int))) => (M.ok ((a47.2).isSome))) (fun (a47 : (Int × (Option Int))) => (((M.ok a47.2) >>= unO) >>= fun x48 => M.ok (a47.1, x48))) (enumL p_received)) >>= fun known_49 => (((lcM (fun (a50 : (Int × Int)) => M.ok true) (fun (a50 : (Int × Int)) => (M.ok a50.2)) known_49) >>= fun x51 => m_check_symbols x51) >>= fun _ => (M.ok known_49))))
def m__law_row (p_cell : Int) (p_count : Int) (p_bound : Int) : M (List Int) :=
  ((M.ok ([] : List Int)) >>= fun found_52 => ((M.ok (if p_cell < 0 then -p_cell else p_cell)) >>= fun rest_53 => ((chk (rOk p_count) >>= fun _ => M.ok (rng 0 p_count)) >>= fun x62 => loopS (fun (s54 : (List Int) × Int) (a55 : Int) => (if (decide ((if p_cell < 0 then -p_cell else p_cell) ≥ (1000000000000000000 : Int))) then ((chk (0 < p_bound) >>= fun _ => M.ok (s54.2 % p_bound)) >>= fun x58 => chk (s54.1.length < sizeLine) >>= fun _ => (fun found_56 => ((chk (CDiv s54.2 p_bound) >>= fun _ => M.ok (s54.2 / p_bound)) >>= fun rest_57 => (M.ok (found_56, rest_57)))) (s54.1 ++ [x58])) else (((m__law_mix p_cell a55) >>= fun x59 => chk (0 < p_bound) >>= fun _ => M.ok (x59 % p_bound)) >>= fun x61 => chk (s54.1.length < sizeLine) >>= fun _ => (fun found_60 => (M.ok (found_60, s54.2))) (s54.1 ++ [x61])))) x62 (found_52, rest_53) >>= (fun s54 : (List Int) × Int => (M.ok s54.1)))))
def m__law_is_list (p_value : (List Int)) (p_least : Int) (p_greatest : Int) : M Bool :=
  (if (!true) then (M.ok false) else ((loopM (fun (s63 : Unit) (a64 : Int) => ((bOr ((m__law_is_int a64) >>= fun x65 => M.ok (!x65)) (M.ok ((decide (a64 < p_least)) || (decide (a64 > p_greatest))))) >>= fun c66 => if c66 then (M.ok (Stp.rt false : (Stp (Unit) Bool))) else (M.ok (Stp.nx () : (Stp (Unit) Bool))))) p_value () : (M (Stp (Unit) Bool))) >>= fun r => r.on (fun s63 : Unit => (M.ok true))))
def m__law_at (p_points : (List Int)) (p_values : (List Int)) (p_target : Int) : M Int :=
  ((M.ok (0 : Int)) >>= fun total_67 => ((chk (rOk (p_points.length : Int)) >>= fun _ => M.ok (rng 0 (p_points.length : Int))) >>= fun x83 => loopS (fun (s68 : Int) (a69 : Int) => ((getI p_values a69) >>= fun factor_70 => ((chk (rOk (p_points.length : Int)) >>= fun _ => M.ok (rng 0 (p_points.length : Int))) >>= fun x82 => loopS (fun (s71 : Int) (a72 : Int) => (if (!decide (a72 = a69)) then ((((getI p_points a72) >>= fun x73 => M.ok (Builtin.bitXor p_target x73)) >>= fun x74 => m__law_times s71 x74) >>= fun factor_75 => (((((getI p_points a69) >>= fun x76 => (getI p_points a72) >>= fun x77 => M.ok (Builtin.bitXor x76 x77)) >>= fun x78 => m__law_inverse x78) >>= fun x79 => m__law_times factor_75 x79) >>= fun factor_80 => (M.ok factor_80))) else (M.ok s71))) x82 factor_70 >>= (fun s71 : Int => ((M.ok (Builtin.bitXor s68 s71)) >>= fun total_81 => (M.ok total_81)))))) x83 total_67 >>= (fun s68 : Int => (M.ok s68))))
def m__law_picks (p_cell : Int) (p_count : Int) (p_size : Int) : M (List Int) :=
  ((M.ok ([] : List Int)) >>= fun order_84 => (loopS (fun (s85 : (List Int)) (a86 : Int) => (((m__law_mix p_cell a86) >>= fun x87 => chk (0 < p_size) >>= fun _ => M.ok (x87 % p_size)) >>= fun place_88 => (if ((decide ((s85.length : Int) < p_count)) && (!decide (place_88 ∈ s85))) then (chk (s85.length < sizeLine) >>= fun _ => (fun order_89 => (M.ok order_89)) (s85 ++ [place_88])) else (M.ok s85)))) (rng 0 (60 : Int)) order_84 >>= (fun s85 : (List Int) => ((chk (rOk p_size) >>= fun _ => M.ok (rng 0 p_size)) >>= fun x95 => loopS (fun (s91 : (List Int)) (a92 : Int) => (if ((decide ((s91.length : Int) < p_count)) && (!decide (a92 ∈ s91))) then (chk (s91.length < sizeLine) >>= fun _ => (fun order_93 => (M.ok order_93)) (s91 ++ [a92])) else (M.ok s91))) x95 s85 >>= (fun s91 : (List Int) => (M.ok s91))))))
def m_encode (p_symbols : (List Int)) (p_size : Int) : M (List Int) :=
  (if ((decide ((p_symbols.length : Int) = (0 : Int))) || ((decide (p_size < (p_symbols.length : Int))) || (decide (p_size > (16 : Int))))) then (M.exc ⟨"InvalidSymbol", []⟩) else ((m_check_symbols p_symbols) >>= fun _ => ((((chk (RgOk (p_symbols.length : Int) p_size) >>= fun _ => M.ok (rng (p_symbols.length : Int) p_size)) >>= fun x96 => m__continued (enumL p_symbols) x96) >>= fun x97 => catM p_symbols x97) >>= fun r => M.ok r)))
def m_restored (p_received : (List (Option Int))) (p_count : Int) : M (Option (List Int)) :=
  ((m__known p_received p_count) >>= fun known_98 => (if (decide ((known_98.length : Int) < p_count)) then (M.ok (none : (Option (List Int)))) else ((((chk (RgOk 0 (p_received.length : Int)) >>= fun _ => M.ok (rng 0 (p_received.length : Int))) >>= fun x99 => m__continued (cutL known_98 none (some p_count)) x99) >>= fun x100 => M.ok (some x100 : (Option (List Int)))) >>= fun r => M.ok r)))
def m__law_codeword (p_symbols : (List Int)) (p_size : Int) : M (List Int) :=
  ((chk (RgOk 0 (p_symbols.length : Int)) >>= fun _ => M.ok (rng 0 (p_symbols.length : Int))) >>= fun points_101 => ((((chk (rOk (p_symbols.length : Int) ∧ rOk p_size) >>= fun _ => M.ok (rng (p_symbols.length : Int) p_size)) >>= fun x103 => lcM (fun (a102 : Int) => M.ok true) (fun (a102 : Int) => (m__law_at points_101 p_symbols a102)) x103) >>= fun x104 => catM p_symbols x104) >>= fun r => M.ok r))
def m__law_first_part (p_script : (List Int)) : M Bool :=
  (((m__law_cell p_script (0 : Int)) >>= fun x105 => M.ok (x105 % (18 : Int))) >>= fun count_106 => (((m__law_cell p_script (1 : Int)) >>= fun x107 => m__law_row x107 count_106 (16 : Int)) >>= fun symbols_108 => ((((m__law_cell p_script (2 : Int)) >>= fun x109 => M.ok (x109 % (5 : Int))) >>= fun x110 => M.ok (count_106 + x110)) >>= fun size_111 => (((((m__law_cell p_script (2 : Int)) >>= fun x112 => M.ok (x112 / (5 : Int))) >>= fun x113 => M.ok (x113 % (5 : Int))) >>= fun x114 => M.ok (decide (x114 = (1 : Int)))) >>= fun c152 => (if c152 then ((((m__law_cell p_script (2 : Int)) >>= fun x116 => M.ok (x116 / (25 : Int))) >>= fun x117 => M.ok (x117 % (19 : Int))) >>= fun size_118 => (M.ok size_118)) else (M.ok size_111) : (M (Int))) >>= (fun s115 : Int => ((bAnd (((m__law_cell p_script (3 : Int)) >>= fun x119 => M.ok (x119 % (6 : Int))) >>= fun x120 => M.ok (decide (x120 = (1 : Int)))) (M.ok (decide (count_106 > (0 : Int))))) >>= fun c151 => (if c151 then (((((m__law_cell p_script (3 : Int)) >>= fun x122 => M.ok (x122 / (108 : Int))) >>= fun x123 => M.ok (x123 % (4 : Int))) >>= fun x124 => getI ((⟨[(16 : Int), (-(1 : Int)), (1000 : Int), (-(16 : Int))]⟩ : (Tup Int))).l x124) >>= fun x128 => (((m__law_cell p_script (3 : Int)) >>= fun x125 => M.ok (x125 / (6 : Int))) >>= fun x126 => chk (0 < count_106) >>= fun _ => M.ok (x126 % count_106)) >>= fun x129 => setL symbols_108 x129 x128 >>= fun symbols_127 => (M.ok symbols_127)) else (M.ok symbols_108) : (M ((List Int)))) >>= (fun s121 : (List Int) => ((M.ok (decide ((1 : Int) ≤ count_106) && (decide (count_106 ≤ s115) && decide (s115 ≤ (16 : Int))))) >>= fun good_130 => (loopS (fun (s131 : Bool) (a132 : Int) => ((M.ok (s131 && (decide ((0 : Int) ≤ a132) && decide (a132 ≤ (15 : Int))))) >>= fun good_133 => (M.ok good_133))) s121 good_130 >>= (fun s131 : Bool => ((M.ok s121) >>= fun copy_134 => (tryM k_tab "ArchiveError" (((m_encode copy_134 s115) >>= fun actual_136 => (M.ok (Jn.go actual_136 : (Jn ((List Int)) Bool)))) : M (Jn ((List Int)) Bool)) (fun e137 : Exn => nox (chk (e137.fs.isEmpty = true) >>= fun _ => (((bAnd (isE k_tab e137 "InvalidSymbol") (M.ok ((!s131) && (decide (copy_134 = s121))))) >>= fun r => M.ok (Jn.out r : (Jn ((List Int)) Bool))) : M (Jn ((List Int)) Bool)))) >>= fun j => j.on (fun s135 : (List Int) => ((bOr (M.ok (!s131)) (bOr (M.ok (!decide (copy_134 = s121))) (bOr ((m__law_is_list s135 (0 : Int) (15 : Int)) >>= fun x138 => M.ok (!x138)) ((m__law_codeword s121 s115) >>= fun x139 => M.ok (!decide (s135 = x139)))))) >>= fun c150 => if c150 then (M.ok false) else (((m__law_cell p_script (4 : Int)) >>= fun x140 => m__law_row x140 count_106 (16 : Int)) >>= fun other_141 => ((if (decide (other_141 = s121)) then (((getI other_141 (0 : Int)) >>= fun x143 => M.ok (Builtin.bitXor x143 (5 : Int))) >>= fun x145 => setL other_141 (0 : Int) x145 >>= fun other_144 => (M.ok other_144)) else (M.ok other_141) : (M ((List Int)))) >>= (fun s142 : (List Int) => ((((m_encode s142 s115) >>= fun x146 => M.ok ((s135).zip x146)) >>= fun x148 => lcM (fun (a147 : (Int × Int)) => (M.ok (decide (a147.1 = a147.2)))) (fun (a147 : (Int × Int)) => (M.ok (1 : Int))) x148) >>= fun alike_149 => (M.ok (decide ((alike_149.length : Int) < count_106)))))))))))))))))))))
def m__law_second_part (p_script : (List Int)) : M Bool :=
  ((((m__law_cell p_script (0 : Int)) >>= fun x153 => M.ok (x153 % (16 : Int))) >>= fun x154 => M.ok ((1 : Int) + x154)) >>= fun size_155 => (((((m__law_cell p_script (0 : Int)) >>= fun x156 => M.ok (x156 / (16 : Int))) >>= fun x157 => chk (0 < size_155) >>= fun _ => M.ok (x157 % size_155)) >>= fun x158 => M.ok ((1 : Int) + x158)) >>= fun count_159 => ((((m__law_cell p_script (1 : Int)) >>= fun x160 => m__law_row x160 count_159 (16 : Int)) >>= fun x161 => m__law_codeword x161 size_155) >>= fun codeword_162 => (((m__law_cell p_script (2 : Int)) >>= fun x163 => chk (0 < (size_155 + (1 : Int))) >>= fun _ => M.ok (x163 % (size_155 + (1 : Int)))) >>= fun gone_164 => (((((m__law_cell p_script (2 : Int)) >>= fun x165 => M.ok (x165 / (20 : Int))) >>= fun x166 => M.ok (x166 % (2 : Int))) >>= fun x167 => M.ok (decide (x167 = (1 : Int)))) >>= fun c237 => (if c237 then ((M.ok (size_155 - count_159)) >>= fun gone_169 => (M.ok gone_169)) else (M.ok gone_164) : (M (Int))) >>= (fun s168 : Int => ((M.ok ((codeword_162).map (fun x : Int => (some x : (Option Int))))) >>= fun received_171 => (((m__law_cell p_script (3 : Int)) >>= fun x172 => m__law_picks x172 s168 size_155) >>= fun x236 => loopS (fun (s173 : (List (Option Int))) (a174 : Int) => (setL s173 a174 (none : (Option Int)) >>= fun received_175 => (M.ok received_175))) x236 received_171 >>= (fun s173 : (List (Option Int)) => (((((m__law_cell p_script (2 : Int)) >>= fun x176 => M.ok (x176 / (40 : Int))) >>= fun x177 => M.ok (x177 % (4 : Int))) >>= fun x178 => M.ok (decide (x178 = (1 : Int)))) >>= fun c235 => (if c235 then (((m__law_cell p_script (4 : Int)) >>= fun x180 => chk (0 < size_155) >>= fun _ => M.ok (x180 % size_155)) >>= fun place_181 => (((getI s173 place_181) >>= fun x182 => M.ok ((x182).isSome)) >>= fun c191 => if c191 then (((((getI s173 place_181) >>= unO) >>= fun x186 => ((((m__law_cell p_script (4 : Int)) >>= fun x183 => M.ok (x183 / (16 : Int))) >>= fun x184 => M.ok (x184 % (15 : Int))) >>= fun x185 => M.ok ((1 : Int) + x185)) >>= fun x187 => M.ok (Builtin.bitXor x186 x187)) >>= fun x188 => M.ok (some x188 : (Option Int))) >>= fun x190 => setL s173 place_181 x190 >>= fun received_189 => (M.ok received_189)) else (M.ok s173))) else (M.ok s173) : (M ((List (Option Int))))) >>= (fun s179 : (List (Option Int)) => ((((chk (rOk size_155) >>= fun _ => M.ok (rng 0 size_155)) >>= fun x194 => lcM (fun (a192 : Int) => ((getI s179 a192) >>= fun x193 => M.ok ((x193).isSome))) (fun (a192 : Int) => (M.ok a192)) x194) >>= fun x195 => M.ok (cutL x195 none (some count_159))) >>= fun points_196 => ((lcM (fun (a197 : Int) => M.ok true) (fun (a197 : Int) => ((getI s179 a197) >>= unO)) points_196) >>= fun values_198 => ((((m__law_cell p_script (5 : Int)) >>= fun x199 => M.ok (x199 % (9 : Int))) >>= fun x200 => M.ok (decide (x200 = (4 : Int)))) >>= fun odd_201 => ((M.ok count_159) >>= fun asked_202 => ((bAnd (M.ok odd_201) ((((m__law_cell p_script (5 : Int)) >>= fun x203 => M.ok (x203 / (9 : Int))) >>= fun x204 => M.ok (x204 % (3 : Int))) >>= fun x205 => M.ok (decide (x205 = (0 : Int))))) >>= fun c234 => (if c234 then (((((m__law_cell p_script (5 : Int)) >>= fun x207 => M.ok (x207 / (27 : Int))) >>= fun x208 => M.ok (x208 % (3 : Int))) >>= fun x209 => getI ((⟨[(0 : Int), (-(1 : Int)), (size_155 + (1 : Int))]⟩ : (Tup Int))).l x209) >>= fun asked_210 => (M.ok (s179, asked_210))) else ((bAnd (M.ok odd_201) ((((m__law_cell p_script (5 : Int)) >>= fun x211 => M.ok (x211 / (9 : Int))) >>= fun x212 => M.ok (x212 % (3 : Int))) >>= fun x213 => M.ok (decide (x213 = (1 : Int))))) >>= fun c224 => if c224 then ((((((m__law_cell p_script (5 : Int)) >>= fun x214 => M.ok (x214 / (27 : Int))) >>= fun x215 => M.ok (x215 % (3 : Int))) >>= fun x216 => getI ((⟨[(16 : Int), (-(1 : Int)), (99 : Int)]⟩ : (Tup Int))).l x216) >>= fun x217 => M.ok (some x217 : (Option Int))) >>= fun x220 => ((m__law_cell p_script (4 : Int)) >>= fun x218 => chk (0 < size_155) >>= fun _ => M.ok (x218 % size_155)) >>= fun x221 => setL s179 x221 x220 >>= fun received_219 => (M.ok (received_219, asked_202))) else (if odd_201 then (((repM ([(none : (Option Int))] : List (Option Int)) ((17 : Int) - size_155)) >>= fun x222 => catM s179 x222) >>= fun received_223 => (M.ok (received_223, asked_202))) else (M.ok (s179, asked_202)))) : (M ((List (Option Int)) × Int))) >>= (fun s206 : (List (Option Int)) × Int => ((M.ok s206.1) >>= fun copy_225 => (tryM k_tab "ArchiveError" (((m_restored copy_225 s206.2) >>= fun actual_227 => (M.ok (Jn.go actual_227 : (Jn ((Option (List Int))) Bool)))) : M (Jn ((Option (List Int))) Bool)) (fun e228 : Exn => nox (chk (e228.fs.isEmpty = true) >>= fun _ => (((bAnd (isE k_tab e228 "InvalidSymbol") (M.ok (odd_201 && (decide (copy_225 = s206.1))))) >>= fun r => M.ok (Jn.out r : (Jn ((Option (List Int))) Bool))) : M (Jn ((Option (List Int))) Bool)))) >>= fun j => j.on (fun s226 : (Option (List Int)) => (if (odd_201 || (!decide (copy_225 = s206.1))) then (M.ok false) else (if (decide ((points_196.length : Int) < count_159)) then (M.ok ((s226).isNone)) else ((bAnd (((M.ok s226) >>= unO) >>= fun x229 => m__law_is_list x229 (0 : Int) (15 : Int)) ((((chk (rOk size_155) >>= fun _ => M.ok (rng 0 size_155)) >>= fun x231 => lcM (fun (a230 : Int) => M.ok true) (fun (a230 : Int) => (m__law_at points_196 values_198 a230)) x231) >>= fun x232 => M.ok (some x232 : (Option (List Int)))) >>= fun x233 => M.ok (decide (s226 = x233)))) >>= fun r => M.ok r)))))))))))))))))))))))
def m_law (p_script : (List Int)) : M Bool :=
  ((bAnd (m__law_first_part p_script) (m__law_second_part p_script)) >>= fun r => M.ok r)
abbrev s_check_symbols : Stmt := top 7
abbrev Ncheck_symbols : List Str := ["symbols", "symbol"]
theorem sccheck_symbols : FnScope Ncheck_symbols ["symbols"] (defScope s_check_symbols) := ⟨rfl, rfl, rfl, by decide +kernel, rfl, by decide +kernel, by decide +kernel⟩
abbrev s__differences : Stmt := top 9
abbrev N_differences : List Str := ["known", "result", "step", "at", "slope", "_", "symbol"]
theorem sc_differences : FnScope N_differences ["known"] (defScope s__differences) := ⟨rfl, rfl, rfl, by decide +kernel, rfl, by decide +kernel, by decide +kernel⟩
abbrev s__law_cell : Stmt := top 15
abbrev N_law_cell : List Str := ["script", "k"]
theorem sc_law_cell : FnScope N_law_cell ["script", "k"] (defScope s__law_cell) := ⟨rfl, rfl, rfl, by decide +kernel, rfl, by decide +kernel, by decide +kernel⟩
abbrev s__law_mix : Stmt := top 16
abbrev N_law_mix : List Str := ["cell", "k", "number"]
theorem sc_law_mix : FnScope N_law_mix ["cell", "k"] (defScope s__law_mix) := ⟨rfl, rfl, rfl, by decide +kernel, rfl, by decide +kernel, by decide +kernel⟩
abbrev s__law_is_int : Stmt := top 18
abbrev N_law_is_int : List Str := ["value"]
theorem sc_law_is_int : FnScope N_law_is_int ["value"] (defScope s__law_is_int) := ⟨rfl, rfl, rfl, by decide +kernel, rfl, by decide +kernel, by decide +kernel⟩
abbrev s__law_times : Stmt := top 20
abbrev N_law_times : List Str := ["a", "b", "logs"]
theorem sc_law_times : FnScope N_law_times ["a", "b"] (defScope s__law_times) := ⟨rfl, rfl, rfl, by decide +kernel, rfl, by decide +kernel, by decide +kernel⟩
abbrev s__law_inverse : Stmt := top 21
abbrev N_law_inverse : List Str := ["a"]
theorem sc_law_inverse : FnScope N_law_inverse ["a"] (defScope s__law_inverse) := ⟨rfl, rfl, rfl, by decide +kernel, rfl, by decide +kernel, by decide +kernel⟩
abbrev s__continued : Stmt := top 10
abbrev N_continued : List Str := ["known", "points", "differences", "values", "point", "value", "at"]
theorem sc_continued : FnScope N_continued ["known", "points"] (defScope s__continued) := ⟨rfl, rfl, rfl, by decide +kernel, rfl, by decide +kernel, by decide +kernel⟩
abbrev s__known : Stmt := top 12
abbrev N_known : List Str := ["received", "count", "known", "point", "symbol", "_"]
theorem sc_known : FnScope N_known ["received", "count"] (defScope s__known) := ⟨rfl, rfl, rfl, by decide +kernel, rfl, by decide +kernel, by decide +kernel⟩
abbrev s__law_row : Stmt := top 17
abbrev N_law_row : List Str := ["cell", "count", "bound", "found", "rest", "k"]
theorem sc_law_row : FnScope N_law_row ["cell", "count", "bound"] (defScope s__law_row) := ⟨rfl, rfl, rfl, by decide +kernel, rfl, by decide +kernel, by decide +kernel⟩
abbrev s__law_is_list : Stmt := top 19
abbrev N_law_is_list : List Str := ["value", "least", "greatest", "item"]
theorem sc_law_is_list : FnScope N_law_is_list ["value", "least", "greatest"] (defScope s__law_is_list) := ⟨rfl, rfl, rfl, by decide +kernel, rfl, by decide +kernel, by decide +kernel⟩
abbrev s__law_at : Stmt := top 22
abbrev N_law_at : List Str := ["points", "values", "target", "total", "i", "factor", "j"]
theorem sc_law_at : FnScope N_law_at ["points", "values", "target"] (defScope s__law_at) := ⟨rfl, rfl, rfl, by decide +kernel, rfl, by decide +kernel, by decide +kernel⟩
abbrev s__law_picks : Stmt := top 25
abbrev N_law_picks : List Str := ["cell", "count", "size", "order", "k", "place"]
theorem sc_law_picks : FnScope N_law_picks ["cell", "count", "size"] (defScope s__law_picks) := ⟨rfl, rfl, rfl, by decide +kernel, rfl, by decide +kernel, by decide +kernel⟩
abbrev s_encode : Stmt := top 11
abbrev Nencode : List Str := ["symbols", "size"]
theorem scencode : FnScope Nencode ["symbols", "size"] (defScope s_encode) := ⟨rfl, rfl, rfl, by decide +kernel, rfl, by decide +kernel, by decide +kernel⟩
abbrev s_restored : Stmt := top 13
abbrev Nrestored : List Str := ["received", "count", "known"]
theorem screstored : FnScope Nrestored ["received", "count"] (defScope s_restored) := ⟨rfl, rfl, rfl, by decide +kernel, rfl, by decide +kernel, by decide +kernel⟩
abbrev s__law_codeword : Stmt := top 23
abbrev N_law_codeword : List Str := ["symbols", "size", "points", "point"]
theorem sc_law_codeword : FnScope N_law_codeword ["symbols", "size"] (defScope s__law_codeword) := ⟨rfl, rfl, rfl, by decide +kernel, rfl, by decide +kernel, by decide +kernel⟩
abbrev s__law_first_part : Stmt := top 24
abbrev N_law_first_part : List Str := ["script", "count", "symbols", "size", "good", "symbol", "copy", "e", "other", "alike", "actual", "a", "b"]
theorem sc_law_first_part : FnScope N_law_first_part ["script"] (defScope s__law_first_part) := ⟨rfl, rfl, rfl, by decide +kernel, rfl, by decide +kernel, by decide +kernel⟩
abbrev s__law_second_part : Stmt := top 26
abbrev N_law_second_part : List Str := ["script", "size", "count", "codeword", "gone", "received", "place", "points", "values", "odd", "asked", "copy", "e", "actual", "k"]
theorem sc_law_second_part : FnScope N_law_second_part ["script"] (defScope s__law_second_part) := ⟨rfl, rfl, rfl, by decide +kernel, rfl, by decide +kernel, by decide +kernel⟩
abbrev s_law : Stmt := top 27
abbrev Nlaw : List Str := ["script"]
theorem sclaw : FnScope Nlaw ["script"] (defScope s_law) := ⟨rfl, rfl, rfl, by decide +kernel, rfl, by decide +kernel, by decide +kernel⟩
/-- what the top has left -/
structure Txt (K : PySem.W.Frag) (mg : Str → Option Value) (a : Nat → Addr) (d : Nat → FuncData) : Prop where
  d_check_symbols : DefAt K mg "check_symbols" s_check_symbols (a 0) (d 0) ["symbols"]
  d__differences : DefAt K mg "_differences" s__differences (a 1) (d 1) ["known"]
  d__law_cell : DefAt K mg "_law_cell" s__law_cell (a 2) (d 2) ["script", "k"]
  d__law_mix : DefAt K mg "_law_mix" s__law_mix (a 3) (d 3) ["cell", "k"]
  d__law_is_int : DefAt K mg "_law_is_int" s__law_is_int (a 4) (d 4) ["value"]
  d__law_times : DefAt K mg "_law_times" s__law_times (a 5) (d 5) ["a", "b"]
  d__law_inverse : DefAt K mg "_law_inverse" s__law_inverse (a 6) (d 6) ["a"]
  d__continued : DefAt K mg "_continued" s__continued (a 7) (d 7) ["known", "points"]
  d__known : DefAt K mg "_known" s__known (a 8) (d 8) ["received", "count"]
  d__law_row : DefAt K mg "_law_row" s__law_row (a 9) (d 9) ["cell", "count", "bound"]
  d__law_is_list : DefAt K mg "_law_is_list" s__law_is_list (a 10) (d 10) ["value", "least", "greatest"]
  d__law_at : DefAt K mg "_law_at" s__law_at (a 11) (d 11) ["points", "values", "target"]
  d__law_picks : DefAt K mg "_law_picks" s__law_picks (a 12) (d 12) ["cell", "count", "size"]
  d_encode : DefAt K mg "encode" s_encode (a 13) (d 13) ["symbols", "size"]
  d_restored : DefAt K mg "restored" s_restored (a 14) (d 14) ["received", "count"]
  d__law_codeword : DefAt K mg "_law_codeword" s__law_codeword (a 15) (d 15) ["symbols", "size"]
  d__law_first_part : DefAt K mg "_law_first_part" s__law_first_part (a 16) (d 16) ["script"]
  d__law_second_part : DefAt K mg "_law_second_part" s__law_second_part (a 17) (d 17) ["script"]
  d_law : DefAt K mg "law" s_law (a 18) (d 18) ["script"]
  b_abs : mg "abs" = none
  b_bool : mg "bool" = none
  b_enumerate : mg "enumerate" = none
  b_int : mg "int" = none
  b_isinstance : mg "isinstance" = none
  b_len : mg "len" = none
  b_list : mg "list" = none
  b_range : mg "range" = none
  b_zip : mg "zip" = none
  c_INVERSES : ∃ q, mg "INVERSES" = some (.ref q) ∧ ∀ H, R K mg H (.ref q) (enc k_INVERSES)
  c_PRODUCTS : ∃ q, mg "PRODUCTS" = some (.ref q) ∧ ∀ H, R K mg H (.ref q) (enc k_PRODUCTS)
  c_SYMBOLS : ∃ t, mg "SYMBOLS" = some (.int 16 t)
  e_InvalidSymbol : ExcCls K mg "InvalidSymbol"
  n_ArchiveError : EEx K mg k_tab "ArchiveError"
  i_InvalidSymbol : IEx K mg k_tab "InvalidSymbol"
section
variable {P : Program} {w : World} {K : PySem.W.Frag} {mg : Str → Option Value} {base : Heap} {a : Nat → Addr} {d : Nat → FuncData}
theorem G_check_symbols (T : Txt K mg a d) : FnOk P w K mg base (L2N.CX P w) 1 (a 0) (d 0) ["symbols"] (spF K mg ((eCons eNil) : (List Int) × Unit → List D) (fun r : Unit => O.imm (enc r)) (fun x : (List Int) × Unit => m_check_symbols x.1)) := by
  refine fn_ok T.d_check_symbols.F sccheck_symbols (fun _ => rfl) fun cdv Ar outer s H E hr X hX x => ?_
  subst hX
  obtain ⟨p_symbols, _⟩ := x
  show VS _ _ _ _ _ (m_check_symbols p_symbols)
  unfold m_check_symbols
  exact (vs_forS (b := (fun (s1 : Unit) (a2 : Int) => (if ((decide (a2 < (0 : Int))) || (decide (a2 ≥ (16 : Int)))) then (M.exc ⟨"InvalidSymbol", []⟩) else (M.ok ())))) (k := (fun s1 : Unit => (M.ok ()))) (fun s1 : Unit => [sI (p_symbols : (List Int)), .any]) () (passes_of rfl) rfl (VI.congr (vi_list (ve_var (a := p_symbols) 0)) ((by simp only [M.bind_assoc, M.ok_bind]) : _ = M.ok p_symbols)) (vg_name (α := Int) (n := 2) 1 (sccheck_symbols).nd) (fun s1 a2 => (vs_ifxp (x := ((decide (a2 < (0 : Int))) || (decide (a2 ≥ (16 : Int))))) (VT.congr ((vw_or_p (vt_cmpI op_lt (ve_var (a := a2) 1) ve_int (nomark _)) (vw_or1 (vt_cmpI op_ge (ve_var (a := a2) 1) (ve_gint T.c_SYMBOLS (by rfl)) (nomark _))))).vt (by simp only [M.bind_assoc, M.ok_bind])) (vs_raiseT T.e_InvalidSymbol rfl (sub_anys _)) (vs_nil (t := ()) (by exact (.eq (.any .nil)))) (sub_anys _))) (fun s1 => (vs_nil (t := ()) (by exact rfl))) (by exact (.eq (.any .nil))) (sub_anys _))
theorem G__differences (T : Txt K mg a d) : FnOk P w K mg base (L2N.CX P w) 1 (a 1) (d 1) ["known"] (spF K mg ((eCons eNil) : (List (Int × Int)) × Unit → List D) (ow1 : List Int → O) (fun x : (List (Int × Int)) × Unit => m__differences x.1)) := by
  refine fn_ok T.d__differences.F sc_differences (fun _ => rfl) fun cdv Ar outer s H E hr X hX x => ?_
  subst hX
  obtain ⟨p_known, _⟩ := x
  show VS _ _ _ _ _ (m__differences p_known)
  unfold m__differences
  exact (vs_setLc 1 [("_", 5), ("symbol", 6)] rfl (sc_differences).nd (vi_list (ve_var (a := p_known) 0)) (blkOk_by (N := N_differences) (sc := defScope s__differences) (by decide +kernel)) (fun _ _ _ _ _ => (vg_tup (fun x : (Int × Int) => (x.1, x.2, ())) rfl (vgs_cons (vg_name (α := Int) (n := 7) 5 (sc_differences).nd) (vgs_cons (vg_name (α := Int) (n := 7) 6 (sc_differences).nd) vgs_nil)) (fun _ => rfl) (fun _ => rfl))) (fun (a3 : (Int × Int)) _ _ _ _ _ => (vk_nil : VK _ _ _ (M.ok true))) (fun (a3 : (Int × Int)) _ _ _ _ _ => (VX.congr (ve_var (a := a3.2) 6) (by simp only [M.bind_assoc, M.ok_bind]) : VE _ _ _ (M.ok a3.2))) (fun result_4 => (vs_forS (b := (fun (s5 : (List Int)) (a6 : Int) => ((chk (rOk ((p_known.length : Int) - (1 : Int)) ∧ rOk (a6 - (1 : Int))) >>= fun _ => M.ok (rngD ((p_known.length : Int) - (1 : Int)) (a6 - (1 : Int)))) >>= fun x21 => loopS (fun (s7 : (List Int)) (a8 : Int) => (((((getI p_known a8) >>= fun x9 => M.ok x9.1) >>= fun x11 => ((getI p_known (a8 - a6)) >>= fun x10 => M.ok x10.1) >>= fun x12 => M.ok (Builtin.bitXor x11 x12)) >>= fun x13 => getI (k_INVERSES).l x13) >>= fun slope_14 => (((((getI s7 a8) >>= fun x15 => (getI s7 (a8 - (1 : Int))) >>= fun x16 => M.ok (Builtin.bitXor x15 x16)) >>= fun x17 => getI (k_PRODUCTS).l x17) >>= fun x18 => getI (x18).l slope_14) >>= fun x20 => setL s7 a8 x20 >>= fun result_19 => (M.ok result_19)))) x21 s5 >>= (fun s7 : (List Int) => (M.ok s7))))) (k := (fun s5 : (List Int) => (M.ok s5))) (fun s5 : (List Int) => [sI (p_known : (List (Int × Int))), sO (s5 : List Int), .any, .any, .any, .any, .any]) result_4 (passes_of rfl) rfl (VI.congr (vi_range2 T.b_range ve_int (ve_len T.b_len (ve_var (a := p_known) 0))) ((by simp only [M.bind_assoc, M.ok_bind]) : _ = (chk (rOk (1 : Int) ∧ rOk (p_known.length : Int)) >>= fun _ => M.ok (rng (1 : Int) (p_known.length : Int))))) (vg_name (α := Int) (n := 7) 2 (sc_differences).nd) (fun s5 a6 => (vs_forS (b := (fun (s7 : (List Int)) (a8 : Int) => (((((getI p_known a8) >>= fun x9 => M.ok x9.1) >>= fun x11 => ((getI p_known (a8 - a6)) >>= fun x10 => M.ok x10.1) >>= fun x12 => M.ok (Builtin.bitXor x11 x12)) >>= fun x13 => getI (k_INVERSES).l x13) >>= fun slope_14 => (((((getI s7 a8) >>= fun x15 => (getI s7 (a8 - (1 : Int))) >>= fun x16 => M.ok (Builtin.bitXor x15 x16)) >>= fun x17 => getI (k_PRODUCTS).l x17) >>= fun x18 => getI (x18).l slope_14) >>= fun x20 => setL s7 a8 x20 >>= fun result_19 => (M.ok result_19))))) (k := (fun s7 : (List Int) => (M.ok s7))) (fun s7 : (List Int) => [sI (p_known : (List (Int × Int))), sO (s7 : List Int), sI (a6 : Int), .any, .any, .any, .any]) s5 (passes_of rfl) rfl (VI.congr (vi_rangeD T.b_range (ve_binI op_sub (ve_len T.b_len (ve_var (a := p_known) 0)) ve_int) (ve_binI op_sub (ve_var (a := a6) 2) ve_int) (ve_neg ve_int)) ((by simp only [M.bind_assoc, M.ok_bind]) : _ = (chk (rOk ((p_known.length : Int) - (1 : Int)) ∧ rOk (a6 - (1 : Int))) >>= fun _ => M.ok (rngD ((p_known.length : Int) - (1 : Int)) (a6 - (1 : Int)))))) (vg_name (α := Int) (n := 7) 3 (sc_differences).nd) (fun s7 a8 => (vs_set 4 (sc_differences).nd (VX.congr (ve_idxT (ve_gdat T.c_INVERSES (by rfl)) (ve_binI op_xor (ve_proj (fun x : (Int × Int) => x.1) (ve_idx (ve_var (a := p_known) 0) (ve_var (a := a8) 3)) ve_int) (ve_proj (fun x : (Int × Int) => x.1) (ve_idx (ve_var (a := p_known) 0) (ve_binI op_sub (ve_var (a := a8) 3) (ve_var (a := a6) 2))) ve_int))) (by simp only [M.bind_assoc, M.ok_bind])) (fun slope_14 => (vs_setI (l := s7) (k := fun result_19 : List Int => (M.ok result_19)) 1 (VX.congr (ve_idxT (ve_idxT (ve_gdat T.c_PRODUCTS (by rfl)) (ve_binI op_xor (ve_idx (vb_own (l := s7) 1) (ve_var (a := a8) 3)) (ve_idx (vb_own (l := s7) 1) (ve_binI op_sub (ve_var (a := a8) 3) ve_int)))) (ve_var (a := slope_14) 4)) ((by simp only [M.bind_assoc, M.ok_bind]) : _ = ((((getI s7 a8) >>= fun x15 => (getI s7 (a8 - (1 : Int))) >>= fun x16 => M.ok (Builtin.bitXor x15 x16)) >>= fun x17 => getI (k_PRODUCTS).l x17) >>= fun x18 => getI (x18).l slope_14))) (VX.congr (ve_var (a := a8) 3) ((by simp only [M.bind_assoc, M.ok_bind]) : _ = (M.ok a8))) (fun result_19 => (vs_nil (t := result_19) (by exact (.eq (.eq (.eq (.any (.any (.any (.any .nil)))))))))) (sub_anys _))) (sub_anys _))) (fun s7 => (vs_nil (t := s7) (by exact (.eq (.eq (.any (.any (.any (.any (.any .nil)))))))))) (by exact (.eq (.eq (.eq (.any (.any (.any (.any .nil)))))))) (sub_anys _))) (fun s5 => (vs_retV (ow := ow1 s5) (t := s5) 1 (by exact rfl))) (by exact (.eq (.eq (.any (.any (.any (.any (.any .nil)))))))) (sub_anys _))) (sub_anys _) (sw_true rfl rfl rfl (by decide +kernel)))
theorem G__law_cell (T : Txt K mg a d) : FnOk P w K mg base (L2N.CX P w) 1 (a 2) (d 2) ["script", "k"] (spF K mg ((eCons (eCons eNil)) : (List Int) × Int × Unit → List D) (fun r : Int => O.imm (enc r)) (fun x : (List Int) × Int × Unit => m__law_cell x.1 x.2.1)) := by
  refine fn_ok T.d__law_cell.F sc_law_cell (fun _ => rfl) fun cdv Ar outer s H E hr X hX x => ?_
  subst hX
  obtain ⟨p_script, p_k, _⟩ := x
  show VS _ _ _ _ _ (m__law_cell p_script p_k)
  unfold m__law_cell
  exact (vs_ifxp (x := (decide (p_k < (p_script.length : Int)))) (VT.congr (vt_cmpI op_lt (ve_var (a := p_k) 1) (ve_len T.b_len (ve_var (a := p_script) 0)) (nomark _)) (by simp only [M.bind_assoc, M.ok_bind])) (vs_ret (f := fun r => r) (VX.congr (ve_toint T.b_int (ve_idx (ve_var (a := p_script) 0) (ve_var (a := p_k) 1))) (by simp only [M.bind_assoc, M.ok_bind])) (fun r => by exact rfl) (sub_anys _)) (vs_retp (x := (0 : Int)) (t := (0 : Int)) (VX.congr ve_int (by simp only [M.bind_assoc, M.ok_bind])) (by exact rfl) (sub_anys _)) (sub_anys _))
theorem G__law_mix (T : Txt K mg a d) : FnOk P w K mg base (L2N.CX P w) 1 (a 3) (d 3) ["cell", "k"] (spF K mg ((eCons (eCons eNil)) : Int × Int × Unit → List D) (fun r : Int => O.imm (enc r)) (fun x : Int × Int × Unit => m__law_mix x.1 x.2.1)) := by
  refine fn_ok T.d__law_mix.F sc_law_mix (fun _ => rfl) fun cdv Ar outer s H E hr X hX x => ?_
  subst hX
  obtain ⟨p_cell, p_k, _⟩ := x
  show VS _ _ _ _ _ (m__law_mix p_cell p_k)
  unfold m__law_mix
  exact (vs_set 2 (sc_law_mix).nd (VX.congr (ve_modK (ve_toint T.b_int (ve_binI op_add (ve_binI op_add (ve_mulR (ve_var (a := p_cell) 0) ve_int) (ve_mulR (ve_var (a := p_k) 1) ve_int)) ve_int)) ve_int) (by simp only [M.bind_assoc, M.ok_bind])) (fun number_23 => (vs_set 2 (sc_law_mix).nd (VX.congr (ve_modK (ve_toint T.b_int (ve_binI op_add (ve_binI op_add (ve_mulR (ve_var (a := number_23) 2) ve_int) (ve_mulR (ve_var (a := p_k) 1) ve_int)) ve_int)) ve_int) (by simp only [M.bind_assoc, M.ok_bind])) (fun number_24 => (vs_retp (x := (number_24 / (997 : Int))) (t := (number_24 / (997 : Int))) (VX.congr (ve_divK (ve_var (a := number_24) 2) ve_int) (by simp only [M.bind_assoc, M.ok_bind])) (by exact rfl) (sub_anys _))) (sub_anys _))) (sub_anys _))
theorem G__law_is_int (T : Txt K mg a d) : FnOk P w K mg base (L2N.CX P w) 1 (a 4) (d 4) ["value"] (spF K mg ((eCons eNil) : Int × Unit → List D) (fun r : Bool => O.imm (enc r)) (fun x : Int × Unit => m__law_is_int x.1)) := by
  refine fn_ok T.d__law_is_int.F sc_law_is_int (fun _ => rfl) fun cdv Ar outer s H E hr X hX x => ?_
  subst hX
  obtain ⟨p_value, _⟩ := x
  show VS _ _ _ _ _ (m__law_is_int p_value)
  unfold m__law_is_int
  exact (vs_retp (x := (true && (!false))) (t := (true && (!false))) (VX.congr (ve_and_p (ve_isiS (n := "int") "int" true T.b_isinstance T.b_int (ve_var (a := p_value) 0) (fun _ => rfl) (by decide +kernel)) (ve_one (ve_not (ve_isiS (n := "bool") "int" false T.b_isinstance T.b_bool (ve_var (a := p_value) 0) (fun _ => rfl) (by decide +kernel))))) (by simp only [M.bind_assoc, M.ok_bind])) (by exact rfl) (sub_anys _))
theorem G__law_times (T : Txt K mg a d) : FnOk P w K mg base (L2N.CX P w) 1 (a 5) (d 5) ["a", "b"] (spF K mg ((eCons (eCons eNil)) : Int × Int × Unit → List D) (fun r : Int => O.imm (enc r)) (fun x : Int × Int × Unit => m__law_times x.1 x.2.1)) := by
  refine fn_ok T.d__law_times.F sc_law_times (fun _ => rfl) fun cdv Ar outer s H E hr X hX x => ?_
  subst hX
  obtain ⟨p_a, p_b, _⟩ := x
  show VS _ _ _ _ _ (m__law_times p_a p_b)
  unfold m__law_times
  exact (vs_ifxp (x := ((decide (p_a = (0 : Int))) || (decide (p_b = (0 : Int))))) (VT.congr ((vw_or_p (vt_eq (ve_var (a := p_a) 0) ve_int) (vw_or1 (vt_eq (ve_var (a := p_b) 1) ve_int)))).vt (by simp only [M.bind_assoc, M.ok_bind])) (vs_retp (x := (0 : Int)) (t := (0 : Int)) (VX.congr ve_int (by simp only [M.bind_assoc, M.ok_bind])) (by exact rfl) (sub_anys _)) (vs_set 2 (sc_law_times).nd (VX.congr (ve_tupK (l := [(0 : Int), (0 : Int), (1 : Int), (4 : Int), (2 : Int), (8 : Int), (5 : Int), (10 : Int), (3 : Int), (14 : Int), (9 : Int), (7 : Int), (6 : Int), (13 : Int), (11 : Int), (12 : Int)])) (by simp only [M.bind_assoc, M.ok_bind])) (fun logs_25 => (vs_ret (f := fun r => r) (VX.congr (ve_idxT (ve_tupK (l := [(1 : Int), (2 : Int), (4 : Int), (8 : Int), (3 : Int), (6 : Int), (12 : Int), (11 : Int), (5 : Int), (10 : Int), (7 : Int), (14 : Int), (15 : Int), (13 : Int), (9 : Int)])) (ve_modK (ve_binI op_add (ve_idxT (ve_var (a := logs_25) 2) (ve_var (a := p_a) 0)) (ve_idxT (ve_var (a := logs_25) 2) (ve_var (a := p_b) 1))) ve_int)) (by simp only [M.bind_assoc, M.ok_bind])) (fun r => by exact rfl) (sub_anys _))) (sub_anys _)) (sub_anys _))
theorem G__law_inverse (T : Txt K mg a d) : FnOk P w K mg base (L2N.CX P w) 1 (a 6) (d 6) ["a"] (spF K mg ((eCons eNil) : Int × Unit → List D) (fun r : Int => O.imm (enc r)) (fun x : Int × Unit => m__law_inverse x.1)) := by
  refine fn_ok T.d__law_inverse.F sc_law_inverse (fun _ => rfl) fun cdv Ar outer s H E hr X hX x => ?_
  subst hX
  obtain ⟨p_a, _⟩ := x
  show VS _ _ _ _ _ (m__law_inverse p_a)
  unfold m__law_inverse
  exact (vs_ret (f := fun r => r) (VX.congr (ve_idxT (ve_tupK (l := [(0 : Int), (1 : Int), (9 : Int), (14 : Int), (13 : Int), (11 : Int), (7 : Int), (6 : Int), (15 : Int), (2 : Int), (12 : Int), (5 : Int), (10 : Int), (4 : Int), (3 : Int), (8 : Int)])) (ve_var (a := p_a) 0)) (by simp only [M.bind_assoc, M.ok_bind])) (fun r => by exact rfl) (sub_anys _))
theorem G__continued (T : Txt K mg a d) : FnOk P w K mg base (L2N.CX P w) 2 (a 7) (d 7) ["known", "points"] (spF K mg ((eCons (eCons eNil)) : (List (Int × Int)) × (List Int) × Unit → List D) (ow1 : List Int → O) (fun x : (List (Int × Int)) × (List Int) × Unit => m__continued x.1 x.2.1)) := by
  refine fn_ok T.d__continued.F sc_continued (fun _ => rfl) fun cdv Ar outer s H E hr X hX x => ?_
  subst hX
  obtain ⟨p_known, p_points, _⟩ := x
  show VS _ _ _ _ _ (m__continued p_known p_points)
  unfold m__continued
  exact (vs_set 2 (sc_continued).nd (VX.congr ((vo_call (G__differences T) hr T.d__differences.g T.d__differences.F.kp T.d__differences.b (va_cons (ve_var (a := p_known) 0) va_nil))).ve1 (by simp only [M.bind_assoc, M.ok_bind])) (fun differences_30 => (vs_setO 3 (sc_continued).nd (VO.congr (vo_lst (fun x : Unit => ([] : List Int)) va_nil) (by simp only [M.bind_assoc, M.ok_bind])) (fun values_31 => (vs_forS (b := (fun (s32 : (List Int)) (a33 : Int) => ((M.ok (0 : Int)) >>= fun value_34 => ((chk (rOk ((p_known.length : Int) - (1 : Int)) ∧ rOk (-(1 : Int))) >>= fun _ => M.ok (rngD ((p_known.length : Int) - (1 : Int)) (-(1 : Int)))) >>= fun x46 => loopS (fun (s35 : Int) (a36 : Int) => ((((getI (k_PRODUCTS).l s35) >>= fun x39 => (((getI p_known a36) >>= fun x37 => M.ok x37.1) >>= fun x38 => M.ok (Builtin.bitXor a33 x38)) >>= fun x40 => getI (x39).l x40) >>= fun x41 => (getI differences_30 a36) >>= fun x42 => M.ok (Builtin.bitXor x41 x42)) >>= fun value_43 => (M.ok value_43))) x46 value_34 >>= (fun s35 : Int => (chk (s32.length < sizeLine) >>= fun _ => (fun values_44 => (M.ok values_44)) (s32 ++ [s35]))))))) (k := (fun s32 : (List Int) => (M.ok s32))) (fun s32 : (List Int) => [sI (p_known : (List (Int × Int))), sI (p_points : (List Int)), sI (differences_30 : (List Int)), sO (s32 : List Int), .any, .any, .any]) values_31 (passes_of rfl) rfl (VI.congr (vi_list (ve_var (a := p_points) 1)) ((by simp only [M.bind_assoc, M.ok_bind]) : _ = M.ok p_points)) (vg_name (α := Int) (n := 7) 4 (sc_continued).nd) (fun s32 a33 => (vs_set 5 (sc_continued).nd (VX.congr ve_int (by simp only [M.bind_assoc, M.ok_bind])) (fun value_34 => (vs_forS (b := (fun (s35 : Int) (a36 : Int) => ((((getI (k_PRODUCTS).l s35) >>= fun x39 => (((getI p_known a36) >>= fun x37 => M.ok x37.1) >>= fun x38 => M.ok (Builtin.bitXor a33 x38)) >>= fun x40 => getI (x39).l x40) >>= fun x41 => (getI differences_30 a36) >>= fun x42 => M.ok (Builtin.bitXor x41 x42)) >>= fun value_43 => (M.ok value_43)))) (k := (fun s35 : Int => (chk (s32.length < sizeLine) >>= fun _ => (fun values_44 => (M.ok values_44)) (s32 ++ [s35])))) (fun s35 : Int => [sI (p_known : (List (Int × Int))), sI (p_points : (List Int)), sI (differences_30 : (List Int)), sO (s32 : List Int), sI (a33 : Int), sI (s35 : Int), .any]) value_34 (passes_of rfl) rfl (VI.congr (vi_rangeD T.b_range (ve_binI op_sub (ve_len T.b_len (ve_var (a := p_known) 0)) ve_int) (ve_neg ve_int) (ve_neg ve_int)) ((by simp only [M.bind_assoc, M.ok_bind]) : _ = (chk (rOk ((p_known.length : Int) - (1 : Int)) ∧ rOk (-(1 : Int))) >>= fun _ => M.ok (rngD ((p_known.length : Int) - (1 : Int)) (-(1 : Int)))))) (vg_name (α := Int) (n := 7) 6 (sc_continued).nd) (fun s35 a36 => (vs_set 5 (sc_continued).nd (VX.congr (ve_binI op_xor (ve_idxT (ve_idxT (ve_gdat T.c_PRODUCTS (by rfl)) (ve_var (a := s35) 5)) (ve_binI op_xor (ve_var (a := a33) 4) (ve_proj (fun x : (Int × Int) => x.1) (ve_idx (ve_var (a := p_known) 0) (ve_var (a := a36) 6)) ve_int))) (ve_idx (ve_var (a := differences_30) 2) (ve_var (a := a36) 6))) (by simp only [M.bind_assoc, M.ok_bind])) (fun value_43 => (vs_nil (t := value_43) (by exact (.eq (.eq (.eq (.eq (.eq (.eq (.any .nil)))))))))) (sub_anys _))) (fun s35 => (vs_append (l := s32) (k := fun values_44 : List Int => (M.ok values_44)) 3 (VX.congr (ve_var (a := s35) 5) ((by simp only [M.bind_assoc, M.ok_bind]) : _ = (M.ok s35))) (fun values_44 => (vs_nil (t := values_44) (by exact (.eq (.eq (.eq (.eq (.any (.any (.any .nil)))))))))) (sub_anys _))) (by exact (.eq (.eq (.eq (.eq (.eq (.eq (.any .nil)))))))) (sub_anys _))) (sub_anys _))) (fun s32 => (vs_retV (ow := ow1 s32) (t := s32) 3 (by exact rfl))) (by exact (.eq (.eq (.eq (.eq (.any (.any (.any .nil)))))))) (sub_anys _))) (sub_anys _))) (sub_anys _))
theorem G__known (T : Txt K mg a d) : FnOk P w K mg base (L2N.CX P w) 2 (a 8) (d 8) ["received", "count"] (spF K mg ((eCons (eCons eNil)) : (List (Option Int)) × Int × Unit → List D) (fun r : (List (Int × Int)) => O.imm (enc r)) (fun x : (List (Option Int)) × Int × Unit => m__known x.1 x.2.1)) := by
  refine fn_ok T.d__known.F sc_known (fun _ => rfl) fun cdv Ar outer s H E hr X hX x => ?_
  subst hX
  obtain ⟨p_received, p_count, _⟩ := x
  show VS _ _ _ _ _ (m__known p_received p_count)
  unfold m__known
  exact (vs_ifxp (x := ((decide (p_count < (1 : Int))) || ((decide (p_count > (p_received.length : Int))) || (decide ((p_received.length : Int) > (16 : Int)))))) (VT.congr ((vw_or_p (vt_cmpI op_lt (ve_var (a := p_count) 1) ve_int (nomark _)) (vw_or_p (vt_cmpI op_gt (ve_var (a := p_count) 1) (ve_len T.b_len (ve_var (a := p_received) 0)) (nomark _)) (vw_or1 (vt_cmpI op_gt (ve_len T.b_len (ve_var (a := p_received) 0)) (ve_gint T.c_SYMBOLS (by rfl)) (nomark _)))))).vt (by simp only [M.bind_assoc, M.ok_bind])) (vs_raiseT T.e_InvalidSymbol rfl (sub_anys _)) (vs_setLc 2 [("point", 3), ("symbol", 4)] rfl (sc_known).nd (vi_enum T.b_enumerate (ve_var (a := p_received) 0)) (blkOk_by (N := N_known) (sc := defScope s__known) (by decide +kernel)) (fun _ _ _ _ _ => (vg_tup (fun x : (Int × (Option Int)) => (x.1, x.2, ())) rfl (vgs_cons (vg_name (α := Int) (n := 6) 3 (sc_known).nd) (vgs_cons (vg_name (α := (Option Int)) (n := 6) 4 (sc_known).nd) vgs_nil)) (fun _ => rfl) (fun _ => rfl))) (fun (a47 : (Int × (Option Int))) _ _ _ _ _ => ((vk_one (VT.congr (vt_isNN (ve_var (a := a47.2) 4)) (by simp only [M.bind_assoc, M.ok_bind]))) : VK _ _ _ (M.ok ((a47.2).isSome)))) (fun (a47 : (Int × (Option Int))) _ _ _ _ _ => (VX.congr (ve_tup (fun x : Int × Int × Unit => (x.1, x.2.1)) (va_cons (ve_var (a := a47.1) 3) (va_cons (VX.unO ((ve_var (a := a47.2) 4))) va_nil))) (by simp only [M.bind_assoc, M.ok_bind]) : VE _ _ _ (((M.ok a47.2) >>= unO) >>= fun x48 => M.ok (a47.1, x48)))) (fun known_49 => (vs_freeze1 (l := known_49) 2 (vs_expr (VX.congr (ve_call (G_check_symbols T) hr T.d_check_symbols.g T.d_check_symbols.F.kp T.d_check_symbols.b (va_cons ((vo_lc [("_", 5), ("symbol", 4)] rfl (sc_known).nd (vi_list (ve_var (a := known_49) 2)) (blkOk_by (N := N_known) (sc := defScope s__known) (by decide +kernel)) (fun _ _ _ _ _ => (vg_tup (fun x : (Int × Int) => (x.1, x.2, ())) rfl (vgs_cons (vg_name (α := Int) (n := 6) 5 (sc_known).nd) (vgs_cons (vg_name (α := Int) (n := 6) 4 (sc_known).nd) vgs_nil)) (fun _ => rfl) (fun _ => rfl))) (fun (a50 : (Int × Int)) _ _ _ _ _ => (vk_nil : VK _ _ _ (M.ok true))) (fun (a50 : (Int × Int)) _ _ _ _ _ => (VX.congr (ve_var (a := a50.2) 4) (by simp only [M.bind_assoc, M.ok_bind]) : VE _ _ _ (M.ok a50.2))))).ve1 va_nil)) (by simp only [M.bind_assoc, M.ok_bind])) (vs_retp (x := known_49) (t := known_49) (VX.congr (ve_var (a := known_49) 2) (by simp only [M.bind_assoc, M.ok_bind])) (by exact rfl) (sub_anys _)) (sub_anys _)))) (sub_anys _) (sw_true rfl rfl rfl (by decide +kernel))) (sub_anys _))
theorem G__law_row (T : Txt K mg a d) : FnOk P w K mg base (L2N.CX P w) 2 (a 9) (d 9) ["cell", "count", "bound"] (spF K mg ((eCons (eCons (eCons eNil))) : Int × Int × Int × Unit → List D) (ow1 : List Int → O) (fun x : Int × Int × Int × Unit => m__law_row x.1 x.2.1 x.2.2.1)) := by
  refine fn_ok T.d__law_row.F sc_law_row (fun _ => rfl) fun cdv Ar outer s H E hr X hX x => ?_
  subst hX
  obtain ⟨p_cell, p_count, p_bound, _⟩ := x
  show VS _ _ _ _ _ (m__law_row p_cell p_count p_bound)
  unfold m__law_row
  exact (vs_setO 3 (sc_law_row).nd (VO.congr (vo_lst (fun x : Unit => ([] : List Int)) va_nil) (by simp only [M.bind_assoc, M.ok_bind])) (fun found_52 => (vs_set 4 (sc_law_row).nd (VX.congr (ve_abs T.b_abs (ve_var (a := p_cell) 0)) (by simp only [M.bind_assoc, M.ok_bind])) (fun rest_53 => (vs_forS (b := (fun (s54 : (List Int) × Int) (a55 : Int) => (if (decide ((if p_cell < 0 then -p_cell else p_cell) ≥ (1000000000000000000 : Int))) then ((chk (0 < p_bound) >>= fun _ => M.ok (s54.2 % p_bound)) >>= fun x58 => chk (s54.1.length < sizeLine) >>= fun _ => (fun found_56 => ((chk (CDiv s54.2 p_bound) >>= fun _ => M.ok (s54.2 / p_bound)) >>= fun rest_57 => (M.ok (found_56, rest_57)))) (s54.1 ++ [x58])) else (((m__law_mix p_cell a55) >>= fun x59 => chk (0 < p_bound) >>= fun _ => M.ok (x59 % p_bound)) >>= fun x61 => chk (s54.1.length < sizeLine) >>= fun _ => (fun found_60 => (M.ok (found_60, s54.2))) (s54.1 ++ [x61]))))) (k := (fun s54 : (List Int) × Int => (M.ok s54.1))) (fun s54 : (List Int) × Int => [sI (p_cell : Int), sI (p_count : Int), sI (p_bound : Int), sO (s54.1 : List Int), sI (s54.2 : Int), .any]) (found_52, rest_53) (passes_of rfl) rfl (VI.congr (vi_range1 T.b_range (ve_var (a := p_count) 1)) ((by simp only [M.bind_assoc, M.ok_bind]) : _ = (chk (rOk p_count) >>= fun _ => M.ok (rng 0 p_count)))) (vg_name (α := Int) (n := 6) 5 (sc_law_row).nd) (fun s54 a55 => (vs_iflp (x := (decide ((if p_cell < 0 then -p_cell else p_cell) ≥ (1000000000000000000 : Int)))) (VT.congr (vt_cmpI op_ge (ve_abs T.b_abs (ve_var (a := p_cell) 0)) ve_int (nomark _)) (by simp only [M.bind_assoc, M.ok_bind])) (vs_append (l := s54.1) (k := fun found_56 : List Int => ((chk (CDiv s54.2 p_bound) >>= fun _ => M.ok (s54.2 / p_bound)) >>= fun rest_57 => (M.ok (found_56, rest_57)))) 3 (VX.congr (ve_mod (ve_toint T.b_int (ve_var (a := s54.2) 4)) (ve_var (a := p_bound) 2)) ((by simp only [M.bind_assoc, M.ok_bind]) : _ = (chk (0 < p_bound) >>= fun _ => M.ok (s54.2 % p_bound)))) (fun found_56 => (vs_set 4 (sc_law_row).nd (VX.congr (ve_div (ve_var (a := s54.2) 4) (ve_var (a := p_bound) 2)) (by simp only [M.bind_assoc, M.ok_bind])) (fun rest_57 => (vs_nil (t := (found_56, rest_57)) (by exact (.eq (.eq (.eq (.eq (.eq (.any .nil))))))))) (sub_anys _))) (sub_anys _)) (vs_append (l := s54.1) (k := fun found_60 : List Int => (M.ok (found_60, s54.2))) 3 (VX.congr (ve_mod (ve_toint T.b_int (ve_call (G__law_mix T) hr T.d__law_mix.g T.d__law_mix.F.kp T.d__law_mix.b (va_cons (ve_var (a := p_cell) 0) (va_cons (ve_var (a := a55) 5) va_nil)))) (ve_var (a := p_bound) 2)) ((by simp only [M.bind_assoc, M.ok_bind]) : _ = ((m__law_mix p_cell a55) >>= fun x59 => chk (0 < p_bound) >>= fun _ => M.ok (x59 % p_bound)))) (fun found_60 => (vs_nil (t := (found_60, s54.2)) (by exact (.eq (.eq (.eq (.eq (.eq (.any .nil))))))))) (sub_anys _)) (sub_anys _))) (fun s54 => (vs_retV (ow := ow1 s54.1) (t := s54.1) 3 (by exact rfl))) (by exact (.eq (.eq (.eq (.eq (.eq (.any .nil))))))) (sub_anys _))) (sub_anys _))) (sub_anys _))
theorem G__law_is_list (T : Txt K mg a d) : FnOk P w K mg base (L2N.CX P w) 2 (a 10) (d 10) ["value", "least", "greatest"] (spF K mg ((eCons (eCons (eCons eNil))) : (List Int) × Int × Int × Unit → List D) (fun r : Bool => O.imm (enc r)) (fun x : (List Int) × Int × Int × Unit => m__law_is_list x.1 x.2.1 x.2.2.1)) := by
  refine fn_ok T.d__law_is_list.F sc_law_is_list (fun _ => rfl) fun cdv Ar outer s H E hr X hX x => ?_
  subst hX
  obtain ⟨p_value, p_least, p_greatest, _⟩ := x
  show VS _ _ _ _ _ (m__law_is_list p_value p_least p_greatest)
  unfold m__law_is_list
  exact (vs_ifxp (x := (!true)) (VT.congr (vt_not (vt_val (ve_isiS (n := "list") "list" true T.b_isinstance T.b_list (ve_var (a := p_value) 0) (fun _ => rfl) (by decide +kernel)))) (by simp only [M.bind_assoc, M.ok_bind])) (vs_retp (x := false) (t := false) (VX.congr ve_bl (by simp only [M.bind_assoc, M.ok_bind])) (by exact rfl) (sub_anys _)) (vs_for (b := (fun (s63 : Unit) (a64 : Int) => ((bOr ((m__law_is_int a64) >>= fun x65 => M.ok (!x65)) (M.ok ((decide (a64 < p_least)) || (decide (a64 > p_greatest))))) >>= fun c66 => if c66 then (M.ok (Stp.rt false : (Stp (Unit) Bool))) else (M.ok (Stp.nx () : (Stp (Unit) Bool)))))) (k := (fun s63 : Unit => (M.ok true))) (fun s63 : Unit => [sI (p_value : (List Int)), sI (p_least : Int), sI (p_greatest : Int), .any]) () (passes_of rfl) rfl (VI.congr (vi_list (ve_var (a := p_value) 0)) ((by simp only [M.bind_assoc, M.ok_bind]) : _ = M.ok p_value)) (vg_name (α := Int) (n := 4) 3 (sc_law_is_list).nd) (fun s63 a64 => (vs_ifx (b := []) (VT.congr ((vw_or (vt_not (vt_val (ve_call (G__law_is_int T) hr T.d__law_is_int.g T.d__law_is_int.F.kp T.d__law_is_int.b (va_cons (ve_var (a := a64) 3) va_nil)))) (vw_or_p (vt_cmpI op_lt (ve_var (a := a64) 3) (ve_var (a := p_least) 1) (nomark _)) (vw_or1 (vt_cmpI op_gt (ve_var (a := a64) 3) (ve_var (a := p_greatest) 2) (nomark _)))))).vt (by simp only [M.bind_assoc, M.ok_bind])) (vs_retp (x := false) (t := (Stp.rt false : (Stp (Unit) Bool))) (VX.congr ve_bl (by simp only [M.bind_assoc, M.ok_bind])) (by exact ⟨_, rfl, rfl⟩) (sub_anys _)) (vs_nil (t := (Stp.nx () : (Stp (Unit) Bool))) (by exact ⟨_, rfl, (.eq (.eq (.eq (.any .nil))))⟩)) (sub_anys _))) (fun s63 => (vs_retp (x := true) (t := true) (VX.congr ve_bl (by simp only [M.bind_assoc, M.ok_bind])) (by exact rfl) (sub_anys _))) (by exact (.eq (.eq (.eq (.any .nil))))) (sub_anys _)) (sub_anys _))
theorem G__law_at (T : Txt K mg a d) : FnOk P w K mg base (L2N.CX P w) 2 (a 11) (d 11) ["points", "values", "target"] (spF K mg ((eCons (eCons (eCons eNil))) : (List Int) × (List Int) × Int × Unit → List D) (fun r : Int => O.imm (enc r)) (fun x : (List Int) × (List Int) × Int × Unit => m__law_at x.1 x.2.1 x.2.2.1)) := by
  refine fn_ok T.d__law_at.F sc_law_at (fun _ => rfl) fun cdv Ar outer s H E hr X hX x => ?_
  subst hX
  obtain ⟨p_points, p_values, p_target, _⟩ := x
  show VS _ _ _ _ _ (m__law_at p_points p_values p_target)
  unfold m__law_at
  exact (vs_set 3 (sc_law_at).nd (VX.congr ve_int (by simp only [M.bind_assoc, M.ok_bind])) (fun total_67 => (vs_forS (b := (fun (s68 : Int) (a69 : Int) => ((getI p_values a69) >>= fun factor_70 => ((chk (rOk (p_points.length : Int)) >>= fun _ => M.ok (rng 0 (p_points.length : Int))) >>= fun x82 => loopS (fun (s71 : Int) (a72 : Int) => (if (!decide (a72 = a69)) then ((((getI p_points a72) >>= fun x73 => M.ok (Builtin.bitXor p_target x73)) >>= fun x74 => m__law_times s71 x74) >>= fun factor_75 => (((((getI p_points a69) >>= fun x76 => (getI p_points a72) >>= fun x77 => M.ok (Builtin.bitXor x76 x77)) >>= fun x78 => m__law_inverse x78) >>= fun x79 => m__law_times factor_75 x79) >>= fun factor_80 => (M.ok factor_80))) else (M.ok s71))) x82 factor_70 >>= (fun s71 : Int => ((M.ok (Builtin.bitXor s68 s71)) >>= fun total_81 => (M.ok total_81))))))) (k := (fun s68 : Int => (M.ok s68))) (fun s68 : Int => [sI (p_points : (List Int)), sI (p_values : (List Int)), sI (p_target : Int), sI (s68 : Int), .any, .any, .any]) total_67 (passes_of rfl) rfl (VI.congr (vi_range1 T.b_range (ve_len T.b_len (ve_var (a := p_points) 0))) ((by simp only [M.bind_assoc, M.ok_bind]) : _ = (chk (rOk (p_points.length : Int)) >>= fun _ => M.ok (rng 0 (p_points.length : Int))))) (vg_name (α := Int) (n := 7) 4 (sc_law_at).nd) (fun s68 a69 => (vs_set 5 (sc_law_at).nd (VX.congr (ve_idx (ve_var (a := p_values) 1) (ve_var (a := a69) 4)) (by simp only [M.bind_assoc, M.ok_bind])) (fun factor_70 => (vs_forS (b := (fun (s71 : Int) (a72 : Int) => (if (!decide (a72 = a69)) then ((((getI p_points a72) >>= fun x73 => M.ok (Builtin.bitXor p_target x73)) >>= fun x74 => m__law_times s71 x74) >>= fun factor_75 => (((((getI p_points a69) >>= fun x76 => (getI p_points a72) >>= fun x77 => M.ok (Builtin.bitXor x76 x77)) >>= fun x78 => m__law_inverse x78) >>= fun x79 => m__law_times factor_75 x79) >>= fun factor_80 => (M.ok factor_80))) else (M.ok s71)))) (k := (fun s71 : Int => ((M.ok (Builtin.bitXor s68 s71)) >>= fun total_81 => (M.ok total_81)))) (fun s71 : Int => [sI (p_points : (List Int)), sI (p_values : (List Int)), sI (p_target : Int), sI (s68 : Int), sI (a69 : Int), sI (s71 : Int), .any]) factor_70 (passes_of rfl) rfl (VI.congr (vi_range1 T.b_range (ve_len T.b_len (ve_var (a := p_points) 0))) ((by simp only [M.bind_assoc, M.ok_bind]) : _ = (chk (rOk (p_points.length : Int)) >>= fun _ => M.ok (rng 0 (p_points.length : Int))))) (vg_name (α := Int) (n := 7) 6 (sc_law_at).nd) (fun s71 a72 => (vs_iflp (x := (!decide (a72 = a69))) (VT.congr (vt_ne (ve_var (a := a72) 6) (ve_var (a := a69) 4)) (by simp only [M.bind_assoc, M.ok_bind])) (vs_set 5 (sc_law_at).nd (VX.congr (ve_call (G__law_times T) hr T.d__law_times.g T.d__law_times.F.kp T.d__law_times.b (va_cons (ve_var (a := s71) 5) (va_cons (ve_binI op_xor (ve_var (a := p_target) 2) (ve_idx (ve_var (a := p_points) 0) (ve_var (a := a72) 6))) va_nil))) (by simp only [M.bind_assoc, M.ok_bind])) (fun factor_75 => (vs_set 5 (sc_law_at).nd (VX.congr (ve_call (G__law_times T) hr T.d__law_times.g T.d__law_times.F.kp T.d__law_times.b (va_cons (ve_var (a := factor_75) 5) (va_cons (ve_call (G__law_inverse T) hr T.d__law_inverse.g T.d__law_inverse.F.kp T.d__law_inverse.b (va_cons (ve_binI op_xor (ve_idx (ve_var (a := p_points) 0) (ve_var (a := a69) 4)) (ve_idx (ve_var (a := p_points) 0) (ve_var (a := a72) 6))) va_nil)) va_nil))) (by simp only [M.bind_assoc, M.ok_bind])) (fun factor_80 => (vs_nil (t := factor_80) (by exact (.eq (.eq (.eq (.eq (.eq (.eq (.any .nil)))))))))) (sub_anys _))) (sub_anys _)) (vs_nil (t := s71) (by exact (.eq (.eq (.eq (.eq (.eq (.eq (.any .nil))))))))) (sub_anys _))) (fun s71 => (vs_set 3 (sc_law_at).nd (VX.congr (ve_binI op_xor (ve_var (a := s68) 3) (ve_var (a := s71) 5)) (by simp only [M.bind_assoc, M.ok_bind])) (fun total_81 => (vs_nil (t := total_81) (by exact (.eq (.eq (.eq (.eq (.any (.any (.any .nil)))))))))) (sub_anys _))) (by exact (.eq (.eq (.eq (.eq (.eq (.eq (.any .nil)))))))) (sub_anys _))) (sub_anys _))) (fun s68 => (vs_retp (x := s68) (t := s68) (VX.congr (ve_var (a := s68) 3) (by simp only [M.bind_assoc, M.ok_bind])) (by exact rfl) (sub_anys _))) (by exact (.eq (.eq (.eq (.eq (.any (.any (.any .nil)))))))) (sub_anys _))) (sub_anys _))
theorem G__law_picks (T : Txt K mg a d) : FnOk P w K mg base (L2N.CX P w) 2 (a 12) (d 12) ["cell", "count", "size"] (spF K mg ((eCons (eCons (eCons eNil))) : Int × Int × Int × Unit → List D) (ow1 : List Int → O) (fun x : Int × Int × Int × Unit => m__law_picks x.1 x.2.1 x.2.2.1)) := by
  refine fn_ok T.d__law_picks.F sc_law_picks (fun _ => rfl) fun cdv Ar outer s H E hr X hX x => ?_
  subst hX
  obtain ⟨p_cell, p_count, p_size, _⟩ := x
  show VS _ _ _ _ _ (m__law_picks p_cell p_count p_size)
  unfold m__law_picks
  exact (vs_setO 3 (sc_law_picks).nd (VO.congr (vo_lst (fun x : Unit => ([] : List Int)) va_nil) (by simp only [M.bind_assoc, M.ok_bind])) (fun order_84 => (vs_forS (b := (fun (s85 : (List Int)) (a86 : Int) => (((m__law_mix p_cell a86) >>= fun x87 => chk (0 < p_size) >>= fun _ => M.ok (x87 % p_size)) >>= fun place_88 => (if ((decide ((s85.length : Int) < p_count)) && (!decide (place_88 ∈ s85))) then (chk (s85.length < sizeLine) >>= fun _ => (fun order_89 => (M.ok order_89)) (s85 ++ [place_88])) else (M.ok s85))))) (k := (fun s85 : (List Int) => ((chk (rOk p_size) >>= fun _ => M.ok (rng 0 p_size)) >>= fun x95 => loopS (fun (s91 : (List Int)) (a92 : Int) => (if ((decide ((s91.length : Int) < p_count)) && (!decide (a92 ∈ s91))) then (chk (s91.length < sizeLine) >>= fun _ => (fun order_93 => (M.ok order_93)) (s91 ++ [a92])) else (M.ok s91))) x95 s85 >>= (fun s91 : (List Int) => (M.ok s91))))) (fun s85 : (List Int) => [sI (p_cell : Int), sI (p_count : Int), sI (p_size : Int), sO (s85 : List Int), .any, .any]) order_84 (passes_of rfl) rfl (VI.congr (vi_rangeK T.b_range ve_int (by decide)) ((by simp only [M.bind_assoc, M.ok_bind]) : _ = M.ok (rng 0 (60 : Int)))) (vg_name (α := Int) (n := 6) 4 (sc_law_picks).nd) (fun s85 a86 => (vs_set 5 (sc_law_picks).nd (VX.congr (ve_mod (ve_call (G__law_mix T) hr T.d__law_mix.g T.d__law_mix.F.kp T.d__law_mix.b (va_cons (ve_var (a := p_cell) 0) (va_cons (ve_var (a := a86) 4) va_nil))) (ve_var (a := p_size) 2)) (by simp only [M.bind_assoc, M.ok_bind])) (fun place_88 => (vs_iflp (x := ((decide ((s85.length : Int) < p_count)) && (!decide (place_88 ∈ s85)))) (VT.congr ((vw_and_p (vt_cmpI op_lt (ve_len T.b_len (vb_own (l := s85) 3)) (ve_var (a := p_count) 1) (nomark _)) (vw_and1 (vt_inNL (ve_var (a := place_88) 5) (vb_own (l := s85) 3))))).vt (by simp only [M.bind_assoc, M.ok_bind])) (vs_append (l := s85) (k := fun order_89 : List Int => (M.ok order_89)) 3 (VX.congr (ve_var (a := place_88) 5) ((by simp only [M.bind_assoc, M.ok_bind]) : _ = (M.ok place_88))) (fun order_89 => (vs_nil (t := order_89) (by exact (.eq (.eq (.eq (.eq (.any (.any .nil))))))))) (sub_anys _)) (vs_nil (t := s85) (by exact (.eq (.eq (.eq (.eq (.any (.any .nil)))))))) (sub_anys _))) (sub_anys _))) (fun s85 => (vs_forS (b := (fun (s91 : (List Int)) (a92 : Int) => (if ((decide ((s91.length : Int) < p_count)) && (!decide (a92 ∈ s91))) then (chk (s91.length < sizeLine) >>= fun _ => (fun order_93 => (M.ok order_93)) (s91 ++ [a92])) else (M.ok s91)))) (k := (fun s91 : (List Int) => (M.ok s91))) (fun s91 : (List Int) => [sI (p_cell : Int), sI (p_count : Int), sI (p_size : Int), sO (s91 : List Int), .any, .any]) s85 (passes_of rfl) rfl (VI.congr (vi_range1 T.b_range (ve_var (a := p_size) 2)) ((by simp only [M.bind_assoc, M.ok_bind]) : _ = (chk (rOk p_size) >>= fun _ => M.ok (rng 0 p_size)))) (vg_name (α := Int) (n := 6) 5 (sc_law_picks).nd) (fun s91 a92 => (vs_iflp (x := ((decide ((s91.length : Int) < p_count)) && (!decide (a92 ∈ s91)))) (VT.congr ((vw_and_p (vt_cmpI op_lt (ve_len T.b_len (vb_own (l := s91) 3)) (ve_var (a := p_count) 1) (nomark _)) (vw_and1 (vt_inNL (ve_var (a := a92) 5) (vb_own (l := s91) 3))))).vt (by simp only [M.bind_assoc, M.ok_bind])) (vs_append (l := s91) (k := fun order_93 : List Int => (M.ok order_93)) 3 (VX.congr (ve_var (a := a92) 5) ((by simp only [M.bind_assoc, M.ok_bind]) : _ = (M.ok a92))) (fun order_93 => (vs_nil (t := order_93) (by exact (.eq (.eq (.eq (.eq (.any (.any .nil))))))))) (sub_anys _)) (vs_nil (t := s91) (by exact (.eq (.eq (.eq (.eq (.any (.any .nil)))))))) (sub_anys _))) (fun s91 => (vs_retV (ow := ow1 s91) (t := s91) 3 (by exact rfl))) (by exact (.eq (.eq (.eq (.eq (.any (.any .nil))))))) (sub_anys _))) (by exact (.eq (.eq (.eq (.eq (.any (.any .nil))))))) (sub_anys _))) (sub_anys _))
theorem G_encode (T : Txt K mg a d) : FnOk P w K mg base (L2N.CX P w) 3 (a 13) (d 13) ["symbols", "size"] (spF K mg ((eCons (eCons eNil)) : (List Int) × Int × Unit → List D) (ow1 : List Int → O) (fun x : (List Int) × Int × Unit => m_encode x.1 x.2.1)) := by
  refine fn_ok T.d_encode.F scencode (fun _ => rfl) fun cdv Ar outer s H E hr X hX x => ?_
  subst hX
  obtain ⟨p_symbols, p_size, _⟩ := x
  show VS _ _ _ _ _ (m_encode p_symbols p_size)
  unfold m_encode
  exact (vs_ifxp (x := ((decide ((p_symbols.length : Int) = (0 : Int))) || ((decide (p_size < (p_symbols.length : Int))) || (decide (p_size > (16 : Int)))))) (VT.congr ((vw_or_p (vt_eq (ve_len T.b_len (ve_var (a := p_symbols) 0)) ve_int) (vw_or_p (vt_cmpI op_lt (ve_var (a := p_size) 1) (ve_len T.b_len (ve_var (a := p_symbols) 0)) (nomark _)) (vw_or1 (vt_cmpI op_gt (ve_var (a := p_size) 1) (ve_gint T.c_SYMBOLS (by rfl)) (nomark _)))))).vt (by simp only [M.bind_assoc, M.ok_bind])) (vs_raiseT T.e_InvalidSymbol rfl (sub_anys _)) (vs_expr (VX.congr (ve_call (G_check_symbols T) (hr.mono (show 1 ≤ 2 by decide)) T.d_check_symbols.g T.d_check_symbols.F.kp T.d_check_symbols.b (va_cons (ve_var (a := p_symbols) 0) va_nil)) (by simp only [M.bind_assoc, M.ok_bind])) (vs_retO (f := fun r => r) (VO.congr (vo_cat ((vo_list T.b_list (ve_var (a := p_symbols) 0))).ve1 ((vo_call (G__continued T) hr T.d__continued.g T.d__continued.F.kp T.d__continued.b (va_cons ((vo_listEnum rfl T.b_list T.b_enumerate (ve_var (a := p_symbols) 0))).ve1 (va_cons ((vo_listR rfl T.b_list (vr_2 T.b_range (ve_len T.b_len (ve_var (a := p_symbols) 0)) (ve_var (a := p_size) 1)))).ve1 va_nil)))).ve1) (by simp only [M.bind_assoc, M.ok_bind])) (fun r => by exact rfl) (sub_anys _)) (sub_anys _)) (sub_anys _))
theorem G_restored (T : Txt K mg a d) : FnOk P w K mg base (L2N.CX P w) 3 (a 14) (d 14) ["received", "count"] (spF K mg ((eCons (eCons eNil)) : (List (Option Int)) × Int × Unit → List D) (fun r : (Option (List Int)) => O.imm (enc r)) (fun x : (List (Option Int)) × Int × Unit => m_restored x.1 x.2.1)) := by
  refine fn_ok T.d_restored.F screstored (fun _ => rfl) fun cdv Ar outer s H E hr X hX x => ?_
  subst hX
  obtain ⟨p_received, p_count, _⟩ := x
  show VS _ _ _ _ _ (m_restored p_received p_count)
  unfold m_restored
  exact (vs_set 2 (screstored).nd (VX.congr (ve_call (G__known T) hr T.d__known.g T.d__known.F.kp T.d__known.b (va_cons (ve_var (a := p_received) 0) (va_cons (ve_var (a := p_count) 1) va_nil))) (by simp only [M.bind_assoc, M.ok_bind])) (fun known_98 => (vs_ifxp (x := (decide ((known_98.length : Int) < p_count))) (VT.congr (vt_cmpI op_lt (ve_len T.b_len (ve_var (a := known_98) 2)) (ve_var (a := p_count) 1) (nomark _)) (by simp only [M.bind_assoc, M.ok_bind])) (vs_retp (x := (none : (Option (List Int)))) (t := (none : (Option (List Int)))) (VX.congr (VX.none_ (ve_non)) (by simp only [M.bind_assoc, M.ok_bind])) (by exact rfl) (sub_anys _)) (vs_ret (f := fun r => r) (VX.congr (VX.some (((vo_call (G__continued T) hr T.d__continued.g T.d__continued.F.kp T.d__continued.b (va_cons ((vo_sl (ve_var (a := known_98) 2) vp_none (vp_some (ve_var (a := p_count) 1)))).ve1 (va_cons ((vo_listR rfl T.b_list (vr_1 T.b_range (ve_len T.b_len (ve_var (a := p_received) 0))))).ve1 va_nil)))).ve1)) (by simp only [M.bind_assoc, M.ok_bind])) (fun r => by exact rfl) (sub_anys _)) (sub_anys _))) (sub_anys _))
theorem G__law_codeword (T : Txt K mg a d) : FnOk P w K mg base (L2N.CX P w) 3 (a 15) (d 15) ["symbols", "size"] (spF K mg ((eCons (eCons eNil)) : (List Int) × Int × Unit → List D) (ow1 : List Int → O) (fun x : (List Int) × Int × Unit => m__law_codeword x.1 x.2.1)) := by
  refine fn_ok T.d__law_codeword.F sc_law_codeword (fun _ => rfl) fun cdv Ar outer s H E hr X hX x => ?_
  subst hX
  obtain ⟨p_symbols, p_size, _⟩ := x
  show VS _ _ _ _ _ (m__law_codeword p_symbols p_size)
  unfold m__law_codeword
  exact (vs_set 2 (sc_law_codeword).nd (VX.congr ((vo_listR rfl T.b_list (vr_1 T.b_range (ve_len T.b_len (ve_var (a := p_symbols) 0))))).ve1 (by simp only [M.bind_assoc, M.ok_bind])) (fun points_101 => (vs_retO (f := fun r => r) (VO.congr (vo_cat (ve_var (a := p_symbols) 0) ((vo_lc [("point", 3)] rfl (sc_law_codeword).nd (vi_range2 T.b_range (ve_len T.b_len (ve_var (a := p_symbols) 0)) (ve_var (a := p_size) 1)) (blkOk_by (N := N_law_codeword) (sc := defScope s__law_codeword) (by decide +kernel)) (fun _ _ _ _ _ => (vg_name (α := Int) (n := 4) 3 (sc_law_codeword).nd)) (fun (a102 : Int) _ _ _ _ _ => (vk_nil : VK _ _ _ (M.ok true))) (fun (a102 : Int) _ _ _ _ _ => (VX.congr (ve_call (G__law_at T) hr T.d__law_at.g T.d__law_at.F.kp T.d__law_at.b (va_cons (ve_var (a := points_101) 2) (va_cons (ve_var (a := p_symbols) 0) (va_cons (ve_var (a := a102) 3) va_nil)))) (by simp only [M.bind_assoc, M.ok_bind]) : VE _ _ _ (m__law_at points_101 p_symbols a102))))).ve1) (by simp only [M.bind_assoc, M.ok_bind])) (fun r => by exact rfl) (sub_anys _))) (sub_anys _))
theorem G__law_first_part (T : Txt K mg a d) : FnOk P w K mg base (L2N.CX P w) 4 (a 16) (d 16) ["script"] (spF K mg ((eCons eNil) : (List Int) × Unit → List D) (fun r : Bool => O.imm (enc r)) (fun x : (List Int) × Unit => m__law_first_part x.1)) := by
  refine fn_ok T.d__law_first_part.F sc_law_first_part (fun _ => rfl) fun cdv Ar outer s H E hr X hX x => ?_
  subst hX
  obtain ⟨p_script, _⟩ := x
  show VS _ _ _ _ _ (m__law_first_part p_script)
  unfold m__law_first_part
  exact (vs_set 1 (sc_law_first_part).nd (VX.congr (ve_modK (ve_call (G__law_cell T) (hr.mono (show 1 ≤ 3 by decide)) T.d__law_cell.g T.d__law_cell.F.kp T.d__law_cell.b (va_cons (ve_var (a := p_script) 0) (va_cons ve_int va_nil))) ve_int) (by simp only [M.bind_assoc, M.ok_bind])) (fun count_106 => (vs_setO 2 (sc_law_first_part).nd (VO.congr (vo_call (G__law_row T) (hr.mono (show 2 ≤ 3 by decide)) T.d__law_row.g T.d__law_row.F.kp T.d__law_row.b (va_cons (ve_call (G__law_cell T) (hr.mono (show 1 ≤ 3 by decide)) T.d__law_cell.g T.d__law_cell.F.kp T.d__law_cell.b (va_cons (ve_var (a := p_script) 0) (va_cons ve_int va_nil))) (va_cons (ve_var (a := count_106) 1) (va_cons ve_int va_nil)))) (by simp only [M.bind_assoc, M.ok_bind])) (fun symbols_108 => (vs_set 3 (sc_law_first_part).nd (VX.congr (ve_binI op_add (ve_var (a := count_106) 1) (ve_modK (ve_call (G__law_cell T) (hr.mono (show 1 ≤ 3 by decide)) T.d__law_cell.g T.d__law_cell.F.kp T.d__law_cell.b (va_cons (ve_var (a := p_script) 0) (va_cons ve_int va_nil))) ve_int)) (by simp only [M.bind_assoc, M.ok_bind])) (fun size_111 => (vs_ifj (fun s115 : Int => [sI (p_script : (List Int)), sI (count_106 : Int), sO (symbols_108 : List Int), sI (s115 : Int), .any, .any, .any, .any, .any, .any, .any, .any, .any]) (VT.congr (vt_eq (ve_modK (ve_divK (ve_call (G__law_cell T) (hr.mono (show 1 ≤ 3 by decide)) T.d__law_cell.g T.d__law_cell.F.kp T.d__law_cell.b (va_cons (ve_var (a := p_script) 0) (va_cons ve_int va_nil))) ve_int) ve_int) ve_int) (by simp only [M.bind_assoc, M.ok_bind])) (vs_set 3 (sc_law_first_part).nd (VX.congr (ve_modK (ve_divK (ve_call (G__law_cell T) (hr.mono (show 1 ≤ 3 by decide)) T.d__law_cell.g T.d__law_cell.F.kp T.d__law_cell.b (va_cons (ve_var (a := p_script) 0) (va_cons ve_int va_nil))) ve_int) ve_int) (by simp only [M.bind_assoc, M.ok_bind])) (fun size_118 => (vs_nil (t := size_118) (by exact (.eq (.eq (.eq (.eq (.any (.any (.any (.any (.any (.any (.any (.any (.any .nil)))))))))))))))) (sub_anys _)) (vs_nil (t := size_111) (by exact (.eq (.eq (.eq (.eq (.any (.any (.any (.any (.any (.any (.any (.any (.any .nil))))))))))))))) (fun s115 => (vs_ifj (fun s121 : (List Int) => [sI (p_script : (List Int)), sI (count_106 : Int), sI (s121 : (List Int)), sI (s115 : Int), .any, .any, .any, .any, .any, .any, .any, .any, .any]) (VT.congr ((vw_and (vt_eq (ve_modK (ve_call (G__law_cell T) (hr.mono (show 1 ≤ 3 by decide)) T.d__law_cell.g T.d__law_cell.F.kp T.d__law_cell.b (va_cons (ve_var (a := p_script) 0) (va_cons ve_int va_nil))) ve_int) ve_int) (vw_and1 (vt_cmpI op_gt (ve_var (a := count_106) 1) ve_int (nomark _))))).vt (by simp only [M.bind_assoc, M.ok_bind])) (vs_setI (l := symbols_108) (k := fun symbols_127 : List Int => (M.ok symbols_127)) 2 (VX.congr (ve_idxT (ve_tup (fun x : Int × Int × Int × Int × Unit => (⟨[x.1, x.2.1, x.2.2.1, x.2.2.2.1]⟩ : (Tup Int))) (va_cons ve_int (va_cons (ve_neg ve_int) (va_cons ve_int (va_cons (ve_neg ve_int) va_nil))))) (ve_modK (ve_divK (ve_call (G__law_cell T) (hr.mono (show 1 ≤ 3 by decide)) T.d__law_cell.g T.d__law_cell.F.kp T.d__law_cell.b (va_cons (ve_var (a := p_script) 0) (va_cons ve_int va_nil))) ve_int) ve_int)) ((by simp only [M.bind_assoc, M.ok_bind]) : _ = ((((m__law_cell p_script (3 : Int)) >>= fun x122 => M.ok (x122 / (108 : Int))) >>= fun x123 => M.ok (x123 % (4 : Int))) >>= fun x124 => getI ((⟨[(16 : Int), (-(1 : Int)), (1000 : Int), (-(16 : Int))]⟩ : (Tup Int))).l x124))) (VX.congr (ve_mod (ve_divK (ve_call (G__law_cell T) (hr.mono (show 1 ≤ 3 by decide)) T.d__law_cell.g T.d__law_cell.F.kp T.d__law_cell.b (va_cons (ve_var (a := p_script) 0) (va_cons ve_int va_nil))) ve_int) (ve_var (a := count_106) 1)) ((by simp only [M.bind_assoc, M.ok_bind]) : _ = (((m__law_cell p_script (3 : Int)) >>= fun x125 => M.ok (x125 / (6 : Int))) >>= fun x126 => chk (0 < count_106) >>= fun _ => M.ok (x126 % count_106)))) (fun symbols_127 => (vs_freeze1 (l := symbols_127) 2 (vs_nil (t := symbols_127) (by exact (.eq (.eq (.eq (.eq (.any (.any (.any (.any (.any (.any (.any (.any (.any .nil))))))))))))))))) (sub_anys _)) (vs_freeze1 (l := symbols_108) 2 (vs_nil (t := symbols_108) (by exact (.eq (.eq (.eq (.eq (.any (.any (.any (.any (.any (.any (.any (.any (.any .nil)))))))))))))))) (fun s121 => (vs_set 4 (sc_law_first_part).nd (VX.congr (ve_chain3p op_le op_le op_le ve_int (ve_var (a := count_106) 1) (ve_var (a := s115) 3) ve_int) (by simp only [M.bind_assoc, M.ok_bind])) (fun good_130 => (vs_forS (b := (fun (s131 : Bool) (a132 : Int) => ((M.ok (s131 && (decide ((0 : Int) ≤ a132) && decide (a132 ≤ (15 : Int))))) >>= fun good_133 => (M.ok good_133)))) (k := (fun s131 : Bool => ((M.ok s121) >>= fun copy_134 => (tryM k_tab "ArchiveError" (((m_encode copy_134 s115) >>= fun actual_136 => (M.ok (Jn.go actual_136 : (Jn ((List Int)) Bool)))) : M (Jn ((List Int)) Bool)) (fun e137 : Exn => nox (chk (e137.fs.isEmpty = true) >>= fun _ => (((bAnd (isE k_tab e137 "InvalidSymbol") (M.ok ((!s131) && (decide (copy_134 = s121))))) >>= fun r => M.ok (Jn.out r : (Jn ((List Int)) Bool))) : M (Jn ((List Int)) Bool)))) >>= fun j => j.on (fun s135 : (List Int) => ((bOr (M.ok (!s131)) (bOr (M.ok (!decide (copy_134 = s121))) (bOr ((m__law_is_list s135 (0 : Int) (15 : Int)) >>= fun x138 => M.ok (!x138)) ((m__law_codeword s121 s115) >>= fun x139 => M.ok (!decide (s135 = x139)))))) >>= fun c150 => if c150 then (M.ok false) else (((m__law_cell p_script (4 : Int)) >>= fun x140 => m__law_row x140 count_106 (16 : Int)) >>= fun other_141 => ((if (decide (other_141 = s121)) then (((getI other_141 (0 : Int)) >>= fun x143 => M.ok (Builtin.bitXor x143 (5 : Int))) >>= fun x145 => setL other_141 (0 : Int) x145 >>= fun other_144 => (M.ok other_144)) else (M.ok other_141) : (M ((List Int)))) >>= (fun s142 : (List Int) => ((((m_encode s142 s115) >>= fun x146 => M.ok ((s135).zip x146)) >>= fun x148 => lcM (fun (a147 : (Int × Int)) => (M.ok (decide (a147.1 = a147.2)))) (fun (a147 : (Int × Int)) => (M.ok (1 : Int))) x148) >>= fun alike_149 => (M.ok (decide ((alike_149.length : Int) < count_106))))))))))))) (fun s131 : Bool => [sI (p_script : (List Int)), sI (count_106 : Int), sI (s121 : (List Int)), sI (s115 : Int), sI (s131 : Bool), .any, .any, .any, .any, .any, .any, .any, .any]) good_130 (passes_of rfl) rfl (VI.congr (vi_list (ve_var (a := s121) 2)) ((by simp only [M.bind_assoc, M.ok_bind]) : _ = M.ok s121)) (vg_name (α := Int) (n := 13) 5 (sc_law_first_part).nd) (fun s131 a132 => (vs_set 4 (sc_law_first_part).nd (VX.congr (ve_and_p (ve_var (a := s131) 4) (ve_one (ve_chainp op_le op_le ve_int (ve_var (a := a132) 5) ve_int))) (by simp only [M.bind_assoc, M.ok_bind])) (fun good_133 => (vs_nil (t := good_133) (by exact (.eq (.eq (.eq (.eq (.eq (.any (.any (.any (.any (.any (.any (.any (.any .nil)))))))))))))))) (sub_anys _))) (fun s131 => (vs_set 6 (sc_law_first_part).nd (VX.congr ((vo_list T.b_list (ve_var (a := s121) 2))).ve1 (by simp only [M.bind_assoc, M.ok_bind])) (fun copy_134 => (vs_tryT (mb := ((m_encode copy_134 s115) >>= fun actual_136 => (M.ok (Jn.go actual_136 : (Jn ((List Int)) Bool))))) (mh := fun e137 : Exn => ((bAnd (isE k_tab e137 "InvalidSymbol") (M.ok ((!s131) && (decide (copy_134 = s121))))) >>= fun r => M.ok (Jn.out r : (Jn ((List Int)) Bool)))) (kk := (fun s135 : (List Int) => ((bOr (M.ok (!s131)) (bOr (M.ok (!decide (copy_134 = s121))) (bOr ((m__law_is_list s135 (0 : Int) (15 : Int)) >>= fun x138 => M.ok (!x138)) ((m__law_codeword s121 s115) >>= fun x139 => M.ok (!decide (s135 = x139)))))) >>= fun c150 => if c150 then (M.ok false) else (((m__law_cell p_script (4 : Int)) >>= fun x140 => m__law_row x140 count_106 (16 : Int)) >>= fun other_141 => ((if (decide (other_141 = s121)) then (((getI other_141 (0 : Int)) >>= fun x143 => M.ok (Builtin.bitXor x143 (5 : Int))) >>= fun x145 => setL other_141 (0 : Int) x145 >>= fun other_144 => (M.ok other_144)) else (M.ok other_141) : (M ((List Int)))) >>= (fun s142 : (List Int) => ((((m_encode s142 s115) >>= fun x146 => M.ok ((s135).zip x146)) >>= fun x148 => lcM (fun (a147 : (Int × Int)) => (M.ok (decide (a147.1 = a147.2)))) (fun (a147 : (Int × Int)) => (M.ok (1 : Int))) x148) >>= fun alike_149 => (M.ok (decide ((alike_149.length : Int) < count_106)))))))))) (fun s135 : (List Int) => [sI (p_script : (List Int)), sI (count_106 : Int), sI (s121 : (List Int)), sI (s115 : Int), sI (s131 : Bool), .any, sI (copy_134 : (List Int)), .any, .any, .any, sI (s135 : (List Int)), .any, .any]) 7 k_tab [sI (p_script : (List Int)), sI (count_106 : Int), sI (s121 : (List Int)), sI (s115 : Int), sI (s131 : Bool), .any, sI (copy_134 : (List Int)), .any, .any, .any, .any, .any, .any] rfl rfl (sc_law_first_part).nd T.n_ArchiveError (fun pn xe po => (vs_set 10 (sc_law_first_part).nd (VX.congr ((vo_call (G_encode T) hr T.d_encode.g T.d_encode.F.kp T.d_encode.b (va_cons (ve_var (a := copy_134) 6) (va_cons (ve_var (a := s115) 3) va_nil)))).ve1 (by simp only [M.bind_assoc, M.ok_bind])) (fun actual_136 => (vs_nil (t := (Jn.go actual_136 : (Jn ((List Int)) Bool))) (by exact ⟨_, rfl, (.eq (.eq (.eq (.eq (.eq (.any (.eq (.any (.any (.any (.eq (.any (.any .nil)))))))))))))⟩))) (.eq (.eq (.eq (.eq (.eq (.any (.eq (.any (.any (.any (.any (.any (.any .nil))))))))))))))) (fun e137 hfs a oe cls pn hz hfl hmc => (vs_ret (f := fun r => (Jn.out r : (Jn ((List Int)) Bool))) (VX.congr (ve_and (ve_isEo 7 hz hfl hmc T.i_InvalidSymbol T.b_isinstance) (ve_and_p (ve_not (ve_var (a := s131) 4)) (ve_one (ve_eqD (by exact hr.units) (ve_var (a := copy_134) 6) (ve_var (a := s121) 2))))) (by simp only [M.bind_assoc, M.ok_bind])) (fun r => by exact ⟨_, rfl, rfl⟩) (sub_anys _))) (fun s135 => (vs_ifx (b := []) (VT.congr ((vw_or (vt_not (vt_val (ve_var (a := s131) 4))) (vw_or (vt_neD (by exact hr.units) (ve_var (a := copy_134) 6) (ve_var (a := s121) 2)) (vw_or (vt_not (vt_val (ve_call (G__law_is_list T) (hr.mono (show 2 ≤ 3 by decide)) T.d__law_is_list.g T.d__law_is_list.F.kp T.d__law_is_list.b (va_cons (ve_var (a := s135) 10) (va_cons ve_int (va_cons ve_int va_nil)))))) (vw_or1 (vt_neD (by exact hr.units) (ve_var (a := s135) 10) ((vo_call (G__law_codeword T) hr T.d__law_codeword.g T.d__law_codeword.F.kp T.d__law_codeword.b (va_cons (ve_var (a := s121) 2) (va_cons (ve_var (a := s115) 3) va_nil)))).ve1)))))).vt (by simp only [M.bind_assoc, M.ok_bind])) (vs_retp (x := false) (t := false) (VX.congr ve_bl (by simp only [M.bind_assoc, M.ok_bind])) (by exact rfl) (sub_anys _)) (vs_setO 8 (sc_law_first_part).nd (VO.congr (vo_call (G__law_row T) (hr.mono (show 2 ≤ 3 by decide)) T.d__law_row.g T.d__law_row.F.kp T.d__law_row.b (va_cons (ve_call (G__law_cell T) (hr.mono (show 1 ≤ 3 by decide)) T.d__law_cell.g T.d__law_cell.F.kp T.d__law_cell.b (va_cons (ve_var (a := p_script) 0) (va_cons ve_int va_nil))) (va_cons (ve_var (a := count_106) 1) (va_cons ve_int va_nil)))) (by simp only [M.bind_assoc, M.ok_bind])) (fun other_141 => (vs_ifjp (x := (decide (other_141 = s121))) (fun s142 : (List Int) => [sI (p_script : (List Int)), sI (count_106 : Int), sI (s121 : (List Int)), sI (s115 : Int), sI (s131 : Bool), .any, sI (copy_134 : (List Int)), .any, sI (s142 : (List Int)), .any, sI (s135 : (List Int)), .any, .any]) (VT.congr (vt_eqD (by exact hr.units) (vb_own (l := other_141) 8) (ve_var (a := s121) 2)) (by simp only [M.bind_assoc, M.ok_bind])) (vs_setI (l := other_141) (k := fun other_144 : List Int => (M.ok other_144)) 8 (VX.congr (ve_binI op_xor (ve_idx (vb_own (l := other_141) 8) ve_int) ve_int) ((by simp only [M.bind_assoc, M.ok_bind]) : _ = ((getI other_141 (0 : Int)) >>= fun x143 => M.ok (Builtin.bitXor x143 (5 : Int))))) (VX.congr ve_int ((by simp only [M.bind_assoc, M.ok_bind]) : _ = (M.ok (0 : Int)))) (fun other_144 => (vs_freeze1 (l := other_144) 8 (vs_nil (t := other_144) (by exact (.eq (.eq (.eq (.eq (.eq (.any (.eq (.any (.eq (.any (.eq (.any (.any .nil))))))))))))))))) (sub_anys _)) (vs_freeze1 (l := other_141) 8 (vs_nil (t := other_141) (by exact (.eq (.eq (.eq (.eq (.eq (.any (.eq (.any (.eq (.any (.eq (.any (.any .nil)))))))))))))))) (fun s142 => (vs_setLc 9 [("a", 11), ("b", 12)] rfl (sc_law_first_part).nd (vi_zip T.b_zip (ve_var (a := s135) 10) ((vo_call (G_encode T) hr T.d_encode.g T.d_encode.F.kp T.d_encode.b (va_cons (ve_var (a := s142) 8) (va_cons (ve_var (a := s115) 3) va_nil)))).ve1) (blkOk_by (N := N_law_first_part) (sc := defScope s__law_first_part) (by decide +kernel)) (fun _ _ _ _ _ => (vg_tup (fun x : (Int × Int) => (x.1, x.2, ())) rfl (vgs_cons (vg_name (α := Int) (n := 13) 11 (sc_law_first_part).nd) (vgs_cons (vg_name (α := Int) (n := 13) 12 (sc_law_first_part).nd) vgs_nil)) (fun _ => rfl) (fun _ => rfl))) (fun (a147 : (Int × Int)) _ _ _ _ _ => ((vk_one (VT.congr (vt_eq (ve_var (a := a147.1) 11) (ve_var (a := a147.2) 12)) (by simp only [M.bind_assoc, M.ok_bind]))) : VK _ _ _ (M.ok (decide (a147.1 = a147.2))))) (fun (a147 : (Int × Int)) _ _ _ _ _ => (VX.congr ve_int (by simp only [M.bind_assoc, M.ok_bind]) : VE _ _ _ (M.ok (1 : Int)))) (fun alike_149 => (vs_freeze1 (l := alike_149) 9 (vs_retp (x := (decide ((alike_149.length : Int) < count_106))) (t := (decide ((alike_149.length : Int) < count_106))) (VX.congr (ve_cmpI op_lt (ve_len T.b_len (ve_var (a := alike_149) 9)) (ve_var (a := count_106) 1) (nomark _)) (by simp only [M.bind_assoc, M.ok_bind])) (by exact rfl) (sub_anys _)))) (sub_anys _) (sw_true rfl rfl rfl (by decide +kernel)))) (sub_anys _))) (sub_anys _)) (sub_anys _))) (sub_anys _))) (sub_anys _))) (by exact (.eq (.eq (.eq (.eq (.eq (.any (.any (.any (.any (.any (.any (.any (.any .nil)))))))))))))) (sub_anys _))) (sub_anys _))) (sub_anys _))) (sub_anys _))) (sub_anys _))) (sub_anys _))) (sub_anys _))
theorem G__law_second_part (T : Txt K mg a d) : FnOk P w K mg base (L2N.CX P w) 4 (a 17) (d 17) ["script"] (spF K mg ((eCons eNil) : (List Int) × Unit → List D) (fun r : Bool => O.imm (enc r)) (fun x : (List Int) × Unit => m__law_second_part x.1)) := by
  refine fn_ok T.d__law_second_part.F sc_law_second_part (fun _ => rfl) fun cdv Ar outer s H E hr X hX x => ?_
  subst hX
  obtain ⟨p_script, _⟩ := x
  show VS _ _ _ _ _ (m__law_second_part p_script)
  unfold m__law_second_part
  exact (vs_set 1 (sc_law_second_part).nd (VX.congr (ve_binI op_add ve_int (ve_modK (ve_call (G__law_cell T) (hr.mono (show 1 ≤ 3 by decide)) T.d__law_cell.g T.d__law_cell.F.kp T.d__law_cell.b (va_cons (ve_var (a := p_script) 0) (va_cons ve_int va_nil))) ve_int)) (by simp only [M.bind_assoc, M.ok_bind])) (fun size_155 => (vs_set 2 (sc_law_second_part).nd (VX.congr (ve_binI op_add ve_int (ve_mod (ve_divK (ve_call (G__law_cell T) (hr.mono (show 1 ≤ 3 by decide)) T.d__law_cell.g T.d__law_cell.F.kp T.d__law_cell.b (va_cons (ve_var (a := p_script) 0) (va_cons ve_int va_nil))) ve_int) (ve_var (a := size_155) 1))) (by simp only [M.bind_assoc, M.ok_bind])) (fun count_159 => (vs_set 3 (sc_law_second_part).nd (VX.congr ((vo_call (G__law_codeword T) hr T.d__law_codeword.g T.d__law_codeword.F.kp T.d__law_codeword.b (va_cons ((vo_call (G__law_row T) (hr.mono (show 2 ≤ 3 by decide)) T.d__law_row.g T.d__law_row.F.kp T.d__law_row.b (va_cons (ve_call (G__law_cell T) (hr.mono (show 1 ≤ 3 by decide)) T.d__law_cell.g T.d__law_cell.F.kp T.d__law_cell.b (va_cons (ve_var (a := p_script) 0) (va_cons ve_int va_nil))) (va_cons (ve_var (a := count_159) 2) (va_cons ve_int va_nil))))).ve1 (va_cons (ve_var (a := size_155) 1) va_nil)))).ve1 (by simp only [M.bind_assoc, M.ok_bind])) (fun codeword_162 => (vs_set 4 (sc_law_second_part).nd (VX.congr (ve_mod (ve_call (G__law_cell T) (hr.mono (show 1 ≤ 3 by decide)) T.d__law_cell.g T.d__law_cell.F.kp T.d__law_cell.b (va_cons (ve_var (a := p_script) 0) (va_cons ve_int va_nil))) (ve_binI op_add (ve_var (a := size_155) 1) ve_int)) (by simp only [M.bind_assoc, M.ok_bind])) (fun gone_164 => (vs_ifj (fun s168 : Int => [sI (p_script : (List Int)), sI (size_155 : Int), sI (count_159 : Int), sI (codeword_162 : (List Int)), sI (s168 : Int), .any, .any, .any, .any, .any, .any, .any, .any, .any, .any]) (VT.congr (vt_eq (ve_modK (ve_divK (ve_call (G__law_cell T) (hr.mono (show 1 ≤ 3 by decide)) T.d__law_cell.g T.d__law_cell.F.kp T.d__law_cell.b (va_cons (ve_var (a := p_script) 0) (va_cons ve_int va_nil))) ve_int) ve_int) ve_int) (by simp only [M.bind_assoc, M.ok_bind])) (vs_set 4 (sc_law_second_part).nd (VX.congr (ve_binI op_sub (ve_var (a := size_155) 1) (ve_var (a := count_159) 2)) (by simp only [M.bind_assoc, M.ok_bind])) (fun gone_169 => (vs_nil (t := gone_169) (by exact (.eq (.eq (.eq (.eq (.eq (.any (.any (.any (.any (.any (.any (.any (.any (.any (.any .nil)))))))))))))))))) (sub_anys _)) (vs_nil (t := gone_164) (by exact (.eq (.eq (.eq (.eq (.eq (.any (.any (.any (.any (.any (.any (.any (.any (.any (.any .nil))))))))))))))))) (fun s168 => (vs_setO 5 (sc_law_second_part).nd (VO.congr (vo_list T.b_list (VX.coL (fun x : Int => (some x : (Option Int))) (ve_var (a := codeword_162) 3))) (by simp only [M.bind_assoc, M.ok_bind])) (fun received_171 => (vs_forS (b := (fun (s173 : (List (Option Int))) (a174 : Int) => (setL s173 a174 (none : (Option Int)) >>= fun received_175 => (M.ok received_175)))) (k := (fun s173 : (List (Option Int)) => (((((m__law_cell p_script (2 : Int)) >>= fun x176 => M.ok (x176 / (40 : Int))) >>= fun x177 => M.ok (x177 % (4 : Int))) >>= fun x178 => M.ok (decide (x178 = (1 : Int)))) >>= fun c235 => (if c235 then (((m__law_cell p_script (4 : Int)) >>= fun x180 => chk (0 < size_155) >>= fun _ => M.ok (x180 % size_155)) >>= fun place_181 => (((getI s173 place_181) >>= fun x182 => M.ok ((x182).isSome)) >>= fun c191 => if c191 then (((((getI s173 place_181) >>= unO) >>= fun x186 => ((((m__law_cell p_script (4 : Int)) >>= fun x183 => M.ok (x183 / (16 : Int))) >>= fun x184 => M.ok (x184 % (15 : Int))) >>= fun x185 => M.ok ((1 : Int) + x185)) >>= fun x187 => M.ok (Builtin.bitXor x186 x187)) >>= fun x188 => M.ok (some x188 : (Option Int))) >>= fun x190 => setL s173 place_181 x190 >>= fun received_189 => (M.ok received_189)) else (M.ok s173))) else (M.ok s173) : (M ((List (Option Int))))) >>= (fun s179 : (List (Option Int)) => ((((chk (rOk size_155) >>= fun _ => M.ok (rng 0 size_155)) >>= fun x194 => lcM (fun (a192 : Int) => ((getI s179 a192) >>= fun x193 => M.ok ((x193).isSome))) (fun (a192 : Int) => (M.ok a192)) x194) >>= fun x195 => M.ok (cutL x195 none (some count_159))) >>= fun points_196 => ((lcM (fun (a197 : Int) => M.ok true) (fun (a197 : Int) => ((getI s179 a197) >>= unO)) points_196) >>= fun values_198 => ((((m__law_cell p_script (5 : Int)) >>= fun x199 => M.ok (x199 % (9 : Int))) >>= fun x200 => M.ok (decide (x200 = (4 : Int)))) >>= fun odd_201 => ((M.ok count_159) >>= fun asked_202 => ((bAnd (M.ok odd_201) ((((m__law_cell p_script (5 : Int)) >>= fun x203 => M.ok (x203 / (9 : Int))) >>= fun x204 => M.ok (x204 % (3 : Int))) >>= fun x205 => M.ok (decide (x205 = (0 : Int))))) >>= fun c234 => (if c234 then (((((m__law_cell p_script (5 : Int)) >>= fun x207 => M.ok (x207 / (27 : Int))) >>= fun x208 => M.ok (x208 % (3 : Int))) >>= fun x209 => getI ((⟨[(0 : Int), (-(1 : Int)), (size_155 + (1 : Int))]⟩ : (Tup Int))).l x209) >>= fun asked_210 => (M.ok (s179, asked_210))) else ((bAnd (M.ok odd_201) ((((m__law_cell p_script (5 : Int)) >>= fun x211 => M.ok (x211 / (9 : Int))) >>= fun x212 => M.ok (x212 % (3 : Int))) >>= fun x213 => M.ok (decide (x213 = (1 : Int))))) >>= fun c224 => if c224 then ((((((m__law_cell p_script (5 : Int)) >>= fun x214 => M.ok (x214 / (27 : Int))) >>= fun x215 => M.ok (x215 % (3 : Int))) >>= fun x216 => getI ((⟨[(16 : Int), (-(1 : Int)), (99 : Int)]⟩ : (Tup Int))).l x216) >>= fun x217 => M.ok (some x217 : (Option Int))) >>= fun x220 => ((m__law_cell p_script (4 : Int)) >>= fun x218 => chk (0 < size_155) >>= fun _ => M.ok (x218 % size_155)) >>= fun x221 => setL s179 x221 x220 >>= fun received_219 => (M.ok (received_219, asked_202))) else (if odd_201 then (((repM ([(none : (Option Int))] : List (Option Int)) ((17 : Int) - size_155)) >>= fun x222 => catM s179 x222) >>= fun received_223 => (M.ok (received_223, asked_202))) else (M.ok (s179, asked_202)))) : (M ((List (Option Int)) × Int))) >>= (fun s206 : (List (Option Int)) × Int => ((M.ok s206.1) >>= fun copy_225 => (tryM k_tab "ArchiveError" (((m_restored copy_225 s206.2) >>= fun actual_227 => (M.ok (Jn.go actual_227 : (Jn ((Option (List Int))) Bool)))) : M (Jn ((Option (List Int))) Bool)) (fun e228 : Exn => nox (chk (e228.fs.isEmpty = true) >>= fun _ => (((bAnd (isE k_tab e228 "InvalidSymbol") (M.ok (odd_201 && (decide (copy_225 = s206.1))))) >>= fun r => M.ok (Jn.out r : (Jn ((Option (List Int))) Bool))) : M (Jn ((Option (List Int))) Bool)))) >>= fun j => j.on (fun s226 : (Option (List Int)) => (if (odd_201 || (!decide (copy_225 = s206.1))) then (M.ok false) else (if (decide ((points_196.length : Int) < count_159)) then (M.ok ((s226).isNone)) else ((bAnd (((M.ok s226) >>= unO) >>= fun x229 => m__law_is_list x229 (0 : Int) (15 : Int)) ((((chk (rOk size_155) >>= fun _ => M.ok (rng 0 size_155)) >>= fun x231 => lcM (fun (a230 : Int) => M.ok true) (fun (a230 : Int) => (m__law_at points_196 values_198 a230)) x231) >>= fun x232 => M.ok (some x232 : (Option (List Int)))) >>= fun x233 => M.ok (decide (s226 = x233)))) >>= fun r => M.ok r)))))))))))))))) (fun s173 : (List (Option Int)) => [sI (p_script : (List Int)), sI (size_155 : Int), sI (count_159 : Int), sI (codeword_162 : (List Int)), sI (s168 : Int), sO (s173 : List (Option Int)), .any, .any, .any, .any, .any, .any, .any, .any, .any]) received_171 (passes_of rfl) rfl (VI.congr (vi_list ((vo_call (G__law_picks T) (hr.mono (show 2 ≤ 3 by decide)) T.d__law_picks.g T.d__law_picks.F.kp T.d__law_picks.b (va_cons (ve_call (G__law_cell T) (hr.mono (show 1 ≤ 3 by decide)) T.d__law_cell.g T.d__law_cell.F.kp T.d__law_cell.b (va_cons (ve_var (a := p_script) 0) (va_cons ve_int va_nil))) (va_cons (ve_var (a := s168) 4) (va_cons (ve_var (a := size_155) 1) va_nil))))).ve1) ((by simp only [M.bind_assoc, M.ok_bind]) : _ = ((m__law_cell p_script (3 : Int)) >>= fun x172 => m__law_picks x172 s168 size_155))) (vg_name (α := Int) (n := 15) 6 (sc_law_second_part).nd) (fun s173 a174 => (vs_setI (l := s173) (k := fun received_175 : List (Option Int) => (M.ok received_175)) 5 (VX.congr (VX.none_ (ve_non)) ((by simp only [M.bind_assoc, M.ok_bind]) : _ = (M.ok (none : (Option Int))))) (VX.congr (ve_var (a := a174) 6) ((by simp only [M.bind_assoc, M.ok_bind]) : _ = (M.ok a174))) (fun received_175 => (vs_nil (t := received_175) (by exact (.eq (.eq (.eq (.eq (.eq (.eq (.any (.any (.any (.any (.any (.any (.any (.any (.any .nil)))))))))))))))))) (sub_anys _))) (fun s173 => (vs_ifj (fun s179 : (List (Option Int)) => [sI (p_script : (List Int)), sI (size_155 : Int), sI (count_159 : Int), sI (codeword_162 : (List Int)), sI (s168 : Int), sO (s179 : List (Option Int)), .any, .any, .any, .any, .any, .any, .any, .any, .any]) (VT.congr (vt_eq (ve_modK (ve_divK (ve_call (G__law_cell T) (hr.mono (show 1 ≤ 3 by decide)) T.d__law_cell.g T.d__law_cell.F.kp T.d__law_cell.b (va_cons (ve_var (a := p_script) 0) (va_cons ve_int va_nil))) ve_int) ve_int) ve_int) (by simp only [M.bind_assoc, M.ok_bind])) (vs_set 6 (sc_law_second_part).nd (VX.congr (ve_mod (ve_call (G__law_cell T) (hr.mono (show 1 ≤ 3 by decide)) T.d__law_cell.g T.d__law_cell.F.kp T.d__law_cell.b (va_cons (ve_var (a := p_script) 0) (va_cons ve_int va_nil))) (ve_var (a := size_155) 1)) (by simp only [M.bind_assoc, M.ok_bind])) (fun place_181 => (vs_ifl (VT.congr (vt_isNN (ve_idx (vb_own (l := s173) 5) (ve_var (a := place_181) 6))) (by simp only [M.bind_assoc, M.ok_bind])) (vs_setI (l := s173) (k := fun received_189 : List (Option Int) => (M.ok received_189)) 5 (VX.congr (VX.some ((ve_binI op_xor (VX.unO ((ve_idx (vb_own (l := s173) 5) (ve_var (a := place_181) 6)))) (ve_binI op_add ve_int (ve_modK (ve_divK (ve_call (G__law_cell T) (hr.mono (show 1 ≤ 3 by decide)) T.d__law_cell.g T.d__law_cell.F.kp T.d__law_cell.b (va_cons (ve_var (a := p_script) 0) (va_cons ve_int va_nil))) ve_int) ve_int))))) ((by simp only [M.bind_assoc, M.ok_bind]) : _ = ((((getI s173 place_181) >>= unO) >>= fun x186 => ((((m__law_cell p_script (4 : Int)) >>= fun x183 => M.ok (x183 / (16 : Int))) >>= fun x184 => M.ok (x184 % (15 : Int))) >>= fun x185 => M.ok ((1 : Int) + x185)) >>= fun x187 => M.ok (Builtin.bitXor x186 x187)) >>= fun x188 => M.ok (some x188 : (Option Int))))) (VX.congr (ve_var (a := place_181) 6) ((by simp only [M.bind_assoc, M.ok_bind]) : _ = (M.ok place_181))) (fun received_189 => (vs_nil (t := received_189) (by exact (.eq (.eq (.eq (.eq (.eq (.eq (.any (.any (.any (.any (.any (.any (.any (.any (.any .nil)))))))))))))))))) (sub_anys _)) (vs_nil (t := s173) (by exact (.eq (.eq (.eq (.eq (.eq (.eq (.any (.any (.any (.any (.any (.any (.any (.any (.any .nil))))))))))))))))) (sub_anys _))) (sub_anys _)) (vs_nil (t := s173) (by exact (.eq (.eq (.eq (.eq (.eq (.eq (.any (.any (.any (.any (.any (.any (.any (.any (.any .nil))))))))))))))))) (fun s179 => (vs_set 7 (sc_law_second_part).nd (VX.congr ((vo_sl ((vo_lc [("k", 14)] rfl (sc_law_second_part).nd (vi_range1 T.b_range (ve_var (a := size_155) 1)) (blkOk_by (N := N_law_second_part) (sc := defScope s__law_second_part) (by decide +kernel)) (fun _ _ _ _ _ => (vg_name (α := Int) (n := 15) 14 (sc_law_second_part).nd)) (fun (a192 : Int) _ _ _ _ _ => ((vk_one (VT.congr (vt_isNN (ve_idx (vb_own (l := s179) 5) (ve_var (a := a192) 14))) (by simp only [M.bind_assoc, M.ok_bind]))) : VK _ _ _ ((getI s179 a192) >>= fun x193 => M.ok ((x193).isSome)))) (fun (a192 : Int) _ _ _ _ _ => (VX.congr (ve_var (a := a192) 14) (by simp only [M.bind_assoc, M.ok_bind]) : VE _ _ _ (M.ok a192))))).ve1 vp_none (vp_some (ve_var (a := count_159) 2)))).ve1 (by simp only [M.bind_assoc, M.ok_bind])) (fun points_196 => (vs_set 8 (sc_law_second_part).nd (VX.congr ((vo_lc [("k", 14)] rfl (sc_law_second_part).nd (vi_list (ve_var (a := points_196) 7)) (blkOk_by (N := N_law_second_part) (sc := defScope s__law_second_part) (by decide +kernel)) (fun _ _ _ _ _ => (vg_name (α := Int) (n := 15) 14 (sc_law_second_part).nd)) (fun (a197 : Int) _ _ _ _ _ => (vk_nil : VK _ _ _ (M.ok true))) (fun (a197 : Int) _ _ _ _ _ => (VX.congr ((VX.unO ((ve_idx (vb_own (l := s179) 5) (ve_var (a := a197) 14))))).atm (by simp only [M.bind_assoc, M.ok_bind]) : VE _ _ _ ((getI s179 a197) >>= unO))))).ve1 (by simp only [M.bind_assoc, M.ok_bind])) (fun values_198 => (vs_set 9 (sc_law_second_part).nd (VX.congr (ve_eq (ve_modK (ve_call (G__law_cell T) (hr.mono (show 1 ≤ 3 by decide)) T.d__law_cell.g T.d__law_cell.F.kp T.d__law_cell.b (va_cons (ve_var (a := p_script) 0) (va_cons ve_int va_nil))) ve_int) ve_int) (by simp only [M.bind_assoc, M.ok_bind])) (fun odd_201 => (vs_set 10 (sc_law_second_part).nd (VX.congr (ve_var (a := count_159) 2) (by simp only [M.bind_assoc, M.ok_bind])) (fun asked_202 => (vs_ifj (fun s206 : (List (Option Int)) × Int => [sI (p_script : (List Int)), sI (size_155 : Int), sI (count_159 : Int), sI (codeword_162 : (List Int)), sI (s168 : Int), sI (s206.1 : (List (Option Int))), .any, sI (points_196 : (List Int)), sI (values_198 : (List Int)), sI (odd_201 : Bool), sI (s206.2 : Int), .any, .any, .any, .any]) (VT.congr ((vw_and (vt_val (ve_var (a := odd_201) 9)) (vw_and1 (vt_eq (ve_modK (ve_divK (ve_call (G__law_cell T) (hr.mono (show 1 ≤ 3 by decide)) T.d__law_cell.g T.d__law_cell.F.kp T.d__law_cell.b (va_cons (ve_var (a := p_script) 0) (va_cons ve_int va_nil))) ve_int) ve_int) ve_int)))).vt (by simp only [M.bind_assoc, M.ok_bind])) (vs_set 10 (sc_law_second_part).nd (VX.congr (ve_idxT (ve_tup (fun x : Int × Int × Int × Unit => (⟨[x.1, x.2.1, x.2.2.1]⟩ : (Tup Int))) (va_cons ve_int (va_cons (ve_neg ve_int) (va_cons (ve_binI op_add (ve_var (a := size_155) 1) ve_int) va_nil)))) (ve_modK (ve_divK (ve_call (G__law_cell T) (hr.mono (show 1 ≤ 3 by decide)) T.d__law_cell.g T.d__law_cell.F.kp T.d__law_cell.b (va_cons (ve_var (a := p_script) 0) (va_cons ve_int va_nil))) ve_int) ve_int)) (by simp only [M.bind_assoc, M.ok_bind])) (fun asked_210 => (vs_freeze1 (l := s179) 5 (vs_nil (t := (s179, asked_210)) (by exact (.eq (.eq (.eq (.eq (.eq (.eq (.any (.eq (.eq (.eq (.eq (.any (.any (.any (.any .nil))))))))))))))))))) (sub_anys _)) (vs_ifl (VT.congr ((vw_and (vt_val (ve_var (a := odd_201) 9)) (vw_and1 (vt_eq (ve_modK (ve_divK (ve_call (G__law_cell T) (hr.mono (show 1 ≤ 3 by decide)) T.d__law_cell.g T.d__law_cell.F.kp T.d__law_cell.b (va_cons (ve_var (a := p_script) 0) (va_cons ve_int va_nil))) ve_int) ve_int) ve_int)))).vt (by simp only [M.bind_assoc, M.ok_bind])) (vs_setI (l := s179) (k := fun received_219 : List (Option Int) => (M.ok (received_219, asked_202))) 5 (VX.congr (VX.some ((ve_idxT (ve_tup (fun x : Int × Int × Int × Unit => (⟨[x.1, x.2.1, x.2.2.1]⟩ : (Tup Int))) (va_cons ve_int (va_cons (ve_neg ve_int) (va_cons ve_int va_nil)))) (ve_modK (ve_divK (ve_call (G__law_cell T) (hr.mono (show 1 ≤ 3 by decide)) T.d__law_cell.g T.d__law_cell.F.kp T.d__law_cell.b (va_cons (ve_var (a := p_script) 0) (va_cons ve_int va_nil))) ve_int) ve_int)))) ((by simp only [M.bind_assoc, M.ok_bind]) : _ = (((((m__law_cell p_script (5 : Int)) >>= fun x214 => M.ok (x214 / (27 : Int))) >>= fun x215 => M.ok (x215 % (3 : Int))) >>= fun x216 => getI ((⟨[(16 : Int), (-(1 : Int)), (99 : Int)]⟩ : (Tup Int))).l x216) >>= fun x217 => M.ok (some x217 : (Option Int))))) (VX.congr (ve_mod (ve_call (G__law_cell T) (hr.mono (show 1 ≤ 3 by decide)) T.d__law_cell.g T.d__law_cell.F.kp T.d__law_cell.b (va_cons (ve_var (a := p_script) 0) (va_cons ve_int va_nil))) (ve_var (a := size_155) 1)) ((by simp only [M.bind_assoc, M.ok_bind]) : _ = ((m__law_cell p_script (4 : Int)) >>= fun x218 => chk (0 < size_155) >>= fun _ => M.ok (x218 % size_155)))) (fun received_219 => (vs_freeze1 (l := received_219) 5 (vs_nil (t := (received_219, asked_202)) (by exact (.eq (.eq (.eq (.eq (.eq (.eq (.any (.eq (.eq (.eq (.eq (.any (.any (.any (.any .nil))))))))))))))))))) (sub_anys _)) (vs_freeze1 (l := s179) 5 (vs_iflp (x := odd_201) (VT.congr (vt_val (ve_var (a := odd_201) 9)) (by simp only [M.bind_assoc, M.ok_bind])) (vs_set 5 (sc_law_second_part).nd (VX.congr ((vo_cat (ve_var (a := s179) 5) ((vo_rep ((vo_lst (fun x : (Option Int) × Unit => ([x.1] : List (Option Int))) (va_cons (VX.none_ (ve_non)) va_nil))).ve1 (ve_binI op_sub ve_int (ve_var (a := size_155) 1)))).ve1)).ve1 (by simp only [M.bind_assoc, M.ok_bind])) (fun received_223 => (vs_nil (t := (received_223, asked_202)) (by exact (.eq (.eq (.eq (.eq (.eq (.eq (.any (.eq (.eq (.eq (.eq (.any (.any (.any (.any .nil)))))))))))))))))) (sub_anys _)) (vs_nil (t := (s179, asked_202)) (by exact (.eq (.eq (.eq (.eq (.eq (.eq (.any (.eq (.eq (.eq (.eq (.any (.any (.any (.any .nil))))))))))))))))) (sub_anys _))) (sub_anys _)) (fun s206 => (vs_set 11 (sc_law_second_part).nd (VX.congr ((vo_list T.b_list (ve_var (a := s206.1) 5))).ve1 (by simp only [M.bind_assoc, M.ok_bind])) (fun copy_225 => (vs_tryT (mb := ((m_restored copy_225 s206.2) >>= fun actual_227 => (M.ok (Jn.go actual_227 : (Jn ((Option (List Int))) Bool))))) (mh := fun e228 : Exn => ((bAnd (isE k_tab e228 "InvalidSymbol") (M.ok (odd_201 && (decide (copy_225 = s206.1))))) >>= fun r => M.ok (Jn.out r : (Jn ((Option (List Int))) Bool)))) (kk := (fun s226 : (Option (List Int)) => (if (odd_201 || (!decide (copy_225 = s206.1))) then (M.ok false) else (if (decide ((points_196.length : Int) < count_159)) then (M.ok ((s226).isNone)) else ((bAnd (((M.ok s226) >>= unO) >>= fun x229 => m__law_is_list x229 (0 : Int) (15 : Int)) ((((chk (rOk size_155) >>= fun _ => M.ok (rng 0 size_155)) >>= fun x231 => lcM (fun (a230 : Int) => M.ok true) (fun (a230 : Int) => (m__law_at points_196 values_198 a230)) x231) >>= fun x232 => M.ok (some x232 : (Option (List Int)))) >>= fun x233 => M.ok (decide (s226 = x233)))) >>= fun r => M.ok r))))) (fun s226 : (Option (List Int)) => [sI (p_script : (List Int)), sI (size_155 : Int), sI (count_159 : Int), sI (codeword_162 : (List Int)), sI (s168 : Int), sI (s206.1 : (List (Option Int))), .any, sI (points_196 : (List Int)), sI (values_198 : (List Int)), sI (odd_201 : Bool), sI (s206.2 : Int), sI (copy_225 : (List (Option Int))), .any, sI (s226 : (Option (List Int))), .any]) 12 k_tab [sI (p_script : (List Int)), sI (size_155 : Int), sI (count_159 : Int), sI (codeword_162 : (List Int)), sI (s168 : Int), sI (s206.1 : (List (Option Int))), .any, sI (points_196 : (List Int)), sI (values_198 : (List Int)), sI (odd_201 : Bool), sI (s206.2 : Int), sI (copy_225 : (List (Option Int))), .any, .any, .any] rfl rfl (sc_law_second_part).nd T.n_ArchiveError (fun pn xe po => (vs_set 13 (sc_law_second_part).nd (VX.congr (ve_call (G_restored T) hr T.d_restored.g T.d_restored.F.kp T.d_restored.b (va_cons (ve_var (a := copy_225) 11) (va_cons (ve_var (a := s206.2) 10) va_nil))) (by simp only [M.bind_assoc, M.ok_bind])) (fun actual_227 => (vs_nil (t := (Jn.go actual_227 : (Jn ((Option (List Int))) Bool))) (by exact ⟨_, rfl, (.eq (.eq (.eq (.eq (.eq (.eq (.any (.eq (.eq (.eq (.eq (.eq (.any (.eq (.any .nil)))))))))))))))⟩))) (.eq (.eq (.eq (.eq (.eq (.eq (.any (.eq (.eq (.eq (.eq (.eq (.any (.any (.any .nil))))))))))))))))) (fun e228 hfs a oe cls pn hz hfl hmc => (vs_ret (f := fun r => (Jn.out r : (Jn ((Option (List Int))) Bool))) (VX.congr (ve_and (ve_isEo 12 hz hfl hmc T.i_InvalidSymbol T.b_isinstance) (ve_and_p (ve_var (a := odd_201) 9) (ve_one (ve_eqD (by exact hr.units) (ve_var (a := copy_225) 11) (ve_var (a := s206.1) 5))))) (by simp only [M.bind_assoc, M.ok_bind])) (fun r => by exact ⟨_, rfl, rfl⟩) (sub_anys _))) (fun s226 => (vs_ifxp (x := (odd_201 || (!decide (copy_225 = s206.1)))) (VT.congr ((vw_or_p (vt_val (ve_var (a := odd_201) 9)) (vw_or1 (vt_neD (by exact hr.units) (ve_var (a := copy_225) 11) (ve_var (a := s206.1) 5))))).vt (by simp only [M.bind_assoc, M.ok_bind])) (vs_retp (x := false) (t := false) (VX.congr ve_bl (by simp only [M.bind_assoc, M.ok_bind])) (by exact rfl) (sub_anys _)) (vs_ifxp (x := (decide ((points_196.length : Int) < count_159))) (VT.congr (vt_cmpI op_lt (ve_len T.b_len (ve_var (a := points_196) 7)) (ve_var (a := count_159) 2) (nomark _)) (by simp only [M.bind_assoc, M.ok_bind])) (vs_retp (x := (s226).isNone) (t := (s226).isNone) (VX.congr (ve_isN (ve_var (a := s226) 13)) (by simp only [M.bind_assoc, M.ok_bind])) (by exact rfl) (sub_anys _)) (vs_ret (f := fun r => r) (VX.congr (ve_and (ve_call (G__law_is_list T) (hr.mono (show 2 ≤ 3 by decide)) T.d__law_is_list.g T.d__law_is_list.F.kp T.d__law_is_list.b (va_cons (VX.unO ((ve_var (a := s226) 13))) (va_cons ve_int (va_cons ve_int va_nil)))) (ve_one (ve_eqD (by exact hr.units) (ve_var (a := s226) 13) (VX.some (((vo_lc [("k", 14)] rfl (sc_law_second_part).nd (vi_range1 T.b_range (ve_var (a := size_155) 1)) (blkOk_by (N := N_law_second_part) (sc := defScope s__law_second_part) (by decide +kernel)) (fun _ _ _ _ _ => (vg_name (α := Int) (n := 15) 14 (sc_law_second_part).nd)) (fun (a230 : Int) _ _ _ _ _ => (vk_nil : VK _ _ _ (M.ok true))) (fun (a230 : Int) _ _ _ _ _ => (VX.congr (ve_call (G__law_at T) (hr.mono (show 2 ≤ 3 by decide)) T.d__law_at.g T.d__law_at.F.kp T.d__law_at.b (va_cons (ve_var (a := points_196) 7) (va_cons (ve_var (a := values_198) 8) (va_cons (ve_var (a := a230) 14) va_nil)))) (by simp only [M.bind_assoc, M.ok_bind]) : VE _ _ _ (m__law_at points_196 values_198 a230))))).ve1))))) (by simp only [M.bind_assoc, M.ok_bind])) (fun r => by exact rfl) (sub_anys _)) (sub_anys _)) (sub_anys _))) (sub_anys _))) (sub_anys _))) (sub_anys _))) (sub_anys _))) (sub_anys _))) (sub_anys _))) (sub_anys _))) (sub_anys _))) (by exact (.eq (.eq (.eq (.eq (.eq (.eq (.any (.any (.any (.any (.any (.any (.any (.any (.any .nil)))))))))))))))) (sub_anys _))) (sub_anys _))) (sub_anys _))) (sub_anys _))) (sub_anys _))) (sub_anys _))) (sub_anys _))
theorem G_law (T : Txt K mg a d) : FnOk P w K mg base (L2N.CX P w) 5 (a 18) (d 18) ["script"] (spF K mg ((eCons eNil) : (List Int) × Unit → List D) (fun r : Bool => O.imm (enc r)) (fun x : (List Int) × Unit => m_law x.1)) := by
  refine fn_ok T.d_law.F sclaw (fun _ => rfl) fun cdv Ar outer s H E hr X hX x => ?_
  subst hX
  obtain ⟨p_script, _⟩ := x
  show VS _ _ _ _ _ (m_law p_script)
  unfold m_law
  exact (vs_ret (f := fun r => r) (VX.congr (ve_and (ve_call (G__law_first_part T) hr T.d__law_first_part.g T.d__law_first_part.F.kp T.d__law_first_part.b (va_cons (ve_var (a := p_script) 0) va_nil)) (ve_one (ve_call (G__law_second_part T) hr T.d__law_second_part.g T.d__law_second_part.F.kp T.d__law_second_part.b (va_cons (ve_var (a := p_script) 0) va_nil)))) (by simp only [M.bind_assoc, M.ok_bind])) (fun r => by exact rfl) (sub_anys _))
end
end Q

set_option Elab.async false
set_option linter.all false
set_option maxRecDepth 100000
namespace Q
open PySem PySem.Spec PyProof.Rows L2 Vc Vc.Gf
theorem tab_g : ∀ a b : F, okO (getI k_PRODUCTS.l (g a) >>= fun x => getI x.l (g b)) = some (g (fm a b)) := by decide +kernel
theorem inv_g : ∀ a : F, okO (getI k_INVERSES.l (g a)) = some (g (fi a)) := by decide +kernel
def prow (a : F) : Tup Int := k_PRODUCTS.l.getD a.val ⟨[]⟩
theorem prow_ok (a : F) : getI k_PRODUCTS.l (g a) = .ok (prow a) := by
  unfold g prow
  rw [getI_lt (show a.val < k_PRODUCTS.l.length from a.isLt), List.getD_eq_getElem?_getD, List.getElem?_eq_getElem (show a.val < k_PRODUCTS.l.length from a.isLt)]
  rfl
theorem pget_g : ∀ a b : F, okO (getI (prow a).l (g b)) = some (g (fm a b)) := by decide +kernel
theorem pget_ok (a b : F) : getI (prow a).l (g b) = .ok (g (fm a b)) := of_okO (pget_g a b)
theorem tab_ok (a b : F) : (getI k_PRODUCTS.l (g a) >>= fun x => getI x.l (g b)) = .ok (g (fm a b)) := of_okO (tab_g a b)
theorem invt_ok (a : F) : getI k_INVERSES.l (g a) = .ok (g (fi a)) := of_okO (inv_g a)
theorem times_g : ∀ a b : F, okO (m__law_times (g a) (g b)) = some (g (fm a b)) := by decide +kernel
theorem times_ok (a b : F) : m__law_times (g a) (g b) = .ok (g (fm a b)) := of_okO (times_g a b)
theorem linv_g : ∀ a : F, okO (m__law_inverse (g a)) = some (g (fi a)) := by decide +kernel
theorem linv_ok (a : F) : m__law_inverse (g a) = .ok (g (fi a)) := of_okO (linv_g a)
/-! ### the program: Newton -/
theorem diff_ok {n : Nat} {X Y : Nat → F} (hd : Dist X n) (hn : n ≤ 16) : m__differences (pt n X Y) = .ok (fl n (dd X Y)) := by
  unfold m__differences
  rw [lcM_map (h := fun a : Int × Int => a.2) (by rw [pt_len]; omega) fun _ _ => rfl, M.ok_bind, pt_len, chk_ok ⟨rOk_nat (n := 1) (by omega), rOk_nat (by omega)⟩, M.ok_bind, M.ok_bind, rng1]
  rw [show (pt n X Y).map (fun a : Int × Int => a.2) = fl n (ddT X Y 0) by
    unfold pt fl; rw [List.map_map]; apply List.map_congr_left; intro a _; show g (Y a) = _; rw [ddT_zero]]
  rw [loopS_inv' (fun i (r : List Int) => r = fl n (ddT X Y i)) (s := fl n (ddT X Y 0)) (T := fl n (dd X Y)) rfl ?step ?fin, M.ok_bind]
  case fin =>
    intro s hs
    rw [hs, List.length_map, List.length_range]
    apply fl_congr
    intro i hi
    exact ddT_end (by omega)
  case step =>
    rintro i hi _ rfl
    rw [List.length_map, List.length_range] at hi
    simp only [List.getElem_map, List.getElem_range]
    rw [chk_ok ⟨by constructor <;> omega, by constructor <;> omega⟩, M.ok_bind, M.ok_bind, rngD_to (by omega)]
    refine ⟨_, ?_, rfl⟩
    rw [loopS_inv' (fun k (r : List Int) => r = fl n (fun a => if n - k ≤ a then ddT X Y (i + 1) a else ddT X Y i a)) (T := fl n (ddT X Y (i + 1))) ?init ?step2 ?fin2, M.ok_bind]
    case init => exact fl_congr fun a ha => by rw [if_neg (by omega)]
    case fin2 =>
      intro s hs
      rw [hs, List.length_map, List.length_range]
      apply fl_congr
      intro a ha
      split
      · rfl
      · exact (ddT_low (by omega)).symm
    case step2 =>
      rintro k hk _ rfl
      rw [List.length_map, List.length_range] at hk
      simp only [List.getElem_map, List.getElem_range]
      have e1 : ((n - 1 - k : Nat) : Int) - ((i + 1 : Nat) : Int) = ((n - 1 - k - (i + 1) : Nat) : Int) := by omega
      have e2 : ((n - 1 - k : Nat) : Int) - 1 = ((n - 1 - k - 1 : Nat) : Int) := by omega
      rw [e1, e2, pt_get _ _ (by omega), pt_get _ _ (by omega)]
      simp only [M.ok_bind]
      rw [xor_g, invt_ok, M.ok_bind, fl_get _ (by omega), fl_get _ (by omega)]
      simp only [M.ok_bind]
      simp only [xor_g, prow_ok, pget_ok, M.ok_bind]
      rw [fl_set _ _ (by omega), M.ok_bind]
      refine ⟨_, rfl, fl_congr fun a ha => ?_⟩
      have h1 : (if n - k ≤ n - 1 - k then ddT X Y (i + 1) (n - 1 - k) else ddT X Y i (n - 1 - k)) = ddT X Y i (n - 1 - k) := if_neg (by omega)
      have h2 : (if n - k ≤ n - 1 - k - 1 then ddT X Y (i + 1) (n - 1 - k - 1) else ddT X Y i (n - 1 - k - 1)) = ddT X Y i (n - 1 - k - 1) := if_neg (by omega)
      rw [h1, h2]
      by_cases e : a = n - 1 - k
      · subst e
        rw [if_pos rfl, if_pos (by omega), ddT_step hd (by omega) (by omega)]
      · rw [if_neg e]
        by_cases h : n - k ≤ a
        · rw [if_pos h, if_pos (by omega)]
        · rw [if_neg h, if_neg (by omega)]
theorem cont_ok {n : Nat} {X Y : Nat → F} (hd : Dist X n) (hn : n ≤ 16) (ps : P) (hp : ps.length < 1000) : m__continued (pt n X Y) (gl ps) = .ok (gl (ps.map fun t => lg X Y t n)) := by
  unfold m__continued
  rw [diff_ok hd hn, M.ok_bind, M.ok_bind]
  rw [loopS_inv' (fun i (r : List Int) => r = gl ((ps.take i).map fun t => lg X Y t n)) (T := gl (ps.map fun t => lg X Y t n)) (by rw [List.take_zero]; rfl) ?step ?fin, M.ok_bind]
  case fin => intro s hs; rw [hs, gl_len, List.take_length]
  case step =>
    rintro i hi _ rfl
    rw [gl_len] at hi
    rw [gl_at, M.ok_bind, pt_len, chk_ok ⟨by constructor <;> omega, by decide⟩, M.ok_bind, M.ok_bind, rngD_nat]
    generalize hT : ps[i] = t
    rw [loopS_inv' (fun k (v : Int) => v = g (nw (fun j => X (n - k + j)) (fun j => dd X Y (n - k + j)) t k)) (s := (0 : Int)) (T := g (lg X Y t n)) rfl ?step2 ?fin2, M.ok_bind]
    case fin2 =>
      intro s hs
      rw [hs, List.length_map, List.length_range, lg_nw hd, Nat.sub_self]
      congr 2 <;> (funext j; rw [Nat.zero_add])
    case step2 =>
      rintro k hk _ rfl
      rw [List.length_map, List.length_range] at hk
      simp only [List.getElem_map, List.getElem_range]
      rw [pt_get _ _ (by omega), fl_get _ (by omega)]
      simp only [M.ok_bind]
      simp only [xor_g, prow_ok, pget_ok, M.ok_bind]
      rw [nw_shift hk]
      exact ⟨_, rfl, rfl⟩
    rw [chk_ok (show _ < sizeLine by have : sizeLine = 2 ^ 24 := rfl; rw [gl_len, List.length_map, List.length_take]; omega), M.ok_bind]
    refine ⟨_, rfl, ?_⟩
    rw [gl_one, gl_append, List.take_succ_eq_append_getElem (by omega), List.map_append, hT]
    rfl
/-! ### the law: Lagrange -/
theorem lat_ok {n : Nat} {X Y : Nat → F} (hn : n ≤ 16) (t : F) : m__law_at (fl n X) (fl n Y) (g t) = .ok (g (lg X Y t n)) := by
  unfold m__law_at
  rw [M.ok_bind, fl_len, chk_ok (rOk_nat (by omega)), M.ok_bind, M.ok_bind, rng_nat]
  rw [loopS_inv' (fun i (v : Int) => v = g (xs i (lgt X Y t n))) (s := (0 : Int)) (T := g (lg X Y t n)) rfl ?step ?fin, M.ok_bind]
  case fin => intro s hs; rw [hs, List.length_map, List.length_range]; rfl
  case step =>
    rintro i hi _ rfl
    rw [List.length_map, List.length_range] at hi
    simp only [List.getElem_map, List.getElem_range]
    rw [fl_get _ hi]
    simp only [M.ok_bind]
    rw [loopS_inv' (fun k (v : Int) => v = g (fm (Y i) (prx k i fun j => fm (fa t (X j)) (fi (fa (X i) (X j)))))) (T := g (lgt X Y t n i)) (by show g _ = g (fm _ 1); rw [fm_one]) ?step2 ?fin2, M.ok_bind]
    case fin2 => intro s hs; rw [hs, List.length_map, List.length_range]; rfl
    case step2 =>
      rintro k hk _ rfl
      rw [List.length_map, List.length_range] at hk
      simp only [List.getElem_map, List.getElem_range]
      by_cases e : k = i
      · subst e
        rw [decide_eq_true rfl, if_neg (by decide)]
        refine ⟨_, rfl, ?_⟩
        rw [prx_last]
        congr 2
        exact pr_congr fun j hj => by dsimp only; rw [if_neg (by omega)]
      · rw [decide_eq_false (by omega), if_pos (by decide), fl_get _ hk, fl_get _ hi]
        simp only [M.ok_bind]
        rw [xor_g, times_ok, M.ok_bind, xor_g, linv_ok, M.ok_bind, times_ok, M.ok_bind]
        refine ⟨_, rfl, ?_⟩
        unfold prx
        rw [pr_succ, if_neg e]
        dsimp only
        congr 1
        ac_rfl
    rw [xor_g]
    exact ⟨_, rfl, rfl⟩
end Q

set_option Elab.async false
set_option linter.all false
set_option maxRecDepth 100000
namespace Q
open PySem PySem.Spec PyProof.Rows L2 Vc Vc.Gf
theorem cell_ok (ns : List Int) (k : Nat) : m__law_cell ns (k : Int) = .ok (scell ns k) := by
  unfold m__law_cell scell
  by_cases h : k < ns.length
  · rw [if_pos (by simpa using h), getI_lt h, M.ok_bind, List.getD_eq_getElem?_getD, List.getElem?_eq_getElem h]
    rfl
  · rw [if_neg (by simpa using h), List.getD_eq_getElem?_getD, List.getElem?_eq_none (by omega)]
    rfl
theorem cell_lit (ns : List Int) (k : Nat) (z : Int) (h : z = (k : Int)) : m__law_cell ns z = .ok (scell ns k) := by rw [h, cell_ok]
theorem modk (z : Int) (k : Nat) (hk : 0 < k) : ∃ n : Nat, z % (k : Int) = (n : Int) ∧ n < k := by
  have h1 := Int.emod_nonneg z (show (k : Int) ≠ 0 by omega)
  have h2 := Int.emod_lt_of_pos z (show 0 < (k : Int) by omega)
  exact ⟨(z % (k : Int)).toNat, by omega, by omega⟩
theorem cdiv (z : Int) : CDiv z 16 := (by decide : CDiv 0 16)
theorem gl_app {β : Type} (p : P) (a : F) {z : β} : (gl p ++ [g a], z) = (gl (p ++ [a]), z) := by unfold gl; rw [List.map_append]; rfl
theorem row_ok (c : Int) (n : Nat) (hn : n < 1000) : ∃ p : P, m__law_row c (n : Int) 16 = .ok (gl p) ∧ p.length = n := by
  unfold m__law_row
  generalize (if c < 0 then -c else c) = ac
  rw [M.ok_bind, M.ok_bind, chk_ok (rOk_nat (by omega)), M.ok_bind, M.ok_bind, rng_nat]
  obtain ⟨_, e, p, z, rfl, h⟩ := loopS_inv (f := (fun (s80 : (List Int) × Int) (a81 : Int) => (if (decide (ac ≥ (1000000000000000000 : Int))) then ((chk (0 < (16 : Int)) >>= fun _ => M.ok (s80.2 % (16 : Int))) >>= fun x84 => chk (s80.1.length < sizeLine) >>= fun _ => (fun found_82 => ((chk (CDiv s80.2 (16 : Int)) >>= fun _ => M.ok (s80.2 / (16 : Int))) >>= fun rest_83 => (M.ok (found_82, rest_83)))) (s80.1 ++ [x84])) else (((m__law_mix c a81) >>= fun x85 => chk (0 < (16 : Int)) >>= fun _ => M.ok (x85 % (16 : Int))) >>= fun x87 => chk (s80.1.length < sizeLine) >>= fun _ => (fun found_86 => (M.ok (found_86, s80.2))) (s80.1 ++ [x87])))))
    (l := (List.range n).map fun i : Nat => (i : Int)) (s := ([], ac)) (fun i s => ∃ (p : P) (z : Int), s = (gl p, z) ∧ p.length = i) ⟨[], _, rfl, rfl⟩ (by
      rintro i hi _ ⟨p, z, rfl, h⟩
      have hi' : i < n := by rw [List.length_map, List.length_range] at hi; exact hi
      have hsz : (gl p).length < sizeLine := by have : sizeLine = 2 ^ 24 := rfl; rw [gl_len]; omega
      dsimp only
      split
      · obtain ⟨a, ha⟩ := mod_g z
        rw [chk_ok (by decide), M.ok_bind, M.ok_bind, chk_ok hsz, M.ok_bind, chk_ok (cdiv z), M.ok_bind, M.ok_bind, ha]
        exact ⟨_, rfl, p ++ [a], _, gl_app p a, by rw [List.length_append, h]; rfl⟩
      · unfold m__law_mix
        rw [M.ok_bind, M.ok_bind, M.ok_bind, chk_ok (by decide), M.ok_bind, M.ok_bind, chk_ok hsz, M.ok_bind]
        generalize (_ : Int) / 997 = y
        obtain ⟨a, ha⟩ := mod_g y
        rw [ha]
        exact ⟨_, rfl, p ++ [a], _, gl_app p a, by rw [List.length_append, h]; rfl⟩)
  rw [List.length_map, List.length_range] at h
  rw [e, M.ok_bind]
  exact ⟨p, rfl, h⟩
theorem islist_ok (p : P) : m__law_is_list (gl p) 0 15 = .ok true := by
  unfold m__law_is_list
  rw [if_neg (by decide), loopM_all (fun a ha => ?_), M.ok_bind]
  · rfl
  · obtain ⟨b, _, rfl⟩ := List.mem_map.mp ha
    have : ∀ b : F, (decide (g b < 0) || decide (g b > 15)) = false := by decide +kernel
    rw [show m__law_is_int (g b) = .ok true from rfl, M.ok_bind, this]
    rfl
theorem check_bad {l : List Int} (h : ∃ x ∈ l, x < 0 ∨ 16 ≤ x) : m_check_symbols l = .exc ⟨"InvalidSymbol", []⟩ := by
  unfold m_check_symbols
  induction l with
  | nil => obtain ⟨x, hx, _⟩ := h; cases hx
  | cons y l ih =>
    rw [loopS_cons]
    by_cases hy : y < 0 ∨ 16 ≤ y
    · rw [if_pos (by simpa using hy), M.exc_bind, M.exc_bind]
    · rw [if_neg (by simpa using hy), M.ok_bind]
      obtain ⟨x, hx, hb⟩ := h
      rcases List.mem_cons.mp hx with rfl | hx
      · exact absurd hb hy
      · exact ih ⟨x, hx, hb⟩
theorem check_ok (p : P) : m_check_symbols (gl p) = .ok () := by
  unfold m_check_symbols
  rw [loopS_fold (g := fun s _ => s) (gl p) () (by
    rintro _ a ha
    obtain ⟨b, _, rfl⟩ := List.mem_map.mp ha
    have : ∀ b : F, (decide (g b < 0) || decide (g b ≥ 16)) = false := by decide +kernel
    rw [this]; rfl), M.ok_bind]
/-- the codeword -/
def cwd (p : P) (n : Nat) : P := (List.range n).map fun i => lg nF (co p) (nF i) p.length
theorem cwd_len (p : P) (n : Nat) : (cwd p n).length = n := by unfold cwd; rw [List.length_map, List.length_range]
theorem cwd_get (p : P) (n : Nat) {i : Nat} (h : i < (cwd p n).length) : (cwd p n)[i] = lg nF (co p) (nF i) p.length := by
  simp only [cwd, List.getElem_map, List.getElem_range]
theorem pt_getElem (n : Nat) (X Y : Nat → F) {i : Nat} (h : i < (pt n X Y).length) : (pt n X Y)[i] = (g (X i), g (Y i)) := by
  simp only [pt, List.getElem_map, List.getElem_range]
theorem cwd_split {p : P} {n : Nat} (h : p.length ≤ n) (hn : n ≤ 16) : cwd p n = p ++ ((List.range (n - p.length)).map fun i => nF (p.length + i)).map fun t => lg nF (co p) t p.length := by
  apply List.ext_getElem
  · simp only [cwd_len, List.length_append, List.length_map, List.length_range]; omega
  · intro i h1 h2
    rw [cwd_get]
    rw [cwd_len] at h1
    by_cases hi : i < p.length
    · rw [List.getElem_append_left hi, lg_at (Dist_nF (by omega)) hi, co_lt hi]
    · rw [List.getElem_append_right (by omega)]
      simp only [List.getElem_map, List.getElem_range]
      rw [show p.length + (i - p.length) = i by omega]
theorem enumL_pt {p : P} (h : p.length ≤ 16) : enumL (gl p) = pt p.length nF (co p) := by
  apply List.ext_getElem
  · rw [enumL_len, gl_len, pt_len]
  · intro i h1 h2
    rw [enumL_at h1, pt_getElem]
    rw [pt_len] at h2
    rw [g_nF (by omega), gl_at, co_lt h2]
theorem encode_ok {p : P} {n : Nat} (h0 : p.length ≠ 0) (h : p.length ≤ n) (hn : n ≤ 16) : m_encode (gl p) (n : Int) = .ok (gl (cwd p n)) := by
  unfold m_encode
  rw [gl_len, if_neg (by simp only [Bool.or_eq_true, decide_eq_true_eq]; omega), check_ok, M.ok_bind, chk_ok ⟨by omega, by omega, by omega⟩]
  simp only [M.ok_bind]
  rw [enumL_pt (by omega), rng_gl hn, cont_ok (Dist_nF (by omega)) (by omega) _ (by rw [List.length_map, List.length_range]; omega), M.ok_bind]
  rw [catM_ok (by simp only [gl_len, List.length_map, List.length_range]; omega), M.ok_bind, gl_append, cwd_split h hn]
theorem lcw_ok {p : P} {n : Nat} (h : p.length ≤ n) (hn : n ≤ 16) : m__law_codeword (gl p) (n : Int) = .ok (gl (cwd p n)) := by
  unfold m__law_codeword
  rw [gl_len, chk_ok ⟨by omega, by omega, by omega⟩]
  simp only [M.ok_bind]
  rw [chk_ok ⟨rOk_nat (by omega), rOk_nat (by omega)⟩]
  simp only [M.ok_bind]
  rw [rng_gl hn, rng0_gl (by omega : p.length ≤ 16), ← fl_gl]
  rw [lcM_map (h := fun z => g (lg nF (co p) (Fin.ofNat 16 z.toNat) p.length)) (by simp only [gl_len, List.length_map, List.length_range]; omega) (by
    intro a ha
    obtain ⟨b, _, rfl⟩ := List.mem_map.mp ha
    rw [gl_fl p, lat_ok (by omega)]
    have : ∀ b : F, Fin.ofNat 16 (g b).toNat = b := by decide +kernel
    rw [this]), M.ok_bind]
  have e : (gl ((List.range (n - p.length)).map fun i => nF (p.length + i))).map (fun z => g (lg nF (co p) (Fin.ofNat 16 z.toNat) p.length)) = gl (((List.range (n - p.length)).map fun i => nF (p.length + i)).map fun t => lg nF (co p) t p.length) := by
    generalize (List.range (n - p.length)).map (fun i => nF (p.length + i)) = L
    unfold gl
    rw [List.map_map, List.map_map]
    apply List.map_congr_left
    intro b _
    have : ∀ b : F, Fin.ofNat 16 (g b).toNat = b := by decide +kernel
    show g (lg _ _ (Fin.ofNat 16 (g b).toNat) _) = _
    rw [this]; rfl
  rw [e, catM_ok (by simp only [gl_len, List.length_map, List.length_range]; omega), M.ok_bind, gl_append, cwd_split h hn]
theorem encode_exc {l : List Int} {n : Int} (h : ¬ (1 ≤ (l.length : Int) ∧ (l.length : Int) ≤ n ∧ n ≤ 16) ∨ ∃ x ∈ l, x < 0 ∨ 16 ≤ x) : m_encode l n = .exc ⟨"InvalidSymbol", []⟩ := by
  unfold m_encode
  by_cases hh : 1 ≤ (l.length : Int) ∧ (l.length : Int) ≤ n ∧ n ≤ 16
  · rw [if_neg (by simp only [Bool.or_eq_true, decide_eq_true_eq]; omega)]
    rcases h with h | h
    · exact absurd hh h
    · rw [check_bad h, M.exc_bind]
  · rw [if_pos (by simp only [Bool.or_eq_true, decide_eq_true_eq]; omega)]
/-- the two codewords agree in few places -/
theorem alike {p q : P} {n c : Nat} (hp : p.length = c) (hq : q.length = c) (hc : c ≤ n) (hn : n ≤ 16) (hne : p ≠ q) :
    (((cwd p n).zip (cwd q n)).filter fun a => decide (a.1 = a.2)).length < c := by
  apply Nat.lt_of_not_le
  intro hle
  apply hne
  obtain ⟨P1, l1, e1⟩ := lg_poly (X := nF) (Y := co p) (Dist_nF (n := c) (by omega))
  obtain ⟨P2, l2, e2⟩ := lg_poly (X := nF) (Y := co q) (Dist_nF (n := c) (by omega))
  -- the places where they agree
  have hz : (cwd p n).zip (cwd q n) = (List.range n).map fun i => (ev P1 (nF i), ev P2 (nF i)) := by
    unfold cwd
    rw [List.zip_map', hp, hq]
    apply List.map_congr_left
    intro i _
    rw [e1, e2]
  rw [hz, List.filter_map, List.length_map] at hle
  generalize hS : (List.range n).filter ((fun a : F × F => decide (a.1 = a.2)) ∘ fun i => (ev P1 (nF i), ev P2 (nF i))) = S at hle
  have hSn : ∀ i ∈ S, i < 16 ∧ ev P1 (nF i) = ev P2 (nF i) := by
    intro i hi
    rw [← hS, List.mem_filter, List.mem_range] at hi
    exact ⟨by omega, by simpa using hi.2⟩
  have hnd : (S.map nF).Nodup := by
    have h0 : S.Nodup := by rw [← hS]; exact List.Nodup.sublist List.filter_sublist List.nodup_range
    exact List.pairwise_map.mpr (h0.imp_of_mem fun ha hb hab z => hab (nF_inj (hSn _ ha).1 (hSn _ hb).1 z))
  have key : ∀ t, ev P1 t = ev P2 t := ev_unique (S.map nF) (by rw [List.length_map]; omega) (by rw [List.length_map]; omega) hnd fun s hs => by
    obtain ⟨i, hi, rfl⟩ := List.mem_map.mp hs
    exact (hSn i hi).2
  apply list_of (by omega)
  intro k
  by_cases hk : k < c
  · have := key (nF k)
    rw [e1, e2, lg_at (Dist_nF (by omega)) hk, lg_at (Dist_nF (by omega)) hk] at this
    exact this
  · rw [co_ge (by omega), co_ge (by omega)]
end Q

set_option Elab.async false
set_option linter.all false
set_option maxRecDepth 100000
namespace Q
open PySem PySem.Spec PyProof.Rows L2 Vc Vc.Gf
theorem isE_1 : isE k_tab ⟨"InvalidSymbol", []⟩ "ArchiveError" = .ok true := by rfl
theorem isE_2 : isE k_tab ⟨"InvalidSymbol", []⟩ "InvalidSymbol" = .ok true := by rfl
/-- an error that the law takes -/
theorem try_exc {α : Type} {m : M α} {h : Exn → M α} (e : m = .exc ⟨"InvalidSymbol", []⟩) : tryM k_tab "ArchiveError" m h = h ⟨"InvalidSymbol", []⟩ := by
  subst e
  show (isE k_tab ⟨"InvalidSymbol", []⟩ "ArchiveError" >>= fun b => if b then _ else _) = _
  rw [isE_1, M.ok_bind, if_pos rfl]
theorem good_loop (l : List Int) (b : Bool) : loopS (fun (s : Bool) (a : Int) => M.ok (s && (decide (0 ≤ a) && decide (a ≤ 15)))) l b = .ok (b && l.all fun a => decide (0 ≤ a) && decide (a ≤ 15)) := by
  induction l generalizing b with
  | nil => show M.ok b = _; rw [List.all_nil, Bool.and_true]
  | cons a l ih => rw [loopS_cons, M.ok_bind, ih, List.all_cons, Bool.and_assoc]
theorem gl_all (p : P) : ((gl p).all fun a => decide (0 ≤ a) && decide (a ≤ 15)) = true := by
  rw [List.all_eq_true]
  intro x hx
  obtain ⟨b, _, rfl⟩ := List.mem_map.mp hx
  have : ∀ b : F, (decide (0 ≤ g b) && decide (g b ≤ 15)) = true := by decide +kernel
  exact this b
theorem zip_gl (p q : P) : (gl p).zip (gl q) = (p.zip q).map fun a => (g a.1, g a.2) := by unfold gl; rw [List.zip_map]; rfl
theorem first_ok (ns : List Int) : m__law_first_part ns = .ok true := by
  unfold m__law_first_part
  have c0 := cell_lit ns 0 0 rfl; have c1 := cell_lit ns 1 1 rfl; have c2 := cell_lit ns 2 2 rfl; have c3 := cell_lit ns 3 3 rfl; have c4 := cell_lit ns 4 4 rfl
  simp only [c0, c1, c2, c3, c4, M.ok_bind]
  obtain ⟨c, hc, hc'⟩ := modk (scell ns 0) 18 (by decide)
  rw [show scell ns 0 % 18 = (c : Int) from hc]
  obtain ⟨p, hp, hpl⟩ := row_ok (scell ns 1) c (by omega)
  rw [hp, M.ok_bind]
  obtain ⟨size, hs⟩ : ∃ s : Int, (if decide (scell ns 2 / 5 % 5 = 1) = true then M.ok (scell ns 2 / 25 % 19) else M.ok (↑c + scell ns 2 % 5)) = M.ok s := by split <;> exact ⟨_, rfl⟩
  rw [hs, M.ok_bind, bAnd_ok, M.ok_bind]
  -- the symbols
  obtain ⟨l, hl, hll, hlb⟩ : ∃ l : List Int, (if (decide (scell ns 3 % 6 = 1) && decide ((c : Int) > 0)) = true then (getI [(16 : Int), -1, 1000, -16] (scell ns 3 / 108 % 4)) >>= fun x128 => (chk (0 < (c : Int)) >>= fun _ => M.ok (scell ns 3 / 6 % (c : Int))) >>= fun x129 => setL (gl p) x129 x128 >>= fun symbols_127 => M.ok symbols_127 else M.ok (gl p)) = M.ok l ∧ l.length = c ∧ (l = gl p ∨ ∃ x ∈ l, x < 0 ∨ 16 ≤ x) := by
    split
    · rename_i h
      have hc0 : 0 < c := by simp only [Bool.and_eq_true, decide_eq_true_eq] at h; omega
      obtain ⟨j, hj, hj'⟩ := modk (scell ns 3 / 6) c hc0
      obtain ⟨k, hk, hk'⟩ := modk (scell ns 3 / 108) 4 (by decide)
      rw [show scell ns 3 / 108 % 4 = (k : Int) from hk, getI_lt (show k < [(16 : Int), -1, 1000, -16].length from hk'), M.ok_bind, chk_ok (by omega), M.ok_bind, M.ok_bind, hj, setL_lt _ (by rw [gl_len]; omega), M.ok_bind]
      refine ⟨_, rfl, by rw [List.length_set, gl_len, hpl], .inr ⟨[(16 : Int), -1, 1000, -16][k]'hk', List.mem_iff_getElem.mpr ⟨j, by rw [List.length_set, gl_len]; omega, by rw [List.getElem_set_self]⟩, ?_⟩⟩
      have : ∀ k : Fin 4, [(16 : Int), -1, 1000, -16][k.val] < 0 ∨ 16 ≤ [(16 : Int), -1, 1000, -16][k.val] := by decide
      exact this ⟨k, hk'⟩
    · exact ⟨_, rfl, by rw [gl_len, hpl], .inl rfl⟩
  rw [hl, M.ok_bind, good_loop, M.ok_bind]
  generalize hgood : ((decide (1 ≤ (c : Int)) && (decide ((c : Int) ≤ size) && decide (size ≤ 16))) && l.all fun a => decide (0 ≤ a) && decide (a ≤ 15)) = good
  cases good with
  | false =>
    have hexc : m_encode l size = .exc ⟨"InvalidSymbol", []⟩ := by
      apply encode_exc
      rw [hll]
      by_cases h1 : 1 ≤ (c : Int) ∧ (c : Int) ≤ size ∧ size ≤ 16
      · right
        rw [decide_eq_true h1.1, decide_eq_true h1.2.1, decide_eq_true h1.2.2] at hgood
        rw [Bool.and_self, Bool.and_self, Bool.true_and, List.all_eq_false] at hgood
        obtain ⟨x, hx, h⟩ := hgood
        refine ⟨x, hx, ?_⟩
        simp only [Bool.and_eq_true, decide_eq_true_eq] at h
        omega
      · exact .inl h1
    rw [try_exc (by rw [hexc]; rfl), show (Exn.mk "InvalidSymbol" []).fs.isEmpty = true from rfl, chk_ok rfl, M.ok_bind, isE_2]
    rfl
  | true =>
    simp only [Bool.and_eq_true, decide_eq_true_eq, List.all_eq_true] at hgood
    obtain ⟨⟨h1, h2, h3⟩, h4⟩ := hgood
    obtain ⟨n, rfl⟩ : ∃ n : Nat, size = (n : Int) := ⟨size.toNat, by omega⟩
    have : l = gl p := by
      rcases hlb with h | ⟨x, hx, h⟩
      · exact h
      · have := h4 x hx; omega
    subst this
    rw [encode_ok (by omega) (by omega) (by omega), M.ok_bind, tryM_ok, M.ok_bind, Jn.on_go]
    rw [islist_ok, lcw_ok (by omega) (by omega)]
    simp only [M.ok_bind, Bool.not_true, decide_true, bOr_ok, Bool.or_self, Bool.false_eq_true, if_false]
    obtain ⟨q, hq, hql⟩ := row_ok (scell ns 4) c (by omega)
    rw [hq, M.ok_bind]
    obtain ⟨q', hq', hql', hne⟩ : ∃ q' : P, (if decide (gl q = gl p) = true then (getI (gl q) 0 >>= fun x143 => M.ok (Builtin.bitXor x143 5)) >>= fun x145 => setL (gl q) 0 x145 >>= fun other_144 => M.ok other_144 else M.ok (gl q)) = M.ok (gl q') ∧ q'.length = c ∧ p ≠ q' := by
      rw [gl_dec]
      by_cases e : q = p
      · subst e
        have hx : ∀ a : F, Builtin.bitXor (g a) 5 = g (fa a 5) := by decide +kernel
        rw [decide_eq_true rfl, if_pos rfl, show (0 : Int) = ((0 : Nat) : Int) from rfl, get_gl (by omega), M.ok_bind, M.ok_bind, hx, set_gl _ (by omega), M.ok_bind]
        refine ⟨_, rfl, by rw [List.length_set, hql], fun z => ?_⟩
        have := congrArg (fun l => co l 0) z
        rw [co_set _ (by omega), if_pos rfl] at this
        have h5 : ∀ a : F, a ≠ fa a 5 := by decide +kernel
        exact h5 _ this
      · rw [decide_eq_false e, if_neg (by decide)]
        exact ⟨q, rfl, hql, fun z => e z.symm⟩
    rw [hq', M.ok_bind, encode_ok (by omega) (by omega) (by omega), M.ok_bind, M.ok_bind]
    rw [lcM_filter (p := fun a : Int × Int => decide (a.1 = a.2)) (h := fun _ => 1) (by simp only [List.length_zip, gl_len, cwd_len]; omega) (fun _ _ => rfl) (fun _ _ _ => rfl), M.ok_bind]
    have hal := alike hpl hql' (show c ≤ n by omega) (show n ≤ 16 by omega) hne
    rw [List.length_map, zip_gl, List.filter_map, List.length_map]
    rw [show ((fun a : Int × Int => decide (a.1 = a.2)) ∘ fun a : F × F => (g a.1, g a.2)) = fun a => decide (a.1 = a.2) by
      funext a
      have : ∀ a b : F, decide (g a = g b) = decide (a = b) := by decide +kernel
      exact this a.1 a.2]
    rw [decide_eq_true (by omega)]
end Q

set_option Elab.async false
set_option linter.all false
set_option maxRecDepth 100000
namespace Q
open PySem PySem.Spec PyProof.Rows L2 Vc Vc.Gf
/-! ### picked places -/
theorem picks_ok (c k : Int) {size : Nat} (h0 : 0 < size) (h1 : size < 1000) : ∃ L : List Nat, m__law_picks c k (size : Int) = .ok (L.map fun i : Nat => (i : Int)) ∧ ∀ x ∈ L, x < size := by
  unfold m__law_picks
  rw [M.ok_bind]
  have step : ∀ (L : List Nat) (x : Nat), x < size → (∀ x ∈ L, x < size) → L.length < 2000 → ∃ L' : List Nat, (if (decide (((L.map fun i : Nat => (i : Int)).length : Int) < k) && !decide ((x : Int) ∈ (L.map fun i : Nat => (i : Int)))) = true then chk ((L.map fun i : Nat => (i : Int)).length < sizeLine) >>= fun _ => (fun o => M.ok o) ((L.map fun i : Nat => (i : Int)) ++ [(x : Int)]) else M.ok (L.map fun i : Nat => (i : Int))) = M.ok (L'.map fun i : Nat => (i : Int)) ∧ (∀ x ∈ L', x < size) ∧ L'.length ≤ L.length + 1 := by
    intro L x hx hL hl
    split
    · rw [chk_ok (show _ < sizeLine by have : sizeLine = 2 ^ 24 := rfl; rw [List.length_map]; omega), M.ok_bind]
      refine ⟨L ++ [x], by rw [List.map_append]; rfl, ?_, by simp⟩
      intro y hy
      rcases List.mem_append.mp hy with h | h
      · exact hL y h
      · rw [List.mem_singleton.mp h]; exact hx
    · exact ⟨L, rfl, hL, by omega⟩
  obtain ⟨_, e, L, rfl, hL, hl⟩ := loopS_inv (f := (fun (s85 : (List Int)) (a86 : Int) => (((m__law_mix c a86) >>= fun x87 => chk (0 < (size : Int)) >>= fun _ => M.ok (x87 % (size : Int))) >>= fun place_88 => (if ((decide ((s85.length : Int) < k)) && (!decide (place_88 ∈ s85))) then (chk (s85.length < sizeLine) >>= fun _ => (fun order_89 => (M.ok order_89)) (s85 ++ [place_88])) else (M.ok s85)))))
    (l := rng 0 60) (s := []) (fun i s => ∃ L : List Nat, s = (L.map fun i : Nat => (i : Int)) ∧ (∀ x ∈ L, x < size) ∧ L.length ≤ i) ⟨[], rfl, by simp, Nat.le_refl _⟩ (by
      rintro i hi _ ⟨L, rfl, hL, hl⟩
      have hi' : i < 60 := by simpa [rng] using hi
      unfold m__law_mix
      rw [M.ok_bind, M.ok_bind, M.ok_bind, chk_ok (by omega), M.ok_bind, M.ok_bind]
      generalize (_ : Int) / 997 = y
      obtain ⟨x, hx, hx'⟩ := modk y size h0
      rw [hx]
      obtain ⟨L', e, h1, h2⟩ := step L x hx' hL (by omega)
      exact ⟨_, e, L', rfl, h1, by omega⟩)
  rw [e, M.ok_bind, chk_ok (rOk_nat (by omega)), M.ok_bind, M.ok_bind, rng_nat]
  have hl : L.length ≤ 60 := by simpa [rng] using hl
  obtain ⟨_, e, L2, rfl, hL2, hl2⟩ := loopS_inv (f := (fun (s91 : (List Int)) (a92 : Int) => (if ((decide ((s91.length : Int) < k)) && (!decide (a92 ∈ s91))) then (chk (s91.length < sizeLine) >>= fun _ => (fun order_93 => (M.ok order_93)) (s91 ++ [a92])) else (M.ok s91))))
    (l := (List.range size).map fun i : Nat => (i : Int)) (s := L.map fun i : Nat => (i : Int)) (fun i s => ∃ L : List Nat, s = (L.map fun i : Nat => (i : Int)) ∧ (∀ x ∈ L, x < size) ∧ L.length ≤ 60 + i) ⟨L, rfl, hL, by omega⟩ (by
      rintro i hi _ ⟨L, rfl, hL, hl⟩
      have hi' : i < size := by simpa using hi
      simp only [List.getElem_map, List.getElem_range]
      obtain ⟨L', e, h1, h2⟩ := step L i hi' hL (by omega)
      exact ⟨_, e, L', rfl, h1, by omega⟩)
  rw [e, M.ok_bind]
  exact ⟨L2, rfl, hL2⟩
/-! ### received lists -/
def om (r : List (Option F)) : List (Option Int) := r.map fun o => o.map g
@[simp] theorem om_len (r : List (Option F)) : (om r).length = r.length := List.length_map _
theorem om_getElem (r : List (Option F)) {i : Nat} (h : i < (om r).length) : (om r)[i] = (r.getD i none).map g := by
  simp only [om, List.getElem_map, List.getD_eq_getElem?_getD]
  rw [List.getElem?_eq_getElem (by rw [om_len] at h; exact h)]; rfl
theorem om_get (r : List (Option F)) {i : Nat} (h : i < r.length) : getI (om r) (i : Int) = .ok ((r.getD i none).map g) := by
  rw [getI_lt (by rw [om_len]; exact h), om_getElem]
theorem om_set (r : List (Option F)) {i : Nat} (o : Option F) (h : i < r.length) : setL (om r) (i : Int) (o.map g) = .ok (om (r.set i o)) := by
  rw [setL_lt _ (by rw [om_len]; exact h)]; unfold om; rw [List.map_set]
/-- the places that are there -/
def thr (r : List (Option F)) : List Nat := (List.range r.length).filter fun k => (r.getD k none).isSome
def tX (r : List (Option F)) (i : Nat) : F := nF ((thr r).getD i 0)
def tY (r : List (Option F)) (i : Nat) : F := (r.getD ((thr r).getD i 0) none).getD 0
theorem thr_lt {r : List (Option F)} {k : Nat} (h : k ∈ thr r) : k < r.length ∧ (r.getD k none).isSome = true := by
  unfold thr at h; rw [List.mem_filter, List.mem_range] at h; exact h
theorem thr_nd (r : List (Option F)) : (thr r).Nodup := List.Nodup.sublist List.filter_sublist List.nodup_range
theorem thr_getD {r : List (Option F)} {i : Nat} (h : i < (thr r).length) : (thr r).getD i 0 = (thr r)[i] := by
  rw [List.getD_eq_getElem?_getD, List.getElem?_eq_getElem h]; rfl
theorem thr_dist {r : List (Option F)} (h : r.length ≤ 16) : Dist (tX r) (thr r).length := by
  apply Dist_fn
  · intro i hi; rw [thr_getD hi]; have := (thr_lt (List.getElem_mem hi)).1; omega
  · intro i j hi hj e
    rw [thr_getD hi, thr_getD hj]
    intro z
    exact e ((List.getElem_inj (thr_nd r)).mp z)
/-- the known pairs, of any list -/
def kno (R : List (Option Int)) : List (Int × Int) := ((enumL R).filter fun a => a.2.isSome).map fun a => (a.1, a.2.getD 0)
theorem known_gen {R : List (Option Int)} {c : Int} (h1 : 1 ≤ c) (h2 : c ≤ R.length) (h3 : R.length ≤ 16) : m__known R c = (m_check_symbols ((kno R).map fun a => a.2)) >>= fun _ => M.ok (kno R) := by
  unfold m__known
  rw [if_neg (by simp only [Bool.or_eq_true, decide_eq_true_eq]; omega)]
  rw [lcM_filter (p := fun a : Int × Option Int => a.2.isSome) (h := fun a : Int × Option Int => (a.1, a.2.getD 0)) (by rw [enumL_len]; omega) (fun _ _ => rfl) (by
    rintro ⟨i, o⟩ _ h
    cases o with
    | none => cases h
    | some x => rfl), M.ok_bind]
  rw [show ((enumL R).filter fun a => a.2.isSome).map (fun a => (a.1, a.2.getD 0)) = kno R from rfl]
  have hl : (kno R).length ≤ 16 := by
    unfold kno; rw [List.length_map]; refine Nat.le_trans (List.length_filter_le _ _) ?_; rw [enumL_len]; exact h3
  rw [lcM_map (h := fun a : Int × Int => a.2) (by omega) fun _ _ => rfl, M.ok_bind]
theorem known_exc {R : List (Option Int)} {c : Int} (h : c < 1 ∨ c > R.length ∨ 16 < R.length) : m__known R c = .exc ⟨"InvalidSymbol", []⟩ := by
  unfold m__known
  rw [if_pos (by simp only [Bool.or_eq_true, decide_eq_true_eq]; omega)]
theorem enumL_om (r : List (Option F)) : enumL (om r) = (List.range r.length).map fun i : Nat => ((i : Int), (r.getD i none).map g) := by
  apply List.ext_getElem
  · rw [enumL_len, om_len, List.length_map, List.length_range]
  · intro i h1 h2
    rw [enumL_at h1, om_getElem, List.getElem_map, List.getElem_range]
theorem kno_om {r : List (Option F)} (h : r.length ≤ 16) : kno (om r) = pt (thr r).length (tX r) (tY r) := by
  unfold kno
  rw [enumL_om, List.filter_map, List.map_map]
  have e : ((fun a : Int × Option Int => a.2.isSome) ∘ fun i : Nat => ((i : Int), (r.getD i none).map g)) = fun k => (r.getD k none).isSome := by
    funext k; show Option.isSome (Option.map g _) = _; rw [Option.isSome_map]
  rw [e]
  show (thr r).map _ = _
  apply List.ext_getElem
  · rw [List.length_map, pt_len]
  · intro i h1 h2
    rw [List.getElem_map, pt_getElem]
    rw [List.length_map] at h1
    have := thr_lt (List.getElem_mem h1)
    unfold tX tY
    rw [thr_getD h1, g_nF (by omega)]
    show (((thr r)[i] : Int), ((r.getD (thr r)[i] none).map g).getD 0) = _
    congr 1
    generalize r.getD (thr r)[i] none = o at this
    cases o with
    | none => cases this.2
    | some x => rfl
theorem pt_snd (n : Nat) (X Y : Nat → F) : (pt n X Y).map (fun a : Int × Int => a.2) = fl n Y := by
  unfold pt fl; rw [List.map_map]; rfl
theorem pt_take {n c : Nat} (X Y : Nat → F) (h : c ≤ n) : (pt n X Y).take c = pt c X Y := by
  unfold pt; rw [← List.map_take, List.take_range, Nat.min_eq_left h]
theorem restored_ok {r : List (Option F)} {c : Nat} (h1 : 1 ≤ c) (h2 : c ≤ r.length) (h3 : r.length ≤ 16) : m_restored (om r) (c : Int) = .ok (if (thr r).length < c then none else some (gl ((List.range r.length).map fun k => lg (tX r) (tY r) (nF k) c))) := by
  unfold m_restored
  rw [known_gen (by omega) (by rw [om_len]; omega) (by rw [om_len]; exact h3), kno_om h3, pt_snd, fl_gl, check_ok, M.ok_bind, M.ok_bind, pt_len]
  by_cases h : (thr r).length < c
  · rw [if_pos (decide_eq_true (by omega)), if_pos h]
  · rw [if_neg (by simp only [decide_eq_true_eq]; omega), if_neg h, om_len, chk_ok ⟨by omega, by omega, by omega⟩, M.ok_bind, M.ok_bind]
    rw [cut_to _ (by rw [pt_len]; omega), pt_take _ _ (by omega), rng0_gl h3, cont_ok ((thr_dist h3).le (by omega)) (by omega) _ (by rw [List.length_map, List.length_range]; omega)]
    simp only [M.ok_bind]
    rw [List.map_map]
    rfl
theorem restored_exc {R : List (Option Int)} {c : Int} (h : (c < 1 ∨ c > R.length ∨ 16 < R.length) ∨ ∃ (i : Nat) (x : Int), R[i]? = some (some x) ∧ (x < 0 ∨ 16 ≤ x)) : m_restored R c = .exc ⟨"InvalidSymbol", []⟩ := by
  unfold m_restored
  by_cases hc : c < 1 ∨ c > R.length ∨ 16 < R.length
  · rw [known_exc hc, M.exc_bind]
  · rcases h with h | ⟨i, x, hx, hb⟩
    · exact absurd h hc
    · obtain ⟨hi, hx⟩ := List.getElem?_eq_some_iff.mp hx
      rw [known_gen (by omega) (by omega) (by omega), check_bad ⟨x, ?_, hb⟩, M.exc_bind, M.exc_bind]
      unfold kno
      rw [List.map_map, List.mem_map]
      refine ⟨((i : Int), some x), List.mem_filter.mpr ⟨?_, rfl⟩, rfl⟩
      rw [List.mem_iff_getElem]
      exact ⟨i, by rw [enumL_len]; exact hi, by rw [enumL_at, hx]⟩
end Q

set_option Elab.async false
set_option linter.all false
set_option maxRecDepth 100000
namespace Q
open PySem PySem.Spec PyProof.Rows L2 Vc Vc.Gf
theorem cut_nat {α : Type} (l : List α) (k : Nat) : cutL l none (some (k : Int)) = l.take k := by
  unfold cutL
  rw [HT.sIx_nat, HT.sIx_none, List.drop_zero, Nat.sub_zero]
  by_cases h : k ≤ l.length
  · rw [Nat.min_eq_left h]
  · rw [Nat.min_eq_right (by omega), List.take_of_length_le (Nat.le_refl _), List.take_of_length_le (by omega)]
theorem third (k : Nat) (h : k < 3) (a b c : Int) : ∃ x, getI [a, b, c] (k : Int) = .ok x ∧ (x = a ∨ x = b ∨ x = c) := by
  have : k = 0 ∨ k = 1 ∨ k = 2 := by omega
  rcases this with rfl | rfl | rfl
  · exact ⟨a, rfl, .inl rfl⟩
  · exact ⟨b, rfl, .inr (.inl rfl)⟩
  · exact ⟨c, rfl, .inr (.inr rfl)⟩
theorem set_gone (L : List Nat) (r : List (Option F)) (h : ∀ x ∈ L, x < r.length) : ∃ r' : List (Option F), loopS (fun (s : List (Option Int)) (a : Int) => setL s a none >>= fun x => M.ok x) (L.map fun i : Nat => (i : Int)) (om r) = .ok (om r') ∧ r'.length = r.length := by
  induction L generalizing r with
  | nil => exact ⟨r, rfl, rfl⟩
  | cons x L ih =>
    rw [List.map_cons, loopS_cons, show (none : Option Int) = (none : Option F).map g from rfl, om_set _ _ (h x (by simp)), M.ok_bind, M.ok_bind]
    obtain ⟨r', e, hl⟩ := ih (r.set x none) (fun y hy => by rw [List.length_set]; exact h y (by simp [hy]))
    exact ⟨r', e, by rw [hl, List.length_set]⟩
theorem second_ok (ns : List Int) : m__law_second_part ns = .ok true := by
  unfold m__law_second_part
  have c0 := cell_lit ns 0 0 rfl; have c1 := cell_lit ns 1 1 rfl; have c2 := cell_lit ns 2 2 rfl; have c3 := cell_lit ns 3 3 rfl; have c4 := cell_lit ns 4 4 rfl; have c5 := cell_lit ns 5 5 rfl
  simp only [c0, c1, c2, c3, c4, c5, M.ok_bind]
  obtain ⟨s0, hs0, hs0'⟩ := modk (scell ns 0) 16 (by decide)
  rw [show scell ns 0 % 16 = (s0 : Int) from hs0]
  obtain ⟨size, hsz⟩ : ∃ size : Nat, size = s0 + 1 := ⟨_, rfl⟩
  rw [show (1 : Int) + (s0 : Int) = (size : Int) by omega, chk_ok (by omega), M.ok_bind, M.ok_bind]
  obtain ⟨k0, hk0, hk0'⟩ := modk (scell ns 0 / 16) size (by omega)
  obtain ⟨c, hc⟩ : ∃ c : Nat, c = k0 + 1 := ⟨_, rfl⟩
  rw [hk0, show (1 : Int) + (k0 : Int) = (c : Int) by omega]
  obtain ⟨p, hp, hpl⟩ := row_ok (scell ns 1) c (by omega)
  rw [M.ok_bind, hp, M.ok_bind, lcw_ok (by omega) (by omega), M.ok_bind, chk_ok (by omega), M.ok_bind, M.ok_bind]
  generalize hs168 : (if decide (scell ns 2 / 20 % 2 = 1) = true then M.ok ((size : Int) - (c : Int)) else M.ok (scell ns 2 % ((size : Int) + 1))) = ms
  obtain ⟨s168, rfl⟩ : ∃ s, ms = M.ok s := by subst hs168; split <;> exact ⟨_, rfl⟩
  rw [M.ok_bind]
  obtain ⟨L, hL, hLb⟩ := picks_ok (scell ns 3) s168 (show 0 < size by omega) (by omega)
  rw [hL, M.ok_bind]
  rw [show (gl (cwd p size)).map (fun x => some x) = om ((cwd p size).map some) by unfold gl om; rw [List.map_map, List.map_map]; rfl]
  obtain ⟨r, hr, hrl⟩ := set_gone L ((cwd p size).map some) (by rw [List.length_map, cwd_len]; exact hLb)
  rw [hr, M.ok_bind]
  rw [List.length_map, cwd_len] at hrl
  obtain ⟨r2, hr2, hr2l⟩ : ∃ r2 : List (Option F), (if decide (scell ns 2 / 40 % 4 = 1) = true then (M.ok () >>= fun _ => M.ok (scell ns 4 % (size : Int))) >>= fun place_181 => (getI (om r) place_181 >>= fun x182 => M.ok x182.isSome) >>= fun c191 => if c191 = true then ((getI (om r) place_181 >>= unO >>= fun x186 => M.ok (Builtin.bitXor x186 (1 + scell ns 4 / 16 % 15))) >>= fun x188 => M.ok (some x188)) >>= fun x190 => setL (om r) place_181 x190 >>= fun received_175 => M.ok received_175 else M.ok (om r) else M.ok (om r)) = M.ok (om r2) ∧ r2.length = size := by
    split
    · obtain ⟨j, hj, hj'⟩ := modk (scell ns 4) size (by omega)
      rw [M.ok_bind, M.ok_bind, hj, om_get _ (by omega), M.ok_bind, M.ok_bind]
      cases ho : r.getD j none with
      | none => exact ⟨r, rfl, hrl⟩
      | some a =>
        rw [Option.map_some, Option.isSome_some, if_pos rfl, M.ok_bind, unO_some, M.ok_bind]
        obtain ⟨d, hd, hd'⟩ := modk (scell ns 4 / 16) 15 (by decide)
        rw [show scell ns 4 / 16 % 15 = (d : Int) from hd, show (1 : Int) + (d : Int) = g (nF (d + 1)) by rw [g_nF (by omega)]; omega, xor_g, M.ok_bind, M.ok_bind]
        rw [show some (g (fa a (nF (d + 1)))) = (some (fa a (nF (d + 1)))).map g from rfl, om_set _ _ (by omega), M.ok_bind]
        exact ⟨_, rfl, by rw [List.length_set, hrl]⟩
    · exact ⟨r, rfl, hrl⟩
  rw [hr2, M.ok_bind, chk_ok (rOk_nat (by omega))]
  simp only [M.ok_bind]
  rw [rng_nat]
  have hpts : lcM (fun (a192 : Int) => ((getI (om r2) a192) >>= fun x193 => M.ok ((x193).isSome))) (fun (a192 : Int) => (M.ok a192)) ((List.range size).map fun i : Nat => (i : Int)) = .ok ((thr r2).map fun i : Nat => (i : Int)) := by
    rw [lcM_filter (f := fun a : Int => M.ok a) (p := fun z : Int => (r2.getD z.toNat none).isSome) (h := fun z : Int => z) (by rw [List.length_map, List.length_range]; omega) (by
      intro z hz
      obtain ⟨i, hi, rfl⟩ := List.mem_map.mp hz
      have := List.mem_range.mp hi
      rw [om_get _ (by omega), M.ok_bind, Option.isSome_map]
      rfl) (fun _ _ _ => rfl), List.map_id', List.filter_map]
    unfold thr
    rw [hr2l]
    rfl
  rw [hpts, M.ok_bind, cut_nat, ← List.map_take]
  have hth : ∀ k ∈ thr r2, k < size ∧ (r2.getD k none).isSome = true := fun k hk => by have := thr_lt hk; rw [hr2l] at this; exact this
  have htl : (thr r2).length ≤ size := by
    unfold thr; refine Nat.le_trans (List.length_filter_le _ _) ?_; rw [List.length_range, hr2l]; exact Nat.le_refl _
  have hm : ∀ i, i < min c (thr r2).length → i < (thr r2).length := fun i hi => by omega
  have hpt : ((thr r2).take c).map (fun i : Nat => (i : Int)) = fl (min c (thr r2).length) (tX r2) := by
    apply List.ext_getElem
    · rw [List.length_map, List.length_take, fl_len]
    · intro i h1 h2
      rw [fl_len] at h2
      rw [List.getElem_map, List.getElem_take, fl_getElem]
      unfold tX
      rw [thr_getD (hm i h2), g_nF (by have := (hth _ (List.getElem_mem (hm i h2))).1; omega)]
  have hvl : lcM (fun (a197 : Int) => M.ok true) (fun a197 => getI (om r2) a197 >>= unO) (((thr r2).take c).map (fun i : Nat => (i : Int))) = .ok (fl (min c (thr r2).length) (tY r2)) := by
    rw [lcM_map (h := fun z => ((r2.getD z.toNat none).map g).getD 0) (by rw [List.length_map, List.length_take]; omega) (by
      intro z hz
      obtain ⟨i, hi, rfl⟩ := List.mem_map.mp hz
      have := hth i (List.mem_of_mem_take hi)
      rw [om_get _ (by omega), M.ok_bind]
      show unO (Option.map g (r2.getD i none)) = .ok ((Option.map g (r2.getD i none)).getD 0)
      cases ho : r2.getD i none with
      | none => rw [ho] at this; cases this.2
      | some x => rfl)]
    refine congrArg M.ok ?_
    apply List.ext_getElem
    · rw [List.length_map, List.length_map, List.length_take, fl_len]
    · intro i h1 h2
      rw [fl_len] at h2
      simp only [List.getElem_map, List.getElem_take, fl_getElem]
      have := hth _ (List.getElem_mem (hm i h2))
      unfold tY
      rw [thr_getD (hm i h2)]
      show ((r2.getD (thr r2)[i] none).map g).getD 0 = _
      cases ho : r2.getD (thr r2)[i] none with
      | none => rw [ho] at this; cases this.2
      | some x => rfl
  rw [M.ok_bind, hvl, M.ok_bind, hpt, bAnd_ok, M.ok_bind]
  by_cases hodd : scell ns 5 % 9 = 4
  · rw [decide_eq_true hodd]
    obtain ⟨m5, hm5, hm5'⟩ := modk (scell ns 5 / 27) 3 (by decide)
    have hm5 : scell ns 5 / 27 % 3 = (m5 : Int) := hm5
    rw [hm5]
    obtain ⟨R, a, hR, hRe⟩ : ∃ (R : List (Option Int)) (a : Int), (if (true && decide (scell ns 5 / 9 % 3 = 0)) = true then getI [0, -1, (size : Int) + 1] (m5 : Int) >>= fun asked_210 => M.ok (om r2, asked_210) else bAnd (M.ok true) (M.ok (decide (scell ns 5 / 9 % 3 = 1))) >>= fun c224 => if c224 = true then (getI [16, -1, 99] (m5 : Int) >>= fun x188 => M.ok (some x188)) >>= fun x220 => setL (om r2) (scell ns 4 % (size : Int)) x220 >>= fun received_219 => M.ok (received_219, (c : Int)) else if true = true then (repM [none] (17 - (size : Int)) >>= fun x222 => catM (om r2) x222) >>= fun received_223 => M.ok (received_223, (c : Int)) else M.ok (om r2, (c : Int))) = M.ok (R, a) ∧ m_restored R a = .exc ⟨"InvalidSymbol", []⟩ := by
      by_cases h0 : scell ns 5 / 9 % 3 = 0
      · rw [decide_eq_true h0, if_pos (by decide)]
        obtain ⟨x, hx, hx'⟩ := third m5 hm5' 0 (-1) ((size : Int) + 1)
        rw [hx, M.ok_bind]
        refine ⟨_, _, rfl, restored_exc (.inl ?_)⟩
        rw [om_len]
        omega
      · rw [decide_eq_false h0, if_neg (by decide), bAnd_ok, M.ok_bind]
        by_cases h1 : scell ns 5 / 9 % 3 = 1
        · rw [decide_eq_true h1, if_pos (by decide)]
          obtain ⟨x, hx, hx'⟩ := third m5 hm5' 16 (-1) 99
          obtain ⟨j, hj, hj'⟩ := modk (scell ns 4) size (by omega)
          rw [hx, M.ok_bind, M.ok_bind, hj, setL_lt _ (by rw [om_len]; omega), M.ok_bind]
          refine ⟨_, _, rfl, restored_exc (.inr ⟨j, x, ?_, by omega⟩)⟩
          rw [List.getElem?_set_self (by rw [om_len]; omega)]
        · rw [decide_eq_false h1, if_neg (by decide), if_pos rfl, repM_one (by omega) (by omega), M.ok_bind, catM_ok (by rw [om_len, List.length_replicate]; omega), M.ok_bind]
          refine ⟨_, _, rfl, restored_exc (.inl (.inr (.inr ?_)))⟩
          rw [List.length_append, om_len, List.length_replicate]
          omega
    rw [hR, M.ok_bind]
    dsimp only
    rw [try_exc (by rw [hRe]; rfl), show (Exn.mk "InvalidSymbol" []).fs.isEmpty = true from rfl, chk_ok rfl, M.ok_bind, isE_2]
    rfl
  · rw [decide_eq_false hodd]
    simp only [Bool.false_and, Bool.false_eq_true, if_false, M.ok_bind, bAnd_ok]
    rw [restored_ok (by omega) (by omega) (by omega), M.ok_bind, tryM_ok, M.ok_bind, Jn.on_go]
    simp only [decide_true, Bool.not_true, Bool.or_self, Bool.false_eq_true, if_false]
    rw [fl_len]
    by_cases hlt : (thr r2).length < c
    · rw [if_pos hlt, if_pos (decide_eq_true (by omega))]
      rfl
    · rw [if_neg hlt, if_neg (by simp only [decide_eq_true_eq]; omega), unO_some, M.ok_bind, islist_ok, bAnd_l, if_pos rfl, ← rng_nat, rng0_gl (by omega : size ≤ 16)]
      rw [show min c (thr r2).length = c by omega]
      rw [lcM_map (h := fun z => g (lg (tX r2) (tY r2) (Fin.ofNat 16 z.toNat) c)) (by simp only [gl_len, List.length_map, List.length_range]; omega) (by
        intro a ha
        obtain ⟨b, _, rfl⟩ := List.mem_map.mp ha
        rw [lat_ok (by omega)]
        have : ∀ b : F, Fin.ofNat 16 (g b).toNat = b := by decide +kernel
        rw [this])]
      simp only [M.ok_bind]
      have e : (gl ((List.range size).map nF)).map (fun z => g (lg (tX r2) (tY r2) (Fin.ofNat 16 z.toNat) c)) = gl ((List.range r2.length).map fun k => lg (tX r2) (tY r2) (nF k) c) := by
        rw [hr2l]
        unfold gl
        rw [List.map_map, List.map_map, List.map_map]
        apply List.map_congr_left
        intro i _
        have : ∀ b : F, Fin.ofNat 16 (g b).toNat = b := by decide +kernel
        show g (lg _ _ (Fin.ofNat 16 (g (nF i)).toNat) _) = _
        rw [this]; rfl
      rw [e, decide_eq_true rfl]
theorem law_ok : ∀ ns : List Int, ns.length ≤ 63 → m_law ns = .ok true := fun ns _ => by
  unfold m_law
  rw [first_ok, second_ok]
  rfl
end Q

open PySem PySem.W PyProof.Rows Vc
set_option maxRecDepth 100000 in
set_option maxHeartbeats 0 in
theorem PySem.Challenge.cw_paperark_k29_codewords_and_missing_symbo_holds : PySem.Challenge.rw_paperark_k29_codewords_and_missing_symbo.Holds := by
  w_on; o_law; k_head; (case hw => w_witness2)
  k_fill
  refine Vc.law_walk (l := PySem.Challenge.rw_paperark_k29_codewords_and_missing_symbo) (k := 5) (m := fun x => Q.m_law x.1) rfl rfl rfl ⟨rfl, by decide, by decide⟩ (fun w h Y => PySem.W.kIn_of Y) Q.law_ok ?F
  case F =>
    intro w mg h KX G
    obtain ⟨f0, d0, D0⟩ : ∃ f fd, Vc.DefAt _ mg "check_symbols" Q.s_check_symbols f fd ["symbols"] := by
      refine' ⟨_, _, Vc.def_mk KX G (fun _ _ _ _ _ _ us hl => match us, hl with | [_], _ => rfl) ?a ?l ?c ?k⟩
      (case a => k_is); (case l => k_is); (case c => k_is); (case k => k_is)
    obtain ⟨f1, d1, D1⟩ : ∃ f fd, Vc.DefAt _ mg "_differences" Q.s__differences f fd ["known"] := by
      refine' ⟨_, _, Vc.def_mk KX G (fun _ _ _ _ _ _ us hl => match us, hl with | [_], _ => rfl) ?a ?l ?c ?k⟩
      (case a => k_is); (case l => k_is); (case c => k_is); (case k => k_is)
    obtain ⟨f2, d2, D2⟩ : ∃ f fd, Vc.DefAt _ mg "_law_cell" Q.s__law_cell f fd ["script", "k"] := by
      refine' ⟨_, _, Vc.def_mk KX G (fun _ _ _ _ _ _ us hl => match us, hl with | [_, _], _ => rfl) ?a ?l ?c ?k⟩
      (case a => k_is); (case l => k_is); (case c => k_is); (case k => k_is)
    obtain ⟨f3, d3, D3⟩ : ∃ f fd, Vc.DefAt _ mg "_law_mix" Q.s__law_mix f fd ["cell", "k"] := by
      refine' ⟨_, _, Vc.def_mk KX G (fun _ _ _ _ _ _ us hl => match us, hl with | [_, _], _ => rfl) ?a ?l ?c ?k⟩
      (case a => k_is); (case l => k_is); (case c => k_is); (case k => k_is)
    obtain ⟨f4, d4, D4⟩ : ∃ f fd, Vc.DefAt _ mg "_law_is_int" Q.s__law_is_int f fd ["value"] := by
      refine' ⟨_, _, Vc.def_mk KX G (fun _ _ _ _ _ _ us hl => match us, hl with | [_], _ => rfl) ?a ?l ?c ?k⟩
      (case a => k_is); (case l => k_is); (case c => k_is); (case k => k_is)
    obtain ⟨f5, d5, D5⟩ : ∃ f fd, Vc.DefAt _ mg "_law_times" Q.s__law_times f fd ["a", "b"] := by
      refine' ⟨_, _, Vc.def_mk KX G (fun _ _ _ _ _ _ us hl => match us, hl with | [_, _], _ => rfl) ?a ?l ?c ?k⟩
      (case a => k_is); (case l => k_is); (case c => k_is); (case k => k_is)
    obtain ⟨f6, d6, D6⟩ : ∃ f fd, Vc.DefAt _ mg "_law_inverse" Q.s__law_inverse f fd ["a"] := by
      refine' ⟨_, _, Vc.def_mk KX G (fun _ _ _ _ _ _ us hl => match us, hl with | [_], _ => rfl) ?a ?l ?c ?k⟩
      (case a => k_is); (case l => k_is); (case c => k_is); (case k => k_is)
    obtain ⟨f7, d7, D7⟩ : ∃ f fd, Vc.DefAt _ mg "_continued" Q.s__continued f fd ["known", "points"] := by
      refine' ⟨_, _, Vc.def_mk KX G (fun _ _ _ _ _ _ us hl => match us, hl with | [_, _], _ => rfl) ?a ?l ?c ?k⟩
      (case a => k_is); (case l => k_is); (case c => k_is); (case k => k_is)
    obtain ⟨f8, d8, D8⟩ : ∃ f fd, Vc.DefAt _ mg "_known" Q.s__known f fd ["received", "count"] := by
      refine' ⟨_, _, Vc.def_mk KX G (fun _ _ _ _ _ _ us hl => match us, hl with | [_, _], _ => rfl) ?a ?l ?c ?k⟩
      (case a => k_is); (case l => k_is); (case c => k_is); (case k => k_is)
    obtain ⟨f9, d9, D9⟩ : ∃ f fd, Vc.DefAt _ mg "_law_row" Q.s__law_row f fd ["cell", "count", "bound"] := by
      refine' ⟨_, _, Vc.def_mk KX G (fun _ _ _ _ _ _ us hl => match us, hl with | [_, _, _], _ => rfl) ?a ?l ?c ?k⟩
      (case a => k_is); (case l => k_is); (case c => k_is); (case k => k_is)
    obtain ⟨f10, d10, D10⟩ : ∃ f fd, Vc.DefAt _ mg "_law_is_list" Q.s__law_is_list f fd ["value", "least", "greatest"] := by
      refine' ⟨_, _, Vc.def_mk KX G (fun _ _ _ _ _ _ us hl => match us, hl with | [_, _, _], _ => rfl) ?a ?l ?c ?k⟩
      (case a => k_is); (case l => k_is); (case c => k_is); (case k => k_is)
    obtain ⟨f11, d11, D11⟩ : ∃ f fd, Vc.DefAt _ mg "_law_at" Q.s__law_at f fd ["points", "values", "target"] := by
      refine' ⟨_, _, Vc.def_mk KX G (fun _ _ _ _ _ _ us hl => match us, hl with | [_, _, _], _ => rfl) ?a ?l ?c ?k⟩
      (case a => k_is); (case l => k_is); (case c => k_is); (case k => k_is)
    obtain ⟨f12, d12, D12⟩ : ∃ f fd, Vc.DefAt _ mg "_law_picks" Q.s__law_picks f fd ["cell", "count", "size"] := by
      refine' ⟨_, _, Vc.def_mk KX G (fun _ _ _ _ _ _ us hl => match us, hl with | [_, _, _], _ => rfl) ?a ?l ?c ?k⟩
      (case a => k_is); (case l => k_is); (case c => k_is); (case k => k_is)
    obtain ⟨f13, d13, D13⟩ : ∃ f fd, Vc.DefAt _ mg "encode" Q.s_encode f fd ["symbols", "size"] := by
      refine' ⟨_, _, Vc.def_mk KX G (fun _ _ _ _ _ _ us hl => match us, hl with | [_, _], _ => rfl) ?a ?l ?c ?k⟩
      (case a => k_is); (case l => k_is); (case c => k_is); (case k => k_is)
    obtain ⟨f14, d14, D14⟩ : ∃ f fd, Vc.DefAt _ mg "restored" Q.s_restored f fd ["received", "count"] := by
      refine' ⟨_, _, Vc.def_mk KX G (fun _ _ _ _ _ _ us hl => match us, hl with | [_, _], _ => rfl) ?a ?l ?c ?k⟩
      (case a => k_is); (case l => k_is); (case c => k_is); (case k => k_is)
    obtain ⟨f15, d15, D15⟩ : ∃ f fd, Vc.DefAt _ mg "_law_codeword" Q.s__law_codeword f fd ["symbols", "size"] := by
      refine' ⟨_, _, Vc.def_mk KX G (fun _ _ _ _ _ _ us hl => match us, hl with | [_, _], _ => rfl) ?a ?l ?c ?k⟩
      (case a => k_is); (case l => k_is); (case c => k_is); (case k => k_is)
    obtain ⟨f16, d16, D16⟩ : ∃ f fd, Vc.DefAt _ mg "_law_first_part" Q.s__law_first_part f fd ["script"] := by
      refine' ⟨_, _, Vc.def_mk KX G (fun _ _ _ _ _ _ us hl => match us, hl with | [_], _ => rfl) ?a ?l ?c ?k⟩
      (case a => k_is); (case l => k_is); (case c => k_is); (case k => k_is)
    obtain ⟨f17, d17, D17⟩ : ∃ f fd, Vc.DefAt _ mg "_law_second_part" Q.s__law_second_part f fd ["script"] := by
      refine' ⟨_, _, Vc.def_mk KX G (fun _ _ _ _ _ _ us hl => match us, hl with | [_], _ => rfl) ?a ?l ?c ?k⟩
      (case a => k_is); (case l => k_is); (case c => k_is); (case k => k_is)
    obtain ⟨f18, d18, D18, BT⟩ : ∃ f fd, Vc.DefAt _ mg "law" Q.s_law f fd ["script"] ∧ ∀ (s : Shared) (u : Value), BindsTo s fd ⟨[u], []⟩ [("script", u)] := by
      refine' ⟨_, _, Vc.def_mk KX G (fun _ _ _ _ _ _ us hl => match us, hl with | [_], _ => rfl) ?a ?l ?c ?k, fun s u => .of_eq rfl⟩
      (case a => k_is); (case l => k_is); (case c => k_is); (case k => k_is)
    refine' ⟨f18, d18, D18.g, BT, fun base => Q.G_law (a := fun i => [f0, f1, f2, f3, f4, f5, f6, f7, f8, f9, f10, f11, f12, f13, f14, f15, f16, f17, f18].getD i f0) (d := fun i => [d0, d1, d2, d3, d4, d5, d6, d7, d8, d9, d10, d11, d12, d13, d14, d15, d16, d17, d18].getD i d0) ⟨D0, D1, D2, D3, D4, D5, D6, D7, D8, D9, D10, D11, D12, D13, D14, D15, D16, D17, D18, PySem.W.mg_none_of KX G ?z0, PySem.W.mg_none_of KX G ?z1, PySem.W.mg_none_of KX G ?z2, PySem.W.mg_none_of KX G ?z3, PySem.W.mg_none_of KX G ?z4, PySem.W.mg_none_of KX G ?z5, PySem.W.mg_none_of KX G ?z6, PySem.W.mg_none_of KX G ?z7, PySem.W.mg_none_of KX G ?z8, Vc.const_mk KX G ?z9 ?y9, Vc.const_mk KX G ?z10 ?y10, Vc.int_mk KX G ?z11, Vc.ExcCls.mk' KX G ?a12 ?q12 ?k12 ?b12 ?t12, Vc.eex_mk KX G ?a13 ?q13, Vc.iex_mk KX G ?a14 ?q14⟩⟩
    (case z0 => k_is)
    (case z1 => k_is)
    (case z2 => k_is)
    (case z3 => k_is)
    (case z4 => k_is)
    (case z5 => k_is)
    (case z6 => k_is)
    (case z7 => k_is)
    (case z8 => k_is)
    (case z9 => k_is) ; (case y9 => kernel_rfl)
    (case z10 => k_is) ; (case y10 => kernel_rfl)
    (case z11 => k_is)
    (case a12 => k_is) ; (case q12 => k_exc) ; (case k12 => k_is) ; (case b12 => k_is) ; (case t12 => k_is)
    (case a13 => k_is) ; (case q13 => kernel_rfl)
    (case a14 => k_is) ; (case q14 => kernel_rfl)

