import PyProof.Rows.All
import Wide.All
import OpenK.AllK
import Wide.FinOn
import HandS.ForMost
import HandS.ForExc
import HandS.HotCalls
import HandS.ExcIs
import HandS.IsInst
import HandS.Style
import HandS.Conv
import PySem.Challenge.RW_paperark_k25_field_and_polynomial_divisi
set_option Elab.async false
set_option linter.all false
set_option maxRecDepth 100000
namespace Vc
open PySem PySem.Spec PyProof.Rows L2

/-! ### results -/
inductive D where
  | non | bl (b : Bool) | int (i : Int) | str (x : Str) | lst (l : List D) | tup (l : List D)
  /-- an object's address alone; an error with its fields; an instance; a dict -/
  | adr (a : Addr) | exn (a dd : Addr) (fs : List (Str × D)) | ins (n : Str) (fs : List (Str × D)) | dic (kvs : List (Key × D))
structure Exn where
  nm : Str
  fs : List (Str × D)
inductive M (α : Type) where
  | ok (a : α)
  | stuck
  | exc (e : Exn)
namespace M
variable {α β : Type}
def bind (m : M α) (f : α → M β) : M β := match m with
  | .ok a => f a
  | .stuck => .stuck
  | .exc e => .exc e
instance : Monad M where
  pure := .ok
  bind := bind
theorem ok_bind_rfl (a : α) (f : α → M β) : (M.ok a >>= f) = f a := rfl
@[simp] theorem ok_bind (a : α) (f : α → M β) : (M.ok a >>= f) = f a := by rw [ok_bind_rfl]
theorem stuck_bind_rfl (f : α → M β) : ((M.stuck : M α) >>= f) = .stuck := rfl
theorem exc_bind_rfl (e : Exn) (f : α → M β) : ((M.exc e : M α) >>= f) = .exc e := rfl
@[simp] theorem pure_eq (a : α) : (pure a : M α) = .ok a := rfl
@[simp] theorem stuck_bind (f : α → M β) : ((M.stuck : M α) >>= f) = .stuck := by rw [stuck_bind_rfl]
@[simp] theorem exc_bind (e : Exn) (f : α → M β) : ((M.exc e : M α) >>= f) = .exc e := by rw [exc_bind_rfl]
theorem bind_assoc {γ : Type} (m : M α) (f : α → M β) (g : β → M γ) : (m >>= f) >>= g = m >>= fun a => f a >>= g := by cases m <;> rfl
theorem bind_ok (m : M α) : (m >>= fun a => .ok a) = m := by cases m <;> rfl
end M
/-- stuck unless p -/
def chk (p : Prop) [Decidable p] : M Unit := if p then .ok () else .stuck
theorem chk_ok {p : Prop} [Decidable p] (h : p) : chk p = .ok () := if_pos h
/-- no exception may leave here -/
def nox {α : Type} : M α → M α
  | .ok a => .ok a
  | _ => .stuck

def Out {α : Type} (m : M α) (P : α → Prop) (E : Exn → Prop) : Prop := match m with
  | .ok a => P a
  | .exc e => E e
  | .stuck => False
theorem Out.bind {α β : Type} {m : M α} {f : α → M β} {P : β → Prop} {E : Exn → Prop} (h : Out (m >>= f) P E) : Out m (fun a => Out (f a) P E) E := by
  cases m <;> exact h
theorem Out.of_bind {α β : Type} {m : M α} {f : α → M β} {P : β → Prop} {E : Exn → Prop} (h : Out m (fun a => Out (f a) P E) E) : Out (m >>= f) P E := by
  cases m <;> exact h
theorem Out.mono {α : Type} {m : M α} {P P' : α → Prop} {E E' : Exn → Prop} (h : Out m P E) (hP : ∀ a, m = .ok a → P a → P' a) (hE : ∀ e, m = .exc e → E e → E' e) : Out m P' E' := by
  cases m with
  | ok a => exact hP a rfl h
  | exc e => exact hE e rfl h
  | stuck => exact h
theorem Out.chk {β : Type} {p : Prop} [Decidable p] {f : Unit → M β} {P : β → Prop} {E : Exn → Prop} (h : Out (Vc.chk p >>= f) P E) : p ∧ Out (f ()) P E := by
  unfold Vc.chk at h
  split at h
  · exact ⟨by assumption, h⟩
  · exact h.elim

/-! ### a value stands for data -/
mutual
inductive R (K : PySem.W.Frag) (mg : Str → Option Value) (H : Hp) : V → D → Prop
  | non : R K mg H .non .non
  | bl (b : Bool) : R K mg H (.bl b) (.bl b)
  | int (i : Int) : R K mg H (.int i) (.int i)
  | str (x : Str) : R K mg H (.str x) (.str x)
  | lst {p : Addr} {xs : List V} {ds : List D} : SqL K H p xs → Rs K mg H xs ds → R K mg H (.ref p) (.lst ds)
  | tup {p : Addr} {xs : List V} {ds : List D} : SqT K H p xs → Rs K mg H xs ds → R K mg H (.ref p) (.tup ds)
  | adr (a : Addr) : R K mg H (.ref a) (.adr a)
  | exn {a dd : Addr} {vs : List (Str × V)} {fs : List (Str × D)} : H dd = some (.xd vs) → RF K mg H vs fs → R K mg H (.ref a) (.exn a dd fs)
  | ins {a C dx : Addr} {n : Str} {vs : List (Str × V)} {fs : List (Str × D)} : mg n = some (.ref C) → H a = some (.ins C dx vs) → RF K mg H vs fs → R K mg H (.ref a) (.ins n fs)
  | dic {a : Addr} {vs : List (Key × V)} {fs : List (Key × D)} : H a = some (.dK vs) → RK K mg H vs fs → R K mg H (.ref a) (.dic fs)
inductive RF (K : PySem.W.Frag) (mg : Str → Option Value) (H : Hp) : List (Str × V) → List (Str × D) → Prop
  | nil : RF K mg H [] []
  | cons {n : Str} {v : V} {d : D} {vs : List (Str × V)} {ds : List (Str × D)} : R K mg H v d → RF K mg H vs ds → RF K mg H ((n, v) :: vs) ((n, d) :: ds)
inductive RK (K : PySem.W.Frag) (mg : Str → Option Value) (H : Hp) : List (Key × V) → List (Key × D) → Prop
  | nil : RK K mg H [] []
  | cons {n : Key} {v : V} {d : D} {vs : List (Key × V)} {ds : List (Key × D)} : R K mg H v d → RK K mg H vs ds → RK K mg H ((n, v) :: vs) ((n, d) :: ds)
inductive Rs (K : PySem.W.Frag) (mg : Str → Option Value) (H : Hp) : List V → List D → Prop
  | nil : Rs K mg H [] []
  | cons {v : V} {d : D} {vs : List V} {ds : List D} : R K mg H v d → Rs K mg H vs ds → Rs K mg H (v :: vs) (d :: ds)
end
theorem Same.seqT {K : PySem.W.Frag} {H H' : Hp} {a : Addr} {xs : List V} (e : Same H H') (h : SqT K H a xs) : SqT K H' a xs := by
  rcases h with (h | ⟨o, h⟩) | h
  · exact .inl (.inl (e _ _ h))
  · exact .inl (.inr ⟨o, e _ _ h⟩)
  · exact .inr h
section
variable {K : PySem.W.Frag} {mg : Str → Option Value} {H H' : Hp}
mutual
theorem R.mono (e : Same H H') : ∀ {v : V} {d : D}, R K mg H v d → R K mg H' v d
  | _, _, .non => .non
  | _, _, .bl b => .bl b
  | _, _, .int b => .int b
  | _, _, .str b => .str b
  | _, _, .lst h r => .lst (e.seq h) (Rs.mono e r)
  | _, _, .tup h r => .tup (Same.seqT e h) (Rs.mono e r)
  | _, _, .adr a => .adr a
  | _, _, .exn h r => .exn (e _ _ h) (RF.mono e r)
  | _, _, .ins q h r => .ins q (e _ _ h) (RF.mono e r)
  | _, _, .dic h r => .dic (e _ _ h) (RK.mono e r)
theorem RF.mono (e : Same H H') : ∀ {v : List (Str × V)} {d : List (Str × D)}, RF K mg H v d → RF K mg H' v d
  | _, _, .nil => .nil
  | _, _, .cons h r => .cons (R.mono e h) (RF.mono e r)
theorem RK.mono (e : Same H H') : ∀ {v : List (Key × V)} {d : List (Key × D)}, RK K mg H v d → RK K mg H' v d
  | _, _, .nil => .nil
  | _, _, .cons h r => .cons (R.mono e h) (RK.mono e r)
theorem Rs.mono (e : Same H H') : ∀ {v : List V} {d : List D}, Rs K mg H v d → Rs K mg H' v d
  | _, _, .nil => .nil
  | _, _, .cons h r => .cons (R.mono e h) (Rs.mono e r)
end
theorem RF.lookup : ∀ {v : List (Str × V)} {d : List (Str × D)} {n : Str} {x : D}, RF K mg H v d → d.lookup n = some x → ∃ y, v.lookup n = some y ∧ R K mg H y x
  | _, _, n, x, .nil, h => by cases h
  | _, _, n, x, .cons (n := m) h r, e => by
    rw [List.lookup_cons] at e ⊢
    cases q : n == m with
    | true => rw [q] at e; cases e; exact ⟨_, rfl, h⟩
    | false => rw [q] at e; exact RF.lookup r e
theorem Rs.length : ∀ {v : List V} {d : List D}, Rs K mg H v d → v.length = d.length
  | _, _, .nil => rfl
  | _, _, .cons _ r => congrArg (· + 1) (Rs.length r)
theorem Rs.get : ∀ {v : List V} {d : List D} {i : Nat} {x : D}, Rs K mg H v d → d[i]? = some x → ∃ y, v[i]? = some y ∧ R K mg H y x
  | _, _, _, _, .nil, h => by simp at h
  | _, _, 0, _, .cons h r, e => by simp at e; subst e; exact ⟨_, rfl, h⟩
  | _, _, i + 1, _, .cons h r, e => by
    obtain ⟨y, h1, h2⟩ := Rs.get (i := i) r (by simpa using e)
    exact ⟨y, by simpa using h1, h2⟩
theorem Rs.getV : ∀ {v : List V} {d : List D} {i : Nat} {y : V}, Rs K mg H v d → v[i]? = some y → ∃ x, d[i]? = some x ∧ R K mg H y x
  | _, _, _, _, .nil, h => by simp at h
  | _, _, 0, _, .cons h r, e => by simp at e; subst e; exact ⟨_, rfl, h⟩
  | _, _, i + 1, _, .cons h r, e => by
    obtain ⟨y, h1, h2⟩ := Rs.getV (i := i) r (by simpa using e)
    exact ⟨y, by simpa using h1, h2⟩
theorem Rs.append : ∀ {v w : List V} {d e : List D}, Rs K mg H v d → Rs K mg H w e → Rs K mg H (v ++ w) (d ++ e)
  | _, _, _, _, .nil, h => h
  | _, _, _, _, .cons h r, q => .cons h (Rs.append r q)
theorem Rs.set {y : V} {x : D} (q : R K mg H y x) : ∀ {v : List V} {d : List D} (i : Nat), Rs K mg H v d → Rs K mg H (v.set i y) (d.set i x)
  | _, _, _, .nil => .nil
  | _, _, 0, .cons _ r => .cons q r
  | _, _, i + 1, .cons h r => .cons h (Rs.set q i r)
theorem Rs.take : ∀ {v : List V} {d : List D} (n : Nat), Rs K mg H v d → Rs K mg H (v.take n) (d.take n)
  | _, _, 0, _ => by simp; exact .nil
  | _, _, _ + 1, .nil => .nil
  | _, _, n + 1, .cons h r => .cons h (Rs.take n r)
theorem Rs.drop : ∀ {v : List V} {d : List D} (n : Nat), Rs K mg H v d → Rs K mg H (v.drop n) (d.drop n)
  | _, _, 0, r => r
  | _, _, _ + 1, .nil => .nil
  | _, _, n + 1, .cons h r => Rs.drop n r
theorem Rs.reverse : ∀ {v : List V} {d : List D}, Rs K mg H v d → Rs K mg H v.reverse d.reverse
  | _, _, .nil => .nil
  | _, _, .cons h r => by simp only [List.reverse_cons]; exact (Rs.reverse r).append (.cons h .nil)
theorem Rs.replicate {y : V} {x : D} (q : R K mg H y x) : ∀ n, Rs K mg H (List.replicate n y) (List.replicate n x)
  | 0 => .nil
  | n + 1 => by simp only [List.replicate_succ]; exact .cons q (Rs.replicate q n)
theorem Rs.ints : ∀ {v : List V} {l : List Int}, Rs K mg H v (l.map D.int) → v = l.map V.int
  | _, [], .nil => rfl
  | _, i :: l, .cons (.int _) r => by rw [Rs.ints r]; rfl
theorem Rs.of_ints : ∀ {l : List Int}, Rs K mg H (l.map V.int) (l.map D.int)
  | [] => .nil
  | i :: l => .cons (.int i) Rs.of_ints
theorem Rs.bools : ∀ {v : List V} {l : List Bool}, Rs K mg H v (l.map D.bl) → v = l.map V.bl
  | _, [], .nil => rfl
  | _, i :: l, .cons (.bl _) r => by rw [Rs.bools r]; rfl
theorem Rs.strs : ∀ {v : List V} {l : List Str}, Rs K mg H v (l.map D.str) → v = l.map V.str
  | _, [], .nil => rfl
  | _, i :: l, .cons (.str _) r => by rw [Rs.strs r]; rfl
end
/-- needs no heap -/
def atom : D → Bool
  | .lst _ => false
  | .tup _ => false
  | .exn _ _ _ => false
  | .ins _ _ => false
  | .dic _ => false
  | _ => true
theorem R.atom {K : PySem.W.Frag} {mg : Str → Option Value} {H H' : Hp} {v : V} {d : D} (h : R K mg H v d) (a : atom d = true) : R K mg H' v d := by
  cases h with
  | non => exact .non
  | bl b => exact .bl b
  | int b => exact .int b
  | str b => exact .str b
  | lst _ _ => cases a
  | tup _ _ => cases a
  | adr b => exact .adr b
  | exn _ _ => cases a
  | ins _ _ _ => cases a
  | dic _ _ => cases a

/-! ### what the def owns -/
inductive O where
  | imm (d : D) | lst (l : List O)
mutual
inductive Ow (K : PySem.W.Frag) (mg : Str → Option Value) (I H : Hp) : V → O → List Addr → Prop
  | imm {v : V} {d : D} : R K mg I v d → Ow K mg I H v (.imm d) []
  | lst {p : Addr} {xs : List V} {os : List O} {T : List Addr} : H p = some (.lst xs) → Ows K mg I H xs os T → Ow K mg I H (.ref p) (.lst os) (p :: T)
inductive Ows (K : PySem.W.Frag) (mg : Str → Option Value) (I H : Hp) : List V → List O → List Addr → Prop
  | nil : Ows K mg I H [] [] []
  | cons {v : V} {o : O} {vs : List V} {os : List O} {T T' : List Addr} : Ow K mg I H v o T → Ows K mg I H vs os T' → Ows K mg I H (v :: vs) (o :: os) (T ++ T')
end
section
variable {K : PySem.W.Frag} {mg : Str → Option Value} {I I' H H' : Hp}
mutual
theorem Ow.mono (e : Same I I') : ∀ {v : V} {o : O} {T : List Addr}, Ow K mg I H v o T → (∀ p ∈ T, H' p = H p) → Ow K mg I' H' v o T
  | _, _, _, .imm r, _ => .imm (r.mono e)
  | _, _, _, .lst h r, k => .lst ((k _ List.mem_cons_self).trans h) (Ows.mono e r fun p hp => k p (List.mem_cons_of_mem _ hp))
theorem Ows.mono (e : Same I I') : ∀ {v : List V} {o : List O} {T : List Addr}, Ows K mg I H v o T → (∀ p ∈ T, H' p = H p) → Ows K mg I' H' v o T
  | _, _, _, .nil, _ => .nil
  | _, _, _, .cons h r, k => .cons (Ow.mono e h fun p hp => k p (List.mem_append_left _ hp)) (Ows.mono e r fun p hp => k p (List.mem_append_right _ hp))
end
end
/-- all of it as data -/
def O.toD : O → D
  | .imm d => d
  | .lst l => .lst (l.attach.map fun ⟨o, _⟩ => o.toD)
theorem O.toD_imm (d : D) : (O.imm d).toD = d := by unfold O.toD; rfl
theorem O.toD_lst (l : List O) : (O.lst l).toD = .lst (l.map O.toD) := by
  unfold O.toD
  simp
section
variable {K : PySem.W.Frag} {mg : Str → Option Value} {I H : Hp}
mutual
/-- in a heap that holds both -/
theorem Ow.toR {G : Hp} (e : Same I G) : ∀ {v : V} {o : O} {T : List Addr}, Ow K mg I H v o T → (∀ p ∈ T, G p = H p) → R K mg G v o.toD
  | _, _, _, .imm r, _ => by rw [O.toD_imm]; exact r.mono e
  | _, _, _, .lst h r, k => by rw [O.toD_lst]; exact .lst (.of ((k _ List.mem_cons_self).trans h)) (Ows.toR e r fun p hp => k p (List.mem_cons_of_mem _ hp))
theorem Ows.toR {G : Hp} (e : Same I G) : ∀ {v : List V} {o : List O} {T : List Addr}, Ows K mg I H v o T → (∀ p ∈ T, G p = H p) → Rs K mg G v (o.map O.toD)
  | _, _, _, .nil, _ => .nil
  | _, _, _, .cons h r, k => .cons (Ow.toR e h fun p hp => k p (List.mem_append_left _ hp)) (Ows.toR e r fun p hp => k p (List.mem_append_right _ hp))
end
/-- lists of plain things -/
theorem Ows.of_imm : ∀ {v : List V} {d : List D}, Rs K mg I v d → Ows K mg I H v (d.map O.imm) []
  | _, _, .nil => .nil
  | _, _, .cons h r => .cons (T := []) (T' := []) (.imm h) (Ows.of_imm r)
theorem Ows.imm : ∀ {v : List V} {d : List D} {T : List Addr}, Ows K mg I H v (d.map O.imm) T → T = [] ∧ Rs K mg I v d
  | _, [], _, .nil => ⟨rfl, .nil⟩
  | _, d :: ds, _, .cons (.imm h) r => by
    obtain ⟨e, q⟩ := Ows.imm r
    subst e
    exact ⟨rfl, .cons h q⟩
end

/-! ### slots -/
inductive SL where
  | any | val (o : O)
inductive Sls (K : PySem.W.Frag) (mg : Str → Option Value) (I H : Hp) : L2.St → List SL → List Addr → Prop
  | nil : Sls K mg I H [] [] []
  | any {x : Option V} {σ : L2.St} {Γ : List SL} {T : List Addr} : Sls K mg I H σ Γ T → Sls K mg I H (x :: σ) (.any :: Γ) T
  | val {v : V} {o : O} {σ : L2.St} {Γ : List SL} {T T' : List Addr} : Ow K mg I H v o T → Sls K mg I H σ Γ T' → Sls K mg I H (some v :: σ) (.val o :: Γ) (T ++ T')

/-- from one pair of worlds to the next: I immutable, H all; T owned -/
structure Wd (I0 H0 I H : Hp) (T : List Addr) : Prop where
  ih : Same I H
  i0 : Same I0 I
  h0 : Same H0 H
  fr : ∀ p ∈ T, I p = none ∧ H0 p = none
  nd : T.Nodup
  sep : ∀ p, H0 p ≠ none → I0 p = none → I p = none
abbrev Gr (I H I' H' : Hp) : Prop := Wd I H I' H' []
theorem Gr.refl {I H : Hp} (h : Same I H) : Gr I H I H := ⟨h, .refl _, .refl _, fun _ z => (nomatch z), List.nodup_nil, fun _ _ z => z⟩
theorem Wd.gr {I0 H0 I H I' H' : Hp} {T : List Addr} (w : Wd I0 H0 I H T) (hT : ∀ p ∈ T, H p ≠ none) (g : Gr I H I' H') : Wd I0 H0 I' H' T :=
  ⟨g.ih, w.i0.trans g.i0, w.h0.trans g.h0, fun p hp => ⟨g.sep p (hT p hp) (w.fr p hp).1, (w.fr p hp).2⟩, w.nd, fun p h h' => by
    have h1 := w.sep p h h'
    refine g.sep p ?_ h1
    cases q : H0 p with
    | none => exact absurd q h
    | some o => rw [w.h0 p o q]; simp⟩
theorem Gr.trans {I H I1 H1 I2 H2 : Hp} (a : Gr I H I1 H1) (b : Gr I1 H1 I2 H2) : Gr I H I2 H2 := Wd.gr a (fun _ z => (nomatch z)) b
/-- a new immutable object -/
theorem Gr.new {I H : Hp} {p : Addr} {o : HO} (h : Same I H) (hp : H p = none) : Gr I H (upd I p o) (upd H p o) := by
  have ip : I p = none := h.free hp
  refine ⟨fun b u e => ?_, fun b u e => ?_, fun b u e => ?_, fun _ z => (nomatch z), List.nodup_nil, fun b hb hi => ?_⟩
  · by_cases hbp : b = p
    · subst hbp; rw [upd_same] at e ⊢; exact e
    · rw [upd_ne hbp] at e ⊢; exact h b u e
  · rw [upd_ne (ne_of_none e ip)]; exact e
  · rw [upd_ne (ne_of_none e hp)]; exact e
  · rw [upd_ne (fun z => hb (by rw [z]; exact hp))]; exact hi
theorem Gr.refl' {I0 H0 I H : Hp} {T : List Addr} (h : Wd I0 H0 I H T) : Gr I H I H := .refl h.ih

section
variable {K : PySem.W.Frag} {mg : Str → Option Value} {I H I' H' : Hp}
mutual
theorem Ow.there : ∀ {v : V} {o : O} {T : List Addr}, Ow K mg I H v o T → ∀ p ∈ T, ∃ xs, H p = some (.lst xs)
  | _, _, _, .imm _, _, h => nomatch h
  | _, _, _, .lst h r, p, hp => by
    rcases List.mem_cons.mp hp with e | e
    · subst e; exact ⟨_, h⟩
    · exact Ows.there r p e
theorem Ows.there : ∀ {v : List V} {o : List O} {T : List Addr}, Ows K mg I H v o T → ∀ p ∈ T, ∃ xs, H p = some (.lst xs)
  | _, _, _, .nil, _, h => nomatch h
  | _, _, _, .cons h r, p, hp => by
    rcases List.mem_append.mp hp with e | e
    · exact Ow.there h p e
    · exact Ows.there r p e
end
theorem Sls.there : ∀ {σ : L2.St} {Γ : List SL} {T : List Addr}, Sls K mg I H σ Γ T → ∀ p ∈ T, ∃ xs, H p = some (.lst xs)
  | _, _, _, .nil, _, h => nomatch h
  | _, _, _, .any r, p, hp => Sls.there r p hp
  | _, _, _, .val h r, p, hp => by
    rcases List.mem_append.mp hp with e | e
    · exact Ow.there h p e
    · exact Sls.there r p e
theorem Sls.mono (e : Same I I') : ∀ {σ : L2.St} {Γ : List SL} {T : List Addr}, Sls K mg I H σ Γ T → (∀ p ∈ T, H' p = H p) → Sls K mg I' H' σ Γ T
  | _, _, _, .nil, _ => .nil
  | _, _, _, .any r, k => .any (Sls.mono e r k)
  | _, _, _, .val h r, k => .val (Ow.mono e h fun p hp => k p (List.mem_append_left _ hp)) (Sls.mono e r fun p hp => k p (List.mem_append_right _ hp))
theorem Sls.length : ∀ {σ : L2.St} {Γ : List SL} {T : List Addr}, Sls K mg I H σ Γ T → σ.length = Γ.length
  | _, _, _, .nil => rfl
  | _, _, _, .any r => congrArg (· + 1) (Sls.length r)
  | _, _, _, .val _ r => congrArg (· + 1) (Sls.length r)
theorem Sls.gr {σ : L2.St} {Γ : List SL} {T : List Addr} (s : Sls K mg I H σ Γ T) (g : Gr I H I' H') : Sls K mg I' H' σ Γ T :=
  s.mono g.i0 fun p hp => by
    obtain ⟨xs, e⟩ := s.there p hp
    rw [e]; exact g.h0 p _ e
/-- what a slot holds -/
theorem Sls.get : ∀ {σ : L2.St} {Γ : List SL} {T : List Addr} {i : Nat} {o : O}, Sls K mg I H σ Γ T → Γ[i]? = some (.val o) → ∃ v T1 T2 T3, σ[i]? = some (some v) ∧ T = T1 ++ (T2 ++ T3) ∧ Ow K mg I H v o T2
  | _, _, _, _, _, .nil, h => by simp at h
  | _, _, _, 0, _, .any r, h => by simp at h
  | _, _, _, 0, _, .val (T := T) (T' := T') q r, h => by simp at h; subst h; exact ⟨_, [], T, T', rfl, by simp, q⟩
  | _, _, _, i + 1, _, .any r, h => by
    obtain ⟨v, T1, T2, T3, h1, h2, h3⟩ := Sls.get (i := i) r (by simpa using h)
    exact ⟨v, T1, T2, T3, by simpa using h1, h2, h3⟩
  | _, _, _, i + 1, _, .val (T := T) (T' := T') q r, h => by
    obtain ⟨v, T1, T2, T3, h1, h2, h3⟩ := Sls.get (i := i) r (by simpa using h)
    exact ⟨v, T ++ T1, T2, T3, by simpa using h1, by rw [h2]; simp [List.append_assoc], h3⟩
theorem Sls.imm {σ : L2.St} {Γ : List SL} {T : List Addr} {i : Nat} {d : D} (s : Sls K mg I H σ Γ T) (h : Γ[i]? = some (.val (.imm d))) : ∃ v, σ[i]? = some (some v) ∧ R K mg I v d := by
  obtain ⟨v, T1, T2, T3, h1, h2, h3⟩ := s.get h
  cases h3 with
  | imm r => exact ⟨v, h1, r⟩
/-- a slot is given anew; what stood there goes -/
theorem Sls.put : ∀ {σ : L2.St} {Γ : List SL} {T T2 : List Addr} {i : Nat} {v : V} {o : O}, Sls K mg I H σ Γ T → i < Γ.length → Ow K mg I H v o T2 →
    ∃ T', Sls K mg I H (σ.set i (some v)) (Γ.set i (.val o)) T' ∧ (∀ p, p ∈ T' → p ∈ T2 ∨ p ∈ T) ∧ ((T2 ++ T).Nodup → T'.Nodup)
  | _, _, _, _, i, _, _, .nil, h, _ => by simp at h
  | _, _, _, T2, 0, v, o, .any r, _, q => ⟨_, .val q r, fun p hp => List.mem_append.mp hp, fun n => n⟩
  | _, _, _, T2, 0, v, o, .val (T := T) (T' := T') _ r, _, q => ⟨_, .val q r, fun p hp => (List.mem_append.mp hp).imp id fun z => List.mem_append_right _ z, fun n => by
      refine n.sublist ?_
      exact (List.Sublist.refl _).append (List.sublist_append_right _ _)⟩
  | _, _, _, T2, i + 1, v, o, .any r, h, q => by
    obtain ⟨T', s, k, n⟩ := Sls.put (i := i) r (by simpa using h) q
    exact ⟨T', .any s, k, n⟩
  | _, _, _, T2, i + 1, v, o, .val (T := T) (T' := T') w r, h, q => by
    obtain ⟨T3, s, k, n⟩ := Sls.put (i := i) r (by simpa using h) q
    refine ⟨T ++ T3, .val w s, fun p hp => ?_, fun nd => ?_⟩
    · rcases List.mem_append.mp hp with z | z
      · exact .inr (List.mem_append_left _ z)
      · exact (k p z).imp id fun z => List.mem_append_right _ z
    · obtain ⟨n1, n2, n3⟩ := List.nodup_append.mp nd
      obtain ⟨m1, m2, m3⟩ := List.nodup_append.mp n2
      refine List.nodup_append.mpr ⟨m1, n (List.nodup_append.mpr ⟨n1, m2, fun a ha b hb => n3 a ha b (List.mem_append_right _ hb)⟩), fun a ha b hb => ?_⟩
      rcases k b hb with z | z
      · exact fun e => n3 b z a (List.mem_append_left _ ha) e.symm
      · exact m3 a ha b z
/-- what is forgotten -/
inductive Sub : List SL → List SL → Prop
  | nil : Sub [] []
  | any {a : SL} {Γ Γ' : List SL} : Sub Γ Γ' → Sub (a :: Γ) (.any :: Γ')
  | eq {a : SL} {Γ Γ' : List SL} : Sub Γ Γ' → Sub (a :: Γ) (a :: Γ')
theorem Sub.refl : ∀ Γ, Sub Γ Γ
  | [] => .nil
  | a :: Γ => .eq (Sub.refl Γ)
theorem Sls.sub : ∀ {σ : L2.St} {Γ Γ' : List SL} {T : List Addr}, Sub Γ Γ' → Sls K mg I H σ Γ T → ∃ T', Sls K mg I H σ Γ' T' ∧ T'.Sublist T
  | _, _, _, _, .nil, .nil => ⟨[], .nil, .refl _⟩
  | _, _, _, _, .any w, .any r => let ⟨T', s, k⟩ := Sls.sub w r; ⟨T', .any s, k⟩
  | _, _, _, _, .any w, .val h r => let ⟨T', s, k⟩ := Sls.sub w r; ⟨T', .any s, k.trans (List.sublist_append_right _ _)⟩
  | _, _, _, _, .eq w, .any r => let ⟨T', s, k⟩ := Sls.sub w r; ⟨T', .any s, k⟩
  | _, _, _, _, .eq w, .val h r => let ⟨T', s, k⟩ := Sls.sub w r; ⟨_ ++ T', .val h s, (List.Sublist.refl _).append k⟩
end

/-- an expression's match: immutable world, all, slots -/
structure Mw (K : PySem.W.Frag) (mg : Str → Option Value) (Γ : List SL) (σ : L2.St) (I H : Hp) (T : List Addr) : Prop where
  ih : Same I H
  fr : ∀ p ∈ T, I p = none
  nd : T.Nodup
  sl : Sls K mg I H σ Γ T
theorem Mw.gr {K : PySem.W.Frag} {mg : Str → Option Value} {Γ : List SL} {σ : L2.St} {I H I' H' : Hp} {T : List Addr} (m : Mw K mg Γ σ I H T) (g : Gr I H I' H') : Mw K mg Γ σ I' H' T :=
  ⟨g.ih, fun p hp => g.sep p (by obtain ⟨xs, e⟩ := m.sl.there p hp; rw [e]; simp) (m.fr p hp), m.nd, m.sl.gr g⟩
/-- a statement's -/
structure Mt (K : PySem.W.Frag) (mg : Str → Option Value) (I0 H0 : Hp) (Γ : List SL) (σ : L2.St) (I H : Hp) (T : List Addr) : Prop where
  wd : Wd I0 H0 I H T
  sl : Sls K mg I H σ Γ T
section
variable {K : PySem.W.Frag} {mg : Str → Option Value} {I0 H0 : Hp} {Γ Γ' : List SL} {σ : L2.St} {I H I' H' : Hp} {T : List Addr}
theorem Mt.mw (m : Mt K mg I0 H0 Γ σ I H T) : Mw K mg Γ σ I H T := ⟨m.wd.ih, fun p hp => (m.wd.fr p hp).1, m.wd.nd, m.sl⟩
theorem Mt.gr (m : Mt K mg I0 H0 Γ σ I H T) (g : Gr I H I' H') : Mt K mg I0 H0 Γ σ I' H' T :=
  ⟨m.wd.gr (fun p hp => by obtain ⟨xs, e⟩ := m.sl.there p hp; rw [e]; simp) g, m.sl.gr g⟩
theorem Wd.subl {T' : List Addr} (w : Wd I0 H0 I H T) (h : T'.Sublist T) : Wd I0 H0 I H T' := ⟨w.ih, w.i0, w.h0, fun p hp => w.fr p (h.subset hp), w.nd.sublist h, w.sep⟩
theorem Mt.sub (m : Mt K mg I0 H0 Γ σ I H T) (h : Sub Γ Γ') : ∃ T', Mt K mg I0 H0 Γ' σ I H T' := by
  obtain ⟨T', s, k⟩ := m.sl.sub h
  exact ⟨T', m.wd.subl k, s⟩
theorem Mt.put {i : Nat} {v : V} {o : O} {T2 : List Addr} (m : Mt K mg I0 H0 Γ σ I H T) (hi : i < Γ.length) (q : Ow K mg I H v o T2) (w : Wd I0 H0 I H (T2 ++ T)) :
    ∃ T', Mt K mg I0 H0 (Γ.set i (.val o)) (σ.set i (some v)) I H T' := by
  obtain ⟨T', s, k, n⟩ := m.sl.put hi q
  exact ⟨T', ⟨w.ih, w.i0, w.h0, fun p hp => w.fr p ((k p hp).elim (List.mem_append_left _) (List.mem_append_right _)), n w.nd, w.sep⟩, s⟩
theorem Mt.putI {i : Nat} {v : V} {d : D} (m : Mt K mg I0 H0 Γ σ I H T) (hi : i < Γ.length) (q : R K mg I v d) : ∃ T', Mt K mg I0 H0 (Γ.set i (.val (.imm d))) (σ.set i (some v)) I H T' :=
  m.put hi (.imm q) m.wd
end
end Vc

set_option Elab.async false
set_option linter.all false
set_option maxRecDepth 100000
namespace Vc
open PySem PySem.Spec PyProof.Rows L2

/-! ### typed data -/
class Enc (α : Type) where
  enc : α → D
open Enc (enc)
class Atm (α : Type) [Enc α] : Prop where
  atm : ∀ a : α, atom (enc a) = true
instance : Enc Int := ⟨D.int⟩
instance : Enc Bool := ⟨D.bl⟩
instance : Enc Str := ⟨D.str⟩
instance : Enc Unit := ⟨fun _ => .non⟩
instance {α : Type} [Enc α] : Enc (List α) := ⟨fun l => .lst (l.map enc)⟩
instance {α : Type} [Enc α] : Enc (Option α) := ⟨fun o => match o with | none => .non | some a => enc a⟩
instance {α β : Type} [Enc α] [Enc β] : Enc (α ⊕ β) := ⟨fun o => match o with | .inl a => enc a | .inr a => enc a⟩
instance {α β : Type} [Enc α] [Enc β] : Enc (α × β) := ⟨fun p => .tup [enc p.1, enc p.2]⟩
/-- a tuple of any length -/
structure Tup (α : Type) where
  l : List α
instance {α : Type} [Enc α] : Enc (Tup α) := ⟨fun p => .tup (p.l.map enc)⟩
structure T3 (α β γ : Type) where
  a : α
  b : β
  c : γ
  deriving DecidableEq
structure T4 (α β γ δ : Type) where
  a : α
  b : β
  c : γ
  d : δ
  deriving DecidableEq
structure T5 (α β γ δ ε : Type) where
  a : α
  b : β
  c : γ
  d : δ
  e : ε
  deriving DecidableEq
instance {α β γ : Type} [Enc α] [Enc β] [Enc γ] : Enc (T3 α β γ) := ⟨fun p => .tup [enc p.a, enc p.b, enc p.c]⟩
instance {α β γ δ : Type} [Enc α] [Enc β] [Enc γ] [Enc δ] : Enc (T4 α β γ δ) := ⟨fun p => .tup [enc p.a, enc p.b, enc p.c, enc p.d]⟩
instance {α β γ δ ε : Type} [Enc α] [Enc β] [Enc γ] [Enc δ] [Enc ε] : Enc (T5 α β γ δ ε) := ⟨fun p => .tup [enc p.a, enc p.b, enc p.c, enc p.d, enc p.e]⟩
instance : Atm Int := ⟨fun _ => rfl⟩
instance : Atm Bool := ⟨fun _ => rfl⟩
instance : Atm Str := ⟨fun _ => rfl⟩
instance : Atm Unit := ⟨fun _ => rfl⟩
instance {α : Type} [Enc α] [Atm α] : Atm (Option α) := ⟨fun o => match o with | none => rfl | some a => Atm.atm a⟩
instance {α β : Type} [Enc α] [Enc β] [Atm α] [Atm β] : Atm (α ⊕ β) := ⟨fun o => match o with | .inl a => Atm.atm a | .inr a => Atm.atm a⟩

abbrev sI {α : Type} [Enc α] (a : α) : SL := .val (.imm (enc a))
/-- an owned list -/
def ow1 {α : Type} [Enc α] (l : List α) : O := .lst (l.map fun a => O.imm (enc a))
/-- an owned list of owned lists -/
def ow2 {α : Type} [Enc α] (l : List (List α)) : O := .lst (l.map ow1)
abbrev sO {α : Type} [Enc α] (l : List α) : SL := .val (ow1 l)
theorem ow1_toD {α : Type} [Enc α] (l : List α) : (ow1 l).toD = enc l := by
  unfold ow1
  rw [O.toD_lst]
  show D.lst _ = D.lst _
  rw [List.map_map]
  congr 1
  apply List.map_congr_left
  intro a _
  exact O.toD_imm _

/-! ### exceptions -/
structure ExcAt (K : PySem.W.Frag) (mg : Str → Option Value) (I : Hp) (ex : Exn) (cl : Value) (d : Option Addr) : Prop where
  cls : mg ex.nm = some cl
  non : ex.fs = [] → d = none
  fld : ex.fs ≠ [] → ∃ dd vs, d = some dd ∧ I dd = some (.xd vs) ∧ RF K mg I vs ex.fs

/-! ### canonical readings -/
structure tOf (X : Cx) (e : Expr) (σ : L2.St) (H : Hp) (Q : VK) : Prop where
  run : ∀ pins s, Inv X pins σ H s → wpAny (model X.prog X.w) X.A (eval e X.env) (EP X pins σ Q) X.xe s
structure kOf (X : Cx) (e : Expr) (σ : L2.St) (H : Hp) (Q : Bool → Hp → Prop) : Prop where
  run : ∀ pins s, Inv X pins σ H s → wpAny (model X.prog X.w) X.A (isTrue e X.env (eval e X.env)) (TP X pins σ Q) X.xe s
structure wOf (X : Cx) (e : Expr) (σ : L2.St) (H : Hp) (Q : Bool → Hp → Prop) : Prop where
  run : ∀ whole pins s, Inv X pins σ H s → wpAny (model X.prog X.w) X.A (isTrue e X.env whole) (TP X pins σ Q) X.xe s
structure aOf (X : Cx) (es : List Expr) (σ : L2.St) (H : Hp) (Q : List V → Hp → Prop) : Prop where
  run : ∀ pos pins s, Inv X pins σ H s → wpAny (model X.prog X.w) X.A (spliced (backTo pos (starEach es X.env))) (AP X pins σ Q) X.xe s
structure sOf (X : Cx) (st : List Stmt) (D : Ends) (σ : L2.St) (H : Hp) : Prop where
  run : ∀ pins s, Inv X pins σ H s → wpAny (model X.prog X.w) X.A (execs st X.env) (SP X pins D) X.xe s
structure s1Of (X : Cx) (st : Stmt) (D : Ends) (σ : L2.St) (H : Hp) : Prop where
  run : ∀ pins s, Inv X pins σ H s → wpAny (model X.prog X.w) X.A (exec st X.env) (SP X pins D) X.xe s
structure gOf (X : Cx) (tg : Expr) (v : V) (σ : L2.St) (H : Hp) (Q : L2.St → Hp → Prop) : Prop where
  run : ∀ pins s u, Inv X pins σ H s → RelV v u → wpAny (model X.prog X.w) X.A (assign tg X.env u) (fun _ s' => ∃ σ' H', Inv X pins σ' H' s' ∧ Q σ' H') X.xe s
structure gsOf (X : Cx) (ts : List Expr) (vs : List V) (σ : L2.St) (H : Hp) (Q : L2.St → Hp → Prop) : Prop where
  run : ∀ pins s us, Inv X pins σ H s → Vals vs us → wpAny (model X.prog X.w) X.A (assignInOrder ((assignEach ts X.env).map (·.2)) us) (fun _ s' => ∃ σ' H', Inv X pins σ' H' s' ∧ Q σ' H') X.xe s
structure iOf (X : Cx) (tg e : Expr) (σ : L2.St) (H : Hp) (R : It → Hp → Prop) : Prop where
  run : ∀ pins s, Inv X pins σ H s → wpAny (model X.prog X.w) X.A (eval e X.env) (fun v s1 => wpAny (model X.prog X.w) X.A (pyIter v) (PIE X pins σ tg R) X.xe s1) X.xe s
section
variable {X : Cx} {e tg : Expr} {es : List Expr} {st : Stmt} {sts : List Stmt}
theorem pe_of : PE X e (tOf X e) := ⟨fun pins s σ H Q I h => h.run pins s I⟩
theorem pt_of : PT X e (kOf X e) := ⟨fun pins s σ H Q I h => h.run pins s I⟩
theorem pw_of : PW X e (wOf X e) := ⟨fun wh pins s σ H Q I h => h.run wh pins s I⟩
theorem pa_of : PA X es (aOf X es) := ⟨fun pos pins s σ H Q I h => h.run pos pins s I⟩
theorem pss_of : PSs X sts (sOf X sts) := ⟨fun pins s σ H D I h => h.run pins s I⟩
theorem ps_of : PS X st (s1Of X st) := ⟨fun pins s σ H D I h => h.run pins s I⟩
theorem pg_of : PG X tg (gOf X tg) := ⟨fun pins s σ H v u Q I r h => h.run pins s u I r⟩
theorem pgs_of : PGs X es (gsOf X es) := ⟨fun pins s σ H v u Q I r h => h.run pins s u I r⟩
theorem pi_of : PI X tg e (iOf X tg e) := ⟨fun pins s σ H R I h => h.run pins s I⟩
theorem to_t {t : TE} {σ : L2.St} {H : Hp} {Q : VK} (p : PE X e t) (h : t σ H Q) : tOf X e σ H Q := ⟨fun pins s I => p.run pins s σ H Q I h⟩
theorem to_k {t : TT} {σ : L2.St} {H : Hp} {Q : Bool → Hp → Prop} (p : PT X e t) (h : t σ H Q) : kOf X e σ H Q := ⟨fun pins s I => p.run pins s σ H Q I h⟩
theorem to_w {t : TT} {σ : L2.St} {H : Hp} {Q : Bool → Hp → Prop} (p : PW X e t) (h : t σ H Q) : wOf X e σ H Q := ⟨fun wh pins s I => p.run wh pins s σ H Q I h⟩
theorem to_a {t : TA} {σ : L2.St} {H : Hp} {Q : List V → Hp → Prop} (p : PA X es t) (h : t σ H Q) : aOf X es σ H Q := ⟨fun pos pins s I => p.run pos pins s σ H Q I h⟩
theorem to_s {t : TS} {σ : L2.St} {H : Hp} {D : Ends} (p : PSs X sts t) (h : t D σ H) : sOf X sts D σ H := ⟨fun pins s I => p.run pins s σ H D I h⟩
theorem to_s1 {t : TS} {σ : L2.St} {H : Hp} {D : Ends} (p : PS X st t) (h : t D σ H) : s1Of X st D σ H := ⟨fun pins s I => p.run pins s σ H D I h⟩
theorem to_g {t : TG} {v : V} {σ : L2.St} {H : Hp} {Q : L2.St → Hp → Prop} (p : PG X tg t) (h : t v σ H Q) : gOf X tg v σ H Q := ⟨fun pins s u I r => p.run pins s σ H v u Q I r h⟩
theorem to_gs {t : TGs} {v : List V} {σ : L2.St} {H : Hp} {Q : L2.St → Hp → Prop} (p : PGs X es t) (h : t v σ H Q) : gsOf X es v σ H Q := ⟨fun pins s u I r => p.run pins s σ H v u Q I r h⟩
theorem to_i {t : TI} {σ : L2.St} {H : Hp} {R : It → Hp → Prop} (p : PI X tg e t) (h : t σ H R) : iOf X tg e σ H R := ⟨fun pins s I => p.run pins s σ H R I h⟩
end

/-! ### judgements -/
/-- where the value may be read: all that stands (true), or the immutable world -/
def wsel (b : Bool) (I H : Hp) : Hp := if b then H else I
theorem wsel_same {b : Bool} {I H I' H' : Hp} (g : Gr I H I' H') : Same (wsel b I H) (wsel b I' H') := by
  cases b
  · exact g.i0
  · exact g.h0
theorem wsel_le {b : Bool} {I H : Hp} (h : Same I H) : Same (wsel b I H) H := by
  cases b
  · exact h
  · exact .refl _
def XO (X : Cx) (W : WX) (σ : L2.St) (I H : Hp) (ex : Exn) : Prop := ∀ cl d I' H', Gr I H I' H' → ExcAt X.K X.mg I' ex cl d → W cl d σ H'
/-- e's value in Γ is m's -/
def VX (b : Bool) (X : Cx) (Γ : List SL) (e : Expr) {α : Type} [Enc α] (m : M α) : Prop :=
  ∀ (W : WX), L2N.Takes X W → ∀ σ I H T, Mw X.K X.mg Γ σ I H T → ∀ Q : VK,
    Out m (fun a => ∀ v I' H', Gr I H I' H' → R X.K X.mg (wsel b I' H') v (enc a) → Q v H') (XO X W σ I H) → tOf X e σ H Q
abbrev VE (X : Cx) (Γ : List SL) (e : Expr) {α : Type} [Enc α] (m : M α) : Prop := VX false X Γ e m
/-- the value is new and owned -/
def VO (X : Cx) (Γ : List SL) (e : Expr) {α : Type} (o : α → O) (m : M α) : Prop :=
  ∀ (W : WX), L2N.Takes X W → ∀ σ I H T, Mw X.K X.mg Γ σ I H T → ∀ Q : VK,
    Out m (fun a => ∀ v I' H' T2, Wd I H I' H' T2 → Ow X.K X.mg I' H' v (o a) T2 → Q v H') (XO X W σ I H) → tOf X e σ H Q
/-- a test -/
def VT (X : Cx) (Γ : List SL) (e : Expr) (m : M Bool) : Prop :=
  ∀ (W : WX), L2N.Takes X W → ∀ σ I H T, Mw X.K X.mg Γ σ I H T → ∀ Q : Bool → Hp → Prop,
    Out m (fun a => ∀ I' H', Gr I H I' H' → Q a H') (XO X W σ I H) → kOf X e σ H Q
def VW (X : Cx) (Γ : List SL) (e : Expr) (m : M Bool) : Prop :=
  ∀ (W : WX), L2N.Takes X W → ∀ σ I H T, Mw X.K X.mg Γ σ I H T → ∀ Q : Bool → Hp → Prop,
    Out m (fun a => ∀ I' H', Gr I H I' H' → Q a H') (XO X W σ I H) → wOf X e σ H Q
/-- arguments -/
def VA (b : Bool) (X : Cx) (Γ : List SL) (es : List Expr) {A : Type} (ea : A → List D) (m : M A) : Prop :=
  ∀ (W : WX), L2N.Takes X W → ∀ σ I H T, Mw X.K X.mg Γ σ I H T → ∀ Q : List V → Hp → Prop,
    Out m (fun a => ∀ vs I' H', Gr I H I' H' → Rs X.K X.mg (wsel b I' H') vs (ea a) → Q vs H') (XO X W σ I H) → aOf X es σ H Q

theorem XO.gr {X : Cx} {W : WX} {σ : L2.St} {I H I' H' : Hp} {ex : Exn} (h : XO X W σ I H ex) (g : Gr I H I' H') : XO X W σ I' H' ex := fun cl d I2 H2 g2 a => h cl d I2 H2 (g.trans g2) a

section
variable {X : Cx} {Γ : List SL} {e a b c : Expr} {es : List Expr} {pos : Pos} {α β γ : Type} [Enc α] [Enc β] [Enc γ] {w w' : Bool}
theorem VX.le {m : M α} (h : VE X Γ e m) : VX w X Γ e m := fun W tk σ I H T mw Q o => h W tk σ I H T mw Q (o.mono (fun a _ k v I' H' g r => k v I' H' g (by
  cases w
  · exact r
  · exact r.mono g.ih)) fun _ _ k => k)
theorem VX.br {m : M α} (h : VX w X Γ e m) : VX true X Γ e m := fun W tk σ I H T mw Q o => h W tk σ I H T mw Q (o.mono (fun a _ k v I' H' g r => k v I' H' g (by
  cases w
  · exact r.mono g.ih
  · exact r)) fun _ _ k => k)
theorem VX.atm [Atm α] {m : M α} (h : VX w X Γ e m) : VX w' X Γ e m := fun W tk σ I H T mw Q o => h W tk σ I H T mw Q (o.mono (fun a _ k v I' H' g r => k v I' H' g (r.atom (Atm.atm a))) fun _ _ k => k)
/-- what the reading of an expression asks, from what is known of its values -/
theorem VX.ap {m : M α} (h : VX w X Γ e m) {W : WX} (tk : L2N.Takes X W) {σ : L2.St} {I H : Hp} {T : List Addr} (mw : Mw X.K X.mg Γ σ I H T) {Q : VK} {P : α → Prop} {E : Exn → Prop} (o : Out m P E)
    (hP : ∀ a, m = .ok a → P a → ∀ v I' H', Gr I H I' H' → R X.K X.mg (wsel w I' H') v (enc a) → Q v H') (hE : ∀ ex, E ex → XO X W σ I H ex) : tOf X e σ H Q :=
  h W tk σ I H T mw Q (o.mono hP fun ex _ k => hE ex k)
theorem VX.congr {m m' : M α} (h : VX w X Γ e m) (q : m = m') : VX w X Γ e m' := q ▸ h

/-! ### names, constants -/
theorem ve_var (i : Nat) {x : Str} {p : Pos} {a : α} (hΓ : Γ[i]? = some (sI a) := by rfl) (hN : X.N[i]? = some x := by rfl) (hv : Vis X.env.scope x := by first | exact Or.inl rfl | exact Or.inr (Or.inl rfl) | exact Or.inr (Or.inr rfl))
    (hd : (x == ("__debug__" : Str)) = false := by decide) (hcd : (x == ("__classdict__" : Str)) = false := by decide) : VX w X Γ (.Name x p) (.ok a) := fun W tk σ I H T mw Q o => by
  obtain ⟨v, h1, r⟩ := mw.sl.imm hΓ
  exact to_t (pe_var hN hv hd hcd) ⟨v, h1, o v I H (.refl mw.ih) (by
    cases w
    · exact r
    · exact r.mono mw.ih)⟩
/-- an owned name, read -/
theorem vb_own (i : Nat) {x : Str} {p : Pos} {l : List α} (hΓ : Γ[i]? = some (sO l) := by rfl) (hN : X.N[i]? = some x := by rfl) (hv : Vis X.env.scope x := by first | exact Or.inl rfl | exact Or.inr (Or.inl rfl) | exact Or.inr (Or.inr rfl))
    (hd : (x == ("__debug__" : Str)) = false := by decide) (hcd : (x == ("__classdict__" : Str)) = false := by decide) : VX true X Γ (.Name x p) (M.ok l) := fun W tk σ I H T mw Q o => by
  obtain ⟨v, T1, T2, T3, h1, h2, r⟩ := mw.sl.get hΓ
  refine to_t (pe_var hN hv hd hcd) ⟨v, h1, o v I H (.refl mw.ih) ?_⟩
  have q := r.toR (G := H) mw.ih fun _ _ => rfl
  rw [ow1_toD] at q
  exact q
theorem ve_int {i : Int} {j : Nat} : VX w X Γ (.Constant (.int i) j pos) (M.ok i) := fun W tk σ I H T mw Q o => to_t pe_int (o _ I H (.refl mw.ih) (.int i))
theorem ve_bl {i : Bool} {j : Nat} : VX w X Γ (.Constant (.bool i) j pos) (M.ok i) := fun W tk σ I H T mw Q o => to_t pe_bl (o _ I H (.refl mw.ih) (.bl i))
theorem ve_str {i : Str} {j : Nat} : VX w X Γ (.Constant (.str i) j pos) (M.ok i) := fun W tk σ I H T mw Q o => to_t pe_str (o _ I H (.refl mw.ih) (.str i))
theorem ve_non {j : Nat} : VX w X Γ (.Constant .none j pos) (M.ok ()) := fun W tk σ I H T mw Q o => to_t pe_non (o _ I H (.refl mw.ih) .non)
/-- a constant of the module -/
theorem ve_glob {x : Str} {v : V} {u : Value} {p : Pos} {a : α} (hg : Gl X x) (hm : X.mg x = some u) (r : RelV v u) (h : ∀ H, R X.K X.mg H v (enc a)) (hd : (x == ("__debug__" : Str)) = false := by decide) : VX w X Γ (.Name x p) (.ok a) :=
  fun W tk σ I H T mw Q o => to_t (pe_glob hg hm r hd) (o _ I H (.refl mw.ih) (h _))

/-! ### operators -/
/-- an operator that takes values to a value -/
theorem ve_bin {op : Operator} {r : R2} {m1 : M α} {m2 : M β} {f : α → β → M γ} (ho : OpR X (binaryOp op) r) (ha : VX true X Γ a m1) (hb : VX true X Γ b m2)
    (hr : ∀ x y I H v u, Same I H → R X.K X.mg H v (enc x) → R X.K X.mg H u (enc y) → ∀ Q : VK, Out (f x y) (fun z => ∀ t I' H', Gr I H I' H' → R X.K X.mg (wsel w I' H') t (enc z) → Q t H') (fun _ => False) → r v u H Q)
    (hx : ∀ x y e, f x y ≠ .exc e) : VX w X Γ (.BinOp a op b pos) (m1 >>= fun x => m2 >>= fun y => f x y) := fun W tk σ I H T mw Q o => by
  refine to_t (pe_op ho pe_of pe_of) (ha.ap tk mw o.bind (fun x _ o1 v I1 H1 g1 r1 => ?_) fun _ z => z)
  refine hb.ap tk (mw.gr g1) o1.bind (fun y _ o2 u I2 H2 g2 r2 => ?_) fun _ z => z.gr g1
  refine hr x y I2 H2 v u g2.ih (r1.mono g2.h0) r2 Q (o2.mono (fun z _ k t I' H' g rr => k t I' H' ((g1.trans g2).trans g) rr) fun e q _ => hx x y e q)
theorem ve_binI {op : Operator} {g : Int → Int → Int} {m1 m2 : M Int} (ho : OpR X (binaryOp op) (rI0 fun i j => .int (g i j))) (ha : VX true X Γ a m1) (hb : VX true X Γ b m2) : VX w X Γ (.BinOp a op b pos) (m1 >>= fun x => m2 >>= fun y => M.ok (g x y)) :=
  ve_bin ho ha hb (fun x y I H v u s r1 r2 Q o => by
    cases r1; cases r2
    exact ⟨x, y, rfl, rfl, o _ I H (.refl s) (.int _)⟩) fun _ _ _ z => nomatch z
theorem ve_binC {op : Operator} {C : Int → Int → Prop} [∀ x y, Decidable (C x y)] {g : Int → Int → Int} {m1 m2 : M Int} (ho : OpR X (binaryOp op) (rI C fun i j => .int (g i j))) (ha : VX true X Γ a m1) (hb : VX true X Γ b m2) :
    VX w X Γ (.BinOp a op b pos) (m1 >>= fun x => m2 >>= fun y => chk (C x y) >>= fun _ => M.ok (g x y)) :=
  ve_bin ho ha hb (fun x y I H v u s r1 r2 Q o => by
    cases r1; cases r2
    obtain ⟨hc, o⟩ := o.chk
    exact ⟨x, y, rfl, rfl, hc, o _ I H (.refl s) (.int _)⟩) fun _ _ _ z => by unfold chk at z; split at z <;> cases z
theorem ve_neg {m : M Int} (ha : VX true X Γ a m) : VX w X Γ (.UnaryOp .USub a pos) (m >>= fun x => M.ok (-x)) := fun W tk σ I H T mw Q o => by
  refine to_t (pe_un un_neg pe_of) (ha.ap tk mw o.bind (fun x _ o1 v I1 H1 g1 r1 => ?_) fun _ z => z)
  cases r1
  exact ⟨x, rfl, o1 _ I1 H1 g1 (.int _)⟩
/-- comparisons of ints -/
theorem ve_cmp {op : CmpOp} {r : R2} {m1 : M α} {m2 : M β} {f : α → β → M Bool} (ho : OpR X (compareOp op) r) (ha : VX true X Γ a m1) (hb : VX true X Γ b m2) (hm : behindInMarks op b = false)
    (hr : ∀ x y H v u, R X.K X.mg H v (enc x) → R X.K X.mg H u (enc y) → ∀ Q : VK, Out (f x y) (fun z => Q (.bl z) H) (fun _ => False) → r v u H Q) (hx : ∀ x y e, f x y ≠ .exc e) : VX w X Γ (.Compare a [op] [b] pos) (m1 >>= fun x => m2 >>= fun y => f x y) := fun W tk σ I H T mw Q o => by
  refine to_t (pe_cmpR ho pe_of pe_of hm) (ha.ap tk mw o.bind (fun x _ o1 v I1 H1 g1 r1 => ?_) fun _ z => z)
  refine hb.ap tk (mw.gr g1) o1.bind (fun y _ o2 u I2 H2 g2 r2 => ?_) fun _ z => z.gr g1
  refine hr x y H2 v u (r1.mono g2.h0) r2 Q (o2.mono (fun z _ k => k _ I2 H2 (g1.trans g2) (.bl z)) fun e q _ => hx x y e q)
theorem vt_cmp {op : CmpOp} {r : R2} {m1 : M α} {m2 : M β} {f : α → β → M Bool} (ho : OpR X (compareOp op) r) (ha : VX true X Γ a m1) (hb : VX true X Γ b m2) (hm : behindInMarks op b = false)
    (hr : ∀ x y H v u, R X.K X.mg H v (enc x) → R X.K X.mg H u (enc y) → ∀ Q : VK, Out (f x y) (fun z => Q (.bl z) H) (fun _ => False) → r v u H Q) (hx : ∀ x y e, f x y ≠ .exc e) : VT X Γ (.Compare a [op] [b] pos) (m1 >>= fun x => m2 >>= fun y => f x y) := fun W tk σ I H T mw Q o => by
  refine to_k (pt_cmpR ho pe_of pe_of hm) (ha.ap tk mw o.bind (fun x _ o1 v I1 H1 g1 r1 => ?_) fun _ z => z)
  refine hb.ap tk (mw.gr g1) o1.bind (fun y _ o2 u I2 H2 g2 r2 => ?_) fun _ z => z.gr g1
  refine hr x y H2 v u (r1.mono g2.h0) r2 _ (o2.mono (fun z _ k => ⟨z, rfl, k I2 H2 (g1.trans g2)⟩) fun e q _ => hx x y e q)
theorem ve_cmpI {op : CmpOp} {p : Int → Int → Bool} {m1 m2 : M Int} (ho : OpR X (compareOp op) (rI0 fun i j => .bl (p i j))) (ha : VX true X Γ a m1) (hb : VX true X Γ b m2) (hm : behindInMarks op b = false) :
    VX w X Γ (.Compare a [op] [b] pos) (m1 >>= fun x => m2 >>= fun y => M.ok (p x y)) := ve_cmp ho ha hb hm (fun x y H v u r1 r2 Q o => by
    cases r1; cases r2
    exact ⟨x, y, rfl, rfl, o⟩) fun _ _ _ z => nomatch z
theorem vt_cmpI {op : CmpOp} {p : Int → Int → Bool} {m1 m2 : M Int} (ho : OpR X (compareOp op) (rI0 fun i j => .bl (p i j))) (ha : VX true X Γ a m1) (hb : VX true X Γ b m2) (hm : behindInMarks op b = false) :
    VT X Γ (.Compare a [op] [b] pos) (m1 >>= fun x => m2 >>= fun y => M.ok (p x y)) := vt_cmp ho ha hb hm (fun x y H v u r1 r2 Q o => by
    cases r1; cases r2
    exact ⟨x, y, rfl, rfl, o⟩) fun _ _ _ z => nomatch z
/-! scalars by == -/
class Scl (α : Type) [Enc α] [DecidableEq α] : Prop where
  eq : ∀ (K : PySem.W.Frag) (mg : Str → Option Value) (H : Hp) (x y : α) (v u : V), R K mg H v (enc x) → R K mg H u (enc y) → scal v u = true ∧ decide (v = u) = decide (x = y)
instance : Scl Int := ⟨fun K mg H x y v u a b => by cases a; cases b; exact ⟨rfl, by rw [dec_int]; by_cases h : x = y <;> simp [h]⟩⟩
instance : Scl Bool := ⟨fun K mg H x y v u a b => by cases a; cases b; exact ⟨rfl, by rw [dec_bl]; by_cases h : x = y <;> simp [h]⟩⟩
instance : Scl Str := ⟨fun K mg H x y v u a b => by cases a; cases b; exact ⟨rfl, by rw [dec_str]; by_cases h : x = y <;> simp [h]⟩⟩
variable [DecidableEq α] [Scl α]
theorem ve_eq {m1 m2 : M α} (ha : VX true X Γ a m1) (hb : VX true X Γ b m2) : VX w X Γ (.Compare a [.Eq] [b] pos) (m1 >>= fun x => m2 >>= fun y => M.ok (decide (x = y))) := ve_cmp op_eq ha hb (nomark _) (fun x y H v u r1 r2 Q o => by
    obtain ⟨h1, h2⟩ := Scl.eq X.K X.mg H x y v u r1 r2
    exact ⟨h1, by rw [h2]; exact o⟩) fun _ _ _ z => nomatch z
theorem vt_eq {m1 m2 : M α} (ha : VX true X Γ a m1) (hb : VX true X Γ b m2) : VT X Γ (.Compare a [.Eq] [b] pos) (m1 >>= fun x => m2 >>= fun y => M.ok (decide (x = y))) := vt_cmp op_eq ha hb (nomark _) (fun x y H v u r1 r2 Q o => by
    obtain ⟨h1, h2⟩ := Scl.eq X.K X.mg H x y v u r1 r2
    exact ⟨h1, by rw [h2]; exact o⟩) fun _ _ _ z => nomatch z
theorem ve_ne {m1 m2 : M α} (ha : VX true X Γ a m1) (hb : VX true X Γ b m2) : VX w X Γ (.Compare a [.NotEq] [b] pos) (m1 >>= fun x => m2 >>= fun y => M.ok (!decide (x = y))) := ve_cmp op_ne ha hb (nomark _) (fun x y H v u r1 r2 Q o => by
    obtain ⟨h1, h2⟩ := Scl.eq X.K X.mg H x y v u r1 r2
    exact ⟨h1, by rw [h2]; exact o⟩) fun _ _ _ z => nomatch z
theorem vt_ne {m1 m2 : M α} (ha : VX true X Γ a m1) (hb : VX true X Γ b m2) : VT X Γ (.Compare a [.NotEq] [b] pos) (m1 >>= fun x => m2 >>= fun y => M.ok (!decide (x = y))) := vt_cmp op_ne ha hb (nomark _) (fun x y H v u r1 r2 Q o => by
    obtain ⟨h1, h2⟩ := Scl.eq X.K X.mg H x y v u r1 r2
    exact ⟨h1, by rw [h2]; exact o⟩) fun _ _ _ z => nomatch z
end

/-! ### tests -/
section
variable {X : Cx} {Γ : List SL} {e a b c : Expr} {rest : List Expr} {pos : Pos} {α β γ : Type} [Enc α] {w w' : Bool}
theorem vt_val {m : M Bool} (h : VX true X Γ e m) (he : ∀ whole, isTrue e X.env whole = (do let v ← whole; standAt e.pos; holding [v] (truthy v)) := by intro _; rfl) : VT X Γ e m := fun W tk σ I H T mw Q o =>
  to_k (pt_val pe_of he) (h W tk σ I H T mw _ (o.mono (fun k _ z v I' H' g r => by cases r; exact ⟨k, rfl, z I' H' g⟩) fun _ _ z => z))
theorem VT.ap {m : M Bool} (h : VT X Γ e m) {W : WX} (tk : L2N.Takes X W) {σ : L2.St} {I H : Hp} {T : List Addr} (mw : Mw X.K X.mg Γ σ I H T) {Q : Bool → Hp → Prop} {P : Bool → Prop} {E : Exn → Prop} (o : Out m P E)
    (hP : ∀ a, m = .ok a → P a → ∀ I' H', Gr I H I' H' → Q a H') (hE : ∀ ex, E ex → XO X W σ I H ex) : kOf X e σ H Q := h W tk σ I H T mw Q (o.mono hP fun ex _ k => hE ex k)
theorem VW.ap {m : M Bool} (h : VW X Γ e m) {W : WX} (tk : L2N.Takes X W) {σ : L2.St} {I H : Hp} {T : List Addr} (mw : Mw X.K X.mg Γ σ I H T) {Q : Bool → Hp → Prop} {P : Bool → Prop} {E : Exn → Prop} (o : Out m P E)
    (hP : ∀ a, m = .ok a → P a → ∀ I' H', Gr I H I' H' → Q a H') (hE : ∀ ex, E ex → XO X W σ I H ex) : wOf X e σ H Q := h W tk σ I H T mw Q (o.mono hP fun ex _ k => hE ex k)
theorem VW.vt {m : M Bool} (h : VW X Γ e m) : VT X Γ e m := fun W tk σ I H T mw Q o => to_k pw_of.pt (h W tk σ I H T mw Q o)
theorem vw_and1 {m : M Bool} (h : VT X Γ a m) : VW X Γ (.BoolOp .And [a] pos) m := fun W tk σ I H T mw Q o => to_w (pw_and1 pt_of) (h W tk σ I H T mw Q o)
theorem vw_or1 {m : M Bool} (h : VT X Γ a m) : VW X Γ (.BoolOp .Or [a] pos) m := fun W tk σ I H T mw Q o => to_w (pw_or1 pt_of) (h W tk σ I H T mw Q o)
/-- a and b, a or b, by what is known -/
def bAnd (m1 m2 : M Bool) : M Bool := m1 >>= fun x => if x then m2 else .ok false
def bOr (m1 m2 : M Bool) : M Bool := m1 >>= fun x => if x then .ok true else m2
@[simp] theorem bAnd_t (m : M Bool) : bAnd (.ok true) m = m := rfl
@[simp] theorem bAnd_f (m : M Bool) : bAnd (.ok false) m = .ok false := rfl
@[simp] theorem bOr_t (m : M Bool) : bOr (.ok true) m = .ok true := rfl
@[simp] theorem bOr_f (m : M Bool) : bOr (.ok false) m = m := rfl
theorem bAnd_ok (x y : Bool) : bAnd (.ok x) (.ok y) = .ok (x && y) := by cases x <;> rfl
theorem bOr_ok (x y : Bool) : bOr (.ok x) (.ok y) = .ok (x || y) := by cases x <;> rfl
theorem vw_and {m1 m2 : M Bool} (h : VT X Γ a m1) (h2 : VW X Γ (.BoolOp .And (b :: rest) pos) m2) : VW X Γ (.BoolOp .And (a :: b :: rest) pos) (bAnd m1 m2) := fun W tk σ I H T mw Q o => by
  refine to_w (pw_and pt_of pw_of) (h.ap tk mw o.bind (fun x _ o1 I1 H1 g1 => ?_) fun _ z => z)
  cases x with
  | true => exact iteT (h2.ap tk (mw.gr g1) o1 (fun y _ k I2 H2 g2 => k I2 H2 (g1.trans g2)) fun _ z => z.gr g1)
  | false => exact iteF (o1 I1 H1 g1)
theorem vw_or {m1 m2 : M Bool} (h : VT X Γ a m1) (h2 : VW X Γ (.BoolOp .Or (b :: rest) pos) m2) : VW X Γ (.BoolOp .Or (a :: b :: rest) pos) (bOr m1 m2) := fun W tk σ I H T mw Q o => by
  refine to_w (pw_or pt_of pw_of) (h.ap tk mw o.bind (fun x _ o1 I1 H1 g1 => ?_) fun _ z => z)
  cases x with
  | true => exact iteT (o1 I1 H1 g1)
  | false => exact iteF (h2.ap tk (mw.gr g1) o1 (fun y _ k I2 H2 g2 => k I2 H2 (g1.trans g2)) fun _ z => z.gr g1)
theorem vt_not {m : M Bool} (h : VT X Γ a m) : VT X Γ (.UnaryOp .Not a pos) (m >>= fun x => M.ok (!x)) := fun W tk σ I H T mw Q o =>
  to_k (pt_not pt_of) (h.ap tk mw o.bind (fun x _ o1 I1 H1 g1 => o1 I1 H1 g1) fun _ z => z)
/-! values of and, or, not -/
theorem ve_one {op : BoolOp} {m : M Bool} (h : VX w X Γ a m) : VX w X Γ (.BoolOp op [a] pos) m := fun W tk σ I H T mw Q o => to_t (pe_one pe_of) (h W tk σ I H T mw Q o)
theorem ve_and {m1 m2 : M Bool} (h : VX true X Γ a m1) (h2 : VX true X Γ (.BoolOp .And (b :: rest) pos) m2) : VX w X Γ (.BoolOp .And (a :: b :: rest) pos) (bAnd m1 m2) := fun W tk σ I H T mw Q o => by
  refine to_t (pe_and pe_of pe_of) (h.ap tk mw o.bind (fun x _ o1 v I1 H1 g1 r1 => ?_) fun _ z => z)
  cases r1
  refine ⟨x, rfl, ?_⟩
  cases x with
  | true => exact iteT (h2.ap tk (mw.gr g1) o1 (fun y _ k u I2 H2 g2 r2 => k u I2 H2 (g1.trans g2) (by cases r2; exact .bl y)) fun _ z => z.gr g1)
  | false => exact iteF (o1 _ I1 H1 g1 (.bl _))
theorem ve_or {m1 m2 : M Bool} (h : VX true X Γ a m1) (h2 : VX true X Γ (.BoolOp .Or (b :: rest) pos) m2) : VX w X Γ (.BoolOp .Or (a :: b :: rest) pos) (bOr m1 m2) := fun W tk σ I H T mw Q o => by
  refine to_t (pe_or pe_of pe_of) (h.ap tk mw o.bind (fun x _ o1 v I1 H1 g1 r1 => ?_) fun _ z => z)
  cases r1
  refine ⟨x, rfl, ?_⟩
  cases x with
  | true => exact iteT (o1 _ I1 H1 g1 (.bl _))
  | false => exact iteF (h2.ap tk (mw.gr g1) o1 (fun y _ k u I2 H2 g2 r2 => k u I2 H2 (g1.trans g2) (by cases r2; exact .bl y)) fun _ z => z.gr g1)
theorem ve_not {m : M Bool} (h : VX true X Γ a m) : VX w X Γ (.UnaryOp .Not a pos) (m >>= fun x => M.ok (!x)) := fun W tk σ I H T mw Q o =>
  to_t (pe_not pe_of) (h.ap tk mw o.bind (fun x _ o1 v I1 H1 g1 r1 => by cases r1; exact ⟨x, rfl, o1 _ I1 H1 g1 (.bl _)⟩) fun _ z => z)
theorem ve_ite {m : M Bool} {m1 m2 : M α} (h : VT X Γ c m) (h1 : VX w X Γ a m1) (h2 : VX w X Γ b m2) : VX w X Γ (.IfExp c a b pos) (m >>= fun x => if x then m1 else m2) := fun W tk σ I H T mw Q o => by
  refine to_t (pe_ifExp pt_of pe_of pe_of) (h.ap tk mw o.bind (fun x _ o1 I1 H1 g1 => ?_) fun _ z => z)
  cases x with
  | true => exact iteT (h1.ap tk (mw.gr g1) o1 (fun y _ k u I2 H2 g2 r2 => k u I2 H2 (g1.trans g2) r2) fun _ z => z.gr g1)
  | false => exact iteF (h2.ap tk (mw.gr g1) o1 (fun y _ k u I2 H2 g2 r2 => k u I2 H2 (g1.trans g2) r2) fun _ z => z.gr g1)
end

/-! ### arguments -/
section
variable {X : Cx} {Γ : List SL} {e : Expr} {es : List Expr} {pos : Pos} {α A : Type} [Enc α] {w : Bool}
def eNil : Unit → List D := fun _ => []
def eCons {α A : Type} [Enc α] (ea : A → List D) : α × A → List D := fun p => enc p.1 :: ea p.2
theorem va_nil : VA w X Γ [] eNil (M.ok ()) := fun W tk σ I H T mw Q o => to_a pa_nil (o [] I H (.refl mw.ih) .nil)
theorem va_cons {m1 : M α} {ea : A → List D} {m2 : M A} (h : VX w X Γ e m1) (h2 : VA w X Γ es ea m2) (hs : starEach (e :: es) X.env = (false, eval e X.env) :: starEach es X.env := by rfl) :
    VA w X Γ (e :: es) (eCons ea) (m1 >>= fun x => m2 >>= fun y => M.ok (x, y)) := fun W tk σ I H T mw Q o => by
  refine to_a (pa_cons pe_of pa_of hs) (h.ap tk mw o.bind (fun x _ o1 v I1 H1 g1 r1 => ?_) fun _ z => z)
  refine h2 W tk σ I1 H1 T (mw.gr g1) _ (o1.bind.mono (fun y _ k vs I2 H2 g2 r2 => ?_) fun _ _ z => z.gr g1)
  exact k (v :: vs) I2 H2 (g1.trans g2) (.cons (r1.mono (wsel_same g2)) r2)
theorem VA.ap {ea : A → List D} {m : M A} (h : VA w X Γ es ea m) {W : WX} (tk : L2N.Takes X W) {σ : L2.St} {I H : Hp} {T : List Addr} (mw : Mw X.K X.mg Γ σ I H T) {Q : List V → Hp → Prop} {P : A → Prop} {E : Exn → Prop} (o : Out m P E)
    (hP : ∀ a, m = .ok a → P a → ∀ vs I' H', Gr I H I' H' → Rs X.K X.mg (wsel w I' H') vs (ea a) → Q vs H') (hE : ∀ ex, E ex → XO X W σ I H ex) : aOf X es σ H Q := h W tk σ I H T mw Q (o.mono hP fun ex _ k => hE ex k)
end
end Vc

set_option Elab.async false
set_option linter.all false
set_option maxRecDepth 100000
namespace Vc
open PySem PySem.Spec PyProof.Rows L2
open Enc (enc)

/-! ### targets -/
theorem wipe_set_comm (σ : L2.St) : ∀ (vs : List Nat) (i : Nat), wipe (σ.set i none) vs = (wipe σ vs).set i none
  | [], _ => rfl
  | v :: vs, i => by
    show (wipe (σ.set i none) vs).set v none = ((wipe σ vs).set v none).set i none
    rw [wipe_set_comm σ vs i]
    by_cases h : i = v
    · subst h; rfl
    · rw [List.set_comm _ _ h]
theorem wipe_wipe (σ : L2.St) : ∀ (us vs : List Nat), wipe (wipe σ us) vs = wipe (wipe σ vs) us
  | [], _ => rfl
  | u :: us, vs => by
    show wipe ((wipe σ us).set u none) vs = (wipe (wipe σ vs) us).set u none
    rw [wipe_set_comm, wipe_wipe σ us vs]
theorem wipe_append (σ : L2.St) : ∀ (us vs : List Nat), wipe σ (us ++ vs) = wipe (wipe σ vs) us
  | [], _ => rfl
  | u :: us, vs => by
    show (wipe σ (us ++ vs)).set u none = _
    rw [wipe_append σ us vs]
    rfl
/-- a value of type α stored at tg: the slots vs change, Γ becomes u a Γ -/
def VG (X : Cx) (n : Nat) (tg : Expr) (vs : List Nat) {α : Type} [Enc α] (u : α → List SL → List SL) : Prop :=
  ∀ Γ, Γ.length = n → ∀ v a σ I H T, Mw X.K X.mg Γ σ I H T → R X.K X.mg I v (enc a) → ∀ Q : L2.St → Hp → Prop,
    (∀ σ' T', wipe σ' vs = wipe σ vs → (u a Γ).length = n → Sls X.K X.mg I H σ' (u a Γ) T' → (∀ p ∈ T', p ∈ T) → T'.Nodup → Q σ' H) → gOf X tg v σ H Q
def VGs (X : Cx) (n : Nat) (ts : List Expr) (vs : List Nat) {A : Type} (ea : A → List D) (u : A → List SL → List SL) : Prop :=
  ∀ Γ, Γ.length = n → ∀ us a σ I H T, Mw X.K X.mg Γ σ I H T → Rs X.K X.mg I us (ea a) → ∀ Q : L2.St → Hp → Prop,
    (∀ σ' T', wipe σ' vs = wipe σ vs → (u a Γ).length = n → Sls X.K X.mg I H σ' (u a Γ) T' → (∀ p ∈ T', p ∈ T) → T'.Nodup → Q σ' H) → gsOf X ts us σ H Q
section
variable {X : Cx} {n : Nat} {pos : Pos} {α A : Type} [Enc α]
theorem vg_name (i : Nat) {x : Str} (hN : X.N.Nodup) (hi : X.N[i]? = some x := by rfl) (hn : Nat.blt i n = true := by rfl) (hx : Loc X.env.scope x := by first | exact .inl rfl | exact .inr rfl) (hf : X.fn x = true ∨ X.env.scope.names.lookup x = some .local := by first | exact .inl rfl | exact .inr rfl) :
    VG X n (.Name x pos) [i] (fun a Γ => Γ.set i (sI a) : α → List SL → List SL) := fun Γ hl v a σ I H T mw r Q k => by
  refine to_g (pg_name hN hi hx hf) ?_
  obtain ⟨T', s, c, d⟩ := mw.sl.put (i := i) (by rw [hl]; exact Nat.blt_eq.mp hn) (Ow.imm r)
  refine k _ T' ?_ (by simpa using hl) s (fun p hp => (c p hp).elim (fun z => nomatch z) id) (d mw.nd)
  show (σ.set i (some v)).set i none = σ.set i none
  rw [List.set_set]
theorem vgs_nil : VGs X n [] [] eNil (fun _ Γ => Γ) := fun Γ hl us a σ I H T mw r Q k => by
  cases r
  exact to_gs pgs_nil ⟨rfl, k σ T rfl hl mw.sl (fun _ h => h) mw.nd⟩
theorem vgs_cons {tg : Expr} {ts : List Expr} {vs ws : List Nat} {u : α → List SL → List SL} {ea : A → List D} {u2 : A → List SL → List SL} (h1 : VG X n tg vs u) (h2 : VGs X n ts ws ea u2)
    (hs : (assignEach (tg :: ts) X.env).map (·.2) = assign tg X.env :: (assignEach ts X.env).map (·.2) := by rfl) : VGs X n (tg :: ts) (vs ++ ws) (eCons ea) (fun a Γ => u2 a.2 (u a.1 Γ)) := fun Γ hl us a σ I H T mw r Q k => by
  cases r with
  | cons r1 r2 =>
    refine to_gs (pgs_cons pg_of pgs_of hs) ⟨_, _, rfl, h1 Γ hl _ a.1 σ I H T mw r1 _ fun σ1 T1 w1 l1 s1 c1 d1 => ?_⟩
    refine h2 _ l1 _ a.2 σ1 I H T1 ⟨mw.ih, fun p hp => mw.fr p (c1 p hp), d1, s1⟩ r2 _ fun σ2 T2 w2 l2 s2 c2 d2 => k σ2 T2 ?_ l2 s2 (fun p hp => c1 p (c2 p hp)) d2
    rw [wipe_append, w2, wipe_wipe, w1, wipe_wipe, ← wipe_append]
theorem vg_tup {es : List Expr} {kk m : Nat} {vs : List Nat} {ea : A → List D} {u : A → List SL → List SL} (f : α → A) (hc : X.calm = true) (h : VGs X n es vs ea u) (he : ∀ a : α, enc a = .tup (ea (f a))) (hm : ∀ a : α, (ea (f a)).length = m)
    (hn : (assignEach es X.env).length = m := by rfl) (hst : (assignEach es X.env).findIdx? (·.1) = none := by rfl) : VG X n (.Tuple es kk pos) vs (fun a Γ => u (f a) Γ) := fun Γ hl v a σ I H T mw r Q k => by
  rw [he a] at r
  cases r with
  | tup hs r =>
    refine to_g (pg_tup hc pgs_of hn hst) ⟨_, _, rfl, Same.seqT mw.ih hs, by rw [r.length, hm], ?_⟩
    exact h Γ hl _ (f a) σ I H T mw r Q k
end

/-! ### statements -/
structure Eds (τ : Type) where
  nx : List SL → τ → Prop := fun _ _ => False
  rt : O → τ → Prop := fun _ _ => False
  bk : List SL → τ → Prop := fun _ _ => False
  ct : List SL → τ → Prop := fun _ _ => False
structure DO (X : Cx) (I0 H0 : Hp) {τ : Type} (E : Eds τ) (D : Ends) (t : τ) : Prop where
  nx : ∀ Γ' σ' I' H' T', E.nx Γ' t → Mt X.K X.mg I0 H0 Γ' σ' I' H' T' → D.nx σ' H'
  bk : ∀ Γ' σ' I' H' T', E.bk Γ' t → Mt X.K X.mg I0 H0 Γ' σ' I' H' T' → D.bk σ' H'
  ct : ∀ Γ' σ' I' H' T', E.ct Γ' t → Mt X.K X.mg I0 H0 Γ' σ' I' H' T' → D.ct σ' H'
  rt : ∀ o v I' H' T', E.rt o t → Wd I0 H0 I' H' T' → Ow X.K X.mg I' H' v o T' → D.rt v H'
def XS (X : Cx) (W : WX) (I0 H0 : Hp) (Γx : List SL) (ex : Exn) : Prop := ∀ cl d σ' I' H' T', Mt X.K X.mg I0 H0 Γx σ' I' H' T' → ExcAt X.K X.mg I' ex cl d → W cl d σ' H'
def VS (X : Cx) (Γ Γx : List SL) (sts : List Stmt) {τ : Type} (E : Eds τ) (m : M τ) : Prop :=
  ∀ (W : WX), L2N.Takes X W → ∀ I0 H0 σ I H T, Mt X.K X.mg I0 H0 Γ σ I H T → ∀ D : Ends, Out m (DO X I0 H0 E D) (XS X W I0 H0 Γx) → sOf X sts D σ H
theorem XS.xo {X : Cx} {W : WX} {I0 H0 : Hp} {Γ Γx : List SL} {σ : L2.St} {I H : Hp} {T : List Addr} {ex : Exn} (h : XS X W I0 H0 Γx ex) (mt : Mt X.K X.mg I0 H0 Γ σ I H T) (s : Sub Γ Γx) : XO X W σ I H ex := fun cl d I' H' g a => by
  obtain ⟨T', mt'⟩ := (mt.gr g).sub s
  exact h cl d σ I' H' T' mt' a
theorem Wd.ow {I0 H0 I H I' H' : Hp} {T T2 : List Addr} (w : Wd I0 H0 I H T) (hT : ∀ p ∈ T, H p ≠ none) (g : Wd I H I' H' T2) : Wd I0 H0 I' H' (T2 ++ T) :=
  ⟨g.ih, w.i0.trans g.i0, w.h0.trans g.h0, fun p hp => by
    rcases List.mem_append.mp hp with z | z
    · exact ⟨(g.fr p z).1, w.h0.free (g.fr p z).2⟩
    · exact ⟨g.sep p (hT p z) (w.fr p z).1, (w.fr p z).2⟩, List.nodup_append.mpr ⟨g.nd, w.nd, fun a ha b hb e => hT b hb (e ▸ (g.fr a ha).2)⟩, fun p h h' => by
    have h1 := w.sep p h h'
    refine g.sep p ?_ h1
    cases q : H0 p with
    | none => exact absurd q h
    | some o => rw [w.h0 p o q]; simp⟩
/-- what is owned becomes immutable -/
theorem Wd.freeze {K : PySem.W.Frag} {mg : Str → Option Value} {I0 H0 I H : Hp} {T T2 : List Addr} {v : V} {o : O} (w : Wd I0 H0 I H (T2 ++ T)) (q : Ow K mg I H v o T2) : ∃ I', Wd I0 H0 I' H T ∧ Same I I' ∧ R K mg I' v o.toD := by
  obtain ⟨n1, n2, n3⟩ := List.nodup_append.mp w.nd
  have e1 : Same I fun p => if p ∈ T2 then H p else I p := fun b u e => by
    have : b ∉ T2 := fun hb => by have := (w.fr b (List.mem_append_left _ hb)).1; rw [this] at e; cases e
    show (if b ∈ T2 then H b else I b) = some u
    rw [if_neg this]; exact e
  refine ⟨fun p => if p ∈ T2 then H p else I p, ⟨fun b u e => ?_, w.i0.trans e1, w.h0, fun p hp => ⟨?_, (w.fr p (List.mem_append_right _ hp)).2⟩, n2, fun p h h' => ?_⟩, e1, ?_⟩
  · have e : (if b ∈ T2 then H b else I b) = some u := e
    split at e
    · exact e
    · exact w.ih b u e
  · show (if p ∈ T2 then H p else I p) = none
    rw [if_neg fun z => n3 p z p hp rfl]
    exact (w.fr p (List.mem_append_right _ hp)).1
  · show (if p ∈ T2 then H p else I p) = none
    rw [if_neg fun z => h (w.fr p (List.mem_append_left _ z)).2]
    exact w.sep p h h'
  · exact q.toR (G := fun p => if p ∈ T2 then H p else I p) e1 fun p hp => by
      show (if p ∈ T2 then H p else I p) = H p
      rw [if_pos hp]
/-- a new owned list -/
theorem Wd.new {I H : Hp} {p : Addr} {o : HO} (h : Same I H) (hp : H p = none) : Wd I H I (upd H p o) [p] := by
  refine ⟨fun b u e => ?_, .refl _, fun b u e => ?_, fun b hb => ?_, by simp, fun _ _ z => z⟩
  · rw [upd_ne (ne_of_none (h b u e) hp)]; exact h b u e
  · rw [upd_ne (ne_of_none e hp)]; exact e
  · have e : b = p := by simpa using hb
    subst e
    exact ⟨h.free hp, hp⟩
/-- an owned list is changed -/
theorem Wd.put {I0 H0 I H : Hp} {T : List Addr} {p : Addr} {o : HO} (w : Wd I0 H0 I H T) (hp : p ∈ T) : Wd I0 H0 I (upd H p o) T := by
  refine ⟨fun b u e => ?_, w.i0, fun b u e => ?_, w.fr, w.nd, w.sep⟩
  · rw [upd_ne (ne_of_none e (w.fr p hp).1)]; exact w.ih b u e
  · rw [upd_ne (ne_of_none e (w.fr p hp).2)]; exact w.h0 b u e
section
variable {K : PySem.W.Frag} {mg : Str → Option Value} {I H : Hp}
/-- an owned list in a slot is changed -/
theorem Sls.chg : ∀ {σ : L2.St} {Γ : List SL} {T : List Addr} {i : Nat} {os : List O}, Sls K mg I H σ Γ T → T.Nodup → Γ[i]? = some (.val (.lst os)) → ∃ p xs T2, σ[i]? = some (some (.ref p)) ∧ p ∈ T ∧ H p = some (.lst xs) ∧ Ows K mg I H xs os T2 ∧ (∀ q ∈ T2, q ∈ T) ∧
    ∀ xs' os', Ows K mg I (upd H p (.lst xs')) xs' os' T2 → Sls K mg I (upd H p (.lst xs')) σ (Γ.set i (.val (.lst os'))) T
  | _, _, _, _, _, .nil, _, h => by simp at h
  | _, _, _, 0, _, .any r, _, h => by simp at h
  | _, _, _, 0, os, .val (T := T) (T' := T') q r, nd, h => by
    simp at h
    subst h
    cases q with
    | lst e w =>
      rename_i p xs T2
      obtain ⟨n1, n2, n3⟩ := List.nodup_append.mp nd
      refine ⟨p, xs, T2, rfl, by simp, e, w, fun q hq => List.mem_append_left _ (List.mem_cons_of_mem _ hq), fun xs' os' w' => .val (.lst upd_same w') (r.mono (.refl _) fun q hq => upd_ne fun z => n3 p List.mem_cons_self q hq z.symm)⟩
  | _, _, _, i + 1, os, .any r, nd, h => by
    obtain ⟨p, xs, T2, h1, h2, h3, h4, h5, h6⟩ := Sls.chg (i := i) r nd (by simpa using h)
    exact ⟨p, xs, T2, by simpa using h1, h2, h3, h4, h5, fun xs' os' w' => .any (h6 xs' os' w')⟩
  | _, _, _, i + 1, os, .val (T := T) (T' := T') q r, nd, h => by
    obtain ⟨n1, n2, n3⟩ := List.nodup_append.mp nd
    obtain ⟨p, xs, T2, h1, h2, h3, h4, h5, h6⟩ := Sls.chg (i := i) r n2 (by simpa using h)
    exact ⟨p, xs, T2, by simpa using h1, List.mem_append_right _ h2, h3, h4, fun q hq => List.mem_append_right _ (h5 q hq), fun xs' os' w' => .val (q.mono (.refl _) fun z hz => upd_ne fun y => n3 z hz p h2 y) (h6 xs' os' w')⟩
end

theorem VO.ap {X : Cx} {Γ : List SL} {e : Expr} {α : Type} {o : α → O} {m : M α} (h : VO X Γ e o m) {W : WX} (tk : L2N.Takes X W) {σ : L2.St} {I H : Hp} {T : List Addr} (mw : Mw X.K X.mg Γ σ I H T) {Q : VK} {P : α → Prop} {E : Exn → Prop} (ou : Out m P E)
    (hP : ∀ a, m = .ok a → P a → ∀ v I' H' T2, Wd I H I' H' T2 → Ow X.K X.mg I' H' v (o a) T2 → Q v H') (hE : ∀ ex, E ex → XO X W σ I H ex) : tOf X e σ H Q :=
  h W tk σ I H T mw Q (ou.mono hP fun ex _ k => hE ex k)
theorem VO.ve {X : Cx} {Γ : List SL} {e : Expr} {α : Type} [Enc α] {o : α → O} {m : M α} {w : Bool} (h : VO X Γ e o m) (ho : ∀ a, (o a).toD = enc a) : VX w X Γ e m := VX.le fun W tk σ I H T mw Q ou =>
  h.ap tk mw ou (fun a _ k v I' H' T2 wd q => by
    obtain ⟨I2, w2, s2, r2⟩ := Wd.freeze (T := []) (by simpa using wd) q
    exact k v I2 H' w2 (by rw [ho a] at r2; exact r2)) fun _ z => z
theorem VO.ve1 {X : Cx} {Γ : List SL} {e : Expr} {α : Type} [Enc α] {m : M (List α)} {w : Bool} (h : VO X Γ e ow1 m) : VX w X Γ e m := h.ve ow1_toD

section
variable {X : Cx} {Γ Γx : List SL} {e : Expr} {rest : List Stmt} {pos : Pos} {α : Type} [Enc α] {τ : Type} {E : Eds τ}
theorem vs_nil {t : τ} (h : E.nx Γ t) : VS X Γ Γx [] E (.ok t) := fun W tk I0 H0 σ I H T mt D o => to_s pss_nil (o.nx Γ σ I H T h mt)
/-- the rest -/
theorem rest_s {m : M τ} (h : VS X Γ Γx rest E m) {W : WX} (tk : L2N.Takes X W) {I0 H0 : Hp} {σ : L2.St} {I H : Hp} {T : List Addr} (mt : Mt X.K X.mg I0 H0 Γ σ I H T) {D : Ends} (o : Out m (DO X I0 H0 E D) (XS X W I0 H0 Γx)) : sOf X rest D σ H := h W tk I0 H0 σ I H T mt D o
theorem seq_s {st : Stmt} {D : Ends} {σ : L2.St} {H : Hp} (h : s1Of X st { D with nx := sOf X rest D } σ H) : sOf X (st :: rest) D σ H := to_s (pss_cons ps_of pss_of) h
/-- name = e -/
theorem vs_set (i : Nat) {x : Str} {p : Pos} {m : M α} {k : α → M τ} (hN : X.N.Nodup) (he : VE X Γ e m) (hk : ∀ a, VS X (Γ.set i (sI a)) Γx rest E (k a)) (hs : Sub Γ Γx) (hi : X.N[i]? = some x := by rfl) (hl : Nat.blt i Γ.length = true := by rfl) (hx : Loc X.env.scope x := by first | exact .inl rfl | exact .inr rfl)
    (hsw : swapsWith e (some (.Name x p)) pos.line X.env = pure false := by rfl) (hf : X.fn x = true ∨ X.env.scope.names.lookup x = some .local := by first | exact .inl rfl | exact .inr rfl) : VS X Γ Γx (.Assign [.Name x p] e pos :: rest) E (m >>= k) := fun W tk I0 H0 σ I H T mt D o => by
  refine seq_s (to_s1 (ps_set hN hi hx pe_of hsw hf) ?_)
  show tOf X e σ H _
  refine he.ap tk mt.mw o.bind (fun a _ o1 v I1 H1 g1 r1 => ?_) fun _ z => z.xo mt hs
  obtain ⟨T', mt'⟩ := (mt.gr g1).putI (Nat.blt_eq.mp hl) r1
  exact rest_s (hk a) tk mt' o1
/-- name = e, e new and owned -/
theorem vs_setO (i : Nat) {x : Str} {p : Pos} {ow : α → O} {m : M α} {k : α → M τ} (hN : X.N.Nodup) (he : VO X Γ e ow m) (hk : ∀ a, VS X (Γ.set i (.val (ow a))) Γx rest E (k a)) (hs : Sub Γ Γx) (hi : X.N[i]? = some x := by rfl) (hl : Nat.blt i Γ.length = true := by rfl) (hx : Loc X.env.scope x := by first | exact .inl rfl | exact .inr rfl)
    (hsw : swapsWith e (some (.Name x p)) pos.line X.env = pure false := by rfl) (hf : X.fn x = true ∨ X.env.scope.names.lookup x = some .local := by first | exact .inl rfl | exact .inr rfl) : VS X Γ Γx (.Assign [.Name x p] e pos :: rest) E (m >>= k) := fun W tk I0 H0 σ I H T mt D o => by
  refine seq_s (to_s1 (ps_set hN hi hx pe_of hsw hf) ?_)
  show tOf X e σ H _
  refine he.ap tk mt.mw o.bind (fun a _ o1 v I1 H1 T2 w1 r1 => ?_) fun _ z => z.xo mt hs
  have there : ∀ p ∈ T, H p ≠ none := fun p hp => by obtain ⟨xs, e⟩ := mt.sl.there p hp; rw [e]; simp
  have mt1 : Sls X.K X.mg I1 H1 σ Γ T := mt.sl.mono w1.i0 fun p hp => by
    obtain ⟨xs, e⟩ := mt.sl.there p hp
    rw [e]; exact w1.h0 p _ e
  obtain ⟨T', s', c', d'⟩ := mt1.put (Nat.blt_eq.mp hl) r1
  have wd := mt.wd.ow there w1
  exact rest_s (hk a) tk ⟨⟨wd.ih, wd.i0, wd.h0, fun p hp => wd.fr p (List.mem_append.mpr (c' p hp)), d' wd.nd, wd.sep⟩, s'⟩ o1
/-- target = e -/
theorem vs_asg {tg : Expr} {vs : List Nat} {u : α → List SL → List SL} {n : Nat} {m : M α} {k : α → M τ} (he : VE X Γ e m) (hg : VG X n tg vs u) (hk : ∀ a, VS X (u a Γ) Γx rest E (k a)) (hs : Sub Γ Γx) (hn : Γ.length = n := by rfl)
    (hs1 : swapsWithSole [tg] e pos.line X.env = pure false := by rfl) (hw : swappedStores [tg] e X.env = pure none := by rfl) (h1 : (assignEach [tg] X.env).map (·.2) = [assign tg X.env] := by rfl) : VS X Γ Γx (.Assign [tg] e pos :: rest) E (m >>= k) := fun W tk I0 H0 σ I H T mt D o => by
  refine seq_s (to_s1 (ps_asg pe_of pg_of hs1 hw h1) ?_)
  show tOf X e σ H _
  refine he.ap tk mt.mw o.bind (fun a _ o1 v I1 H1 g1 r1 => ?_) fun _ z => z.xo mt hs
  have mt1 := mt.gr g1
  refine hg Γ hn v a σ I1 H1 T mt1.mw r1 _ fun σ' T' _ _ s' c' d' => ?_
  exact rest_s (hk a) tk ⟨⟨mt1.wd.ih, mt1.wd.i0, mt1.wd.h0, fun p hp => mt1.wd.fr p (c' p hp), d', mt1.wd.sep⟩, s'⟩ o1
/-- name op= e of ints -/
theorem vs_aug (i : Nat) {x : Str} {p : Pos} {op : Operator} {r : R2} {a : Int} {m : M Int} {f : Int → Int → M Int} {k : Int → M τ} (hN : X.N.Nodup) (ho : OpR X (inplaceOp op) r) (he : VX true X Γ e m)
    (hr : ∀ x y H, ∀ Q : VK, Out (f x y) (fun z => Q (.int z) H) (fun _ => False) → r (.int x) (.int y) H Q) (hxx : ∀ x y e, f x y ≠ .exc e) (hk : ∀ a, VS X (Γ.set i (sI a)) Γx rest E (k a)) (hs : Sub Γ Γx) (hΓ : Γ[i]? = some (sI a) := by rfl) (hi : X.N[i]? = some x := by rfl) (hl : Nat.blt i Γ.length = true := by rfl)
    (hx : Loc X.env.scope x := by first | exact .inl rfl | exact .inr rfl) (hf : X.fn x = true ∨ X.env.scope.names.lookup x = some .local := by first | exact .inl rfl | exact .inr rfl) : VS X Γ Γx (.AugAssign (.Name x p) op e pos :: rest) E (m >>= fun y => f a y >>= k) := fun W tk I0 H0 σ I H T mt D o => by
  obtain ⟨v, hv, rv⟩ := mt.sl.imm hΓ
  cases rv
  refine seq_s (to_s1 (ps_aug (ti := r) hN hi hx pe_of ho hf) ⟨_, hv, ?_⟩)
  refine he.ap tk mt.mw o.bind (fun b _ o1 v I1 H1 g1 r1 => ?_) fun _ z => z.xo mt hs
  cases r1
  refine hr a b H1 _ (o1.bind.mono (fun z _ o2 => ?_) fun ex q _ => hxx a b ex q)
  obtain ⟨T', mt'⟩ := (mt.gr g1).putI (Nat.blt_eq.mp hl) (R.int z)
  exact rest_s (hk z) tk mt' o2
theorem vs_augI (i : Nat) {x : Str} {p : Pos} {op : Operator} {a : Int} {m : M Int} {g : Int → Int → Int} {k : Int → M τ} (hN : X.N.Nodup) (ho : OpR X (inplaceOp op) (rI0 fun i j => .int (g i j))) (he : VX true X Γ e m)
    (hk : ∀ a, VS X (Γ.set i (sI a)) Γx rest E (k a)) (hs : Sub Γ Γx) (hΓ : Γ[i]? = some (sI a) := by rfl) (hi : X.N[i]? = some x := by rfl) (hl : Nat.blt i Γ.length = true := by rfl)
    (hx : Loc X.env.scope x := by first | exact .inl rfl | exact .inr rfl) (hf : X.fn x = true ∨ X.env.scope.names.lookup x = some .local := by first | exact .inl rfl | exact .inr rfl) : VS X Γ Γx (.AugAssign (.Name x p) op e pos :: rest) E (m >>= fun y => k (g a y)) :=
  vs_aug (f := fun x y => .ok (g x y)) i hN ho he (fun x y H Q o => ⟨x, y, rfl, rfl, o⟩) (fun _ _ _ z => nomatch z) hk hs hΓ hi hl hx hf
theorem vs_augC (i : Nat) {x : Str} {p : Pos} {op : Operator} {a : Int} {m : M Int} {C : Int → Int → Prop} [∀ x y, Decidable (C x y)] {g : Int → Int → Int} {k : Int → M τ} (hN : X.N.Nodup) (ho : OpR X (inplaceOp op) (rI C fun i j => .int (g i j))) (he : VX true X Γ e m)
    (hk : ∀ a, VS X (Γ.set i (sI a)) Γx rest E (k a)) (hs : Sub Γ Γx) (hΓ : Γ[i]? = some (sI a) := by rfl) (hi : X.N[i]? = some x := by rfl) (hl : Nat.blt i Γ.length = true := by rfl)
    (hx : Loc X.env.scope x := by first | exact .inl rfl | exact .inr rfl) (hf : X.fn x = true ∨ X.env.scope.names.lookup x = some .local := by first | exact .inl rfl | exact .inr rfl) : VS X Γ Γx (.AugAssign (.Name x p) op e pos :: rest) E (m >>= fun y => chk (C a y) >>= fun _ => k (g a y)) := by
  have h := vs_aug (E := E) (rest := rest) (Γx := Γx) (k := k) (f := fun x y => chk (C x y) >>= fun _ => .ok (g x y)) i hN ho he (fun x y H Q o => by obtain ⟨hc, o⟩ := o.chk; exact ⟨x, y, rfl, rfl, hc, o⟩) (fun _ _ _ z => by unfold chk at z; split at z <;> cases z) hk hs hΓ hi hl hx hf (p := p) (pos := pos)
  have e : (fun y => (chk (C a y) >>= fun _ => M.ok (g a y)) >>= k) = fun y => chk (C a y) >>= fun _ => k (g a y) := by
    funext y
    rw [M.bind_assoc]
    rfl
  rw [e] at h
  exact h
/-- return e -/
theorem vs_ret {m : M α} {f : α → τ} (he : VE X Γ e m) (hr : ∀ a, E.rt (.imm (enc a)) (f a)) (hs : Sub Γ Γx) : VS X Γ Γx (.Return (some e) pos :: rest) E (m >>= fun a => .ok (f a)) := fun W tk I0 H0 σ I H T mt D o => by
  refine seq_s (to_s1 (ps_ret pe_of) ?_)
  show tOf X e σ H _
  refine he.ap tk mt.mw o.bind (fun a _ o1 v I1 H1 g1 r1 => ?_) fun _ z => z.xo mt hs
  have mt1 := mt.gr g1
  exact o1.rt _ v I1 H1 [] (hr a) (mt1.wd.subl (List.nil_sublist _)) (.imm r1)
theorem vs_retO {m : M α} {ow : α → O} {f : α → τ} (he : VO X Γ e ow m) (hr : ∀ a, E.rt (ow a) (f a)) (hs : Sub Γ Γx) : VS X Γ Γx (.Return (some e) pos :: rest) E (m >>= fun a => .ok (f a)) := fun W tk I0 H0 σ I H T mt D o => by
  refine seq_s (to_s1 (ps_ret pe_of) ?_)
  show tOf X e σ H _
  refine he.ap tk mt.mw o.bind (fun a _ o1 v I1 H1 T2 w1 r1 => ?_) fun _ z => z.xo mt hs
  have there : ∀ p ∈ T, H p ≠ none := fun p hp => by obtain ⟨xs, e⟩ := mt.sl.there p hp; rw [e]; simp
  exact o1.rt _ v I1 H1 T2 (hr a) ((mt.wd.ow there w1).subl (List.sublist_append_left _ _)) r1
/-- return of an owned name -/
theorem vs_retV (i : Nat) {x : Str} {p : Pos} {ow : O} {t : τ} (hr : E.rt ow t) (hΓ : Γ[i]? = some (.val ow) := by rfl) (hN : X.N[i]? = some x := by rfl) (hv : Vis X.env.scope x := by first | exact Or.inl rfl | exact Or.inr (Or.inl rfl) | exact Or.inr (Or.inr rfl))
    (hd : (x == ("__debug__" : Str)) = false := by decide) (hcd : (x == ("__classdict__" : Str)) = false := by decide) : VS X Γ Γx (.Return (some (.Name x p)) pos :: rest) E (.ok t) := fun W tk I0 H0 σ I H T mt D o => by
  obtain ⟨v, T1, T2, T3, h1, h2, r⟩ := mt.sl.get hΓ
  refine seq_s (to_s1 (ps_ret (pe_var hN hv hd hcd)) ⟨v, h1, ?_⟩)
  exact o.rt _ v I H T2 hr (mt.wd.subl (by rw [h2]; exact (List.sublist_append_left T2 T3).trans (List.sublist_append_right T1 _))) r
theorem vs_retN {t : τ} (hr : E.rt (.imm .non) t) : VS X Γ Γx (.Return none pos :: rest) E (.ok t) := fun W tk I0 H0 σ I H T mt D o => by
  refine seq_s (to_s1 ps_retN ?_)
  exact o.rt _ .non I H [] hr (mt.wd.subl (List.nil_sublist _)) (.imm .non)
theorem vs_pass {m : M τ} (h : VS X Γ Γx rest E m) : VS X Γ Γx (.Pass pos :: rest) E m := fun W tk I0 H0 σ I H T mt D o => seq_s (to_s1 ps_pass (rest_s h tk mt o))
theorem vs_break {t : τ} (h : E.bk Γ t) : VS X Γ Γx (.Break pos :: rest) E (.ok t) := fun W tk I0 H0 σ I H T mt D o => seq_s (to_s1 ps_break (o.bk Γ σ I H T h mt))
theorem vs_cont {t : τ} (h : E.ct Γ t) : VS X Γ Γx (.Continue pos :: rest) E (.ok t) := fun W tk I0 H0 σ I H T mt D o => seq_s (to_s1 ps_continue (o.ct Γ σ I H T h mt))
/-- an expression for its effect: none -/
theorem vs_expr {m : M α} {k : M τ} (he : VX true X Γ e m) (hk : VS X Γ Γx rest E k) (hs : Sub Γ Γx) (hsw : swapsWith e none pos.line X.env = pure false := by rfl) : VS X Γ Γx (.Expr e pos :: rest) E (m >>= fun _ => k) := fun W tk I0 H0 σ I H T mt D o => by
  refine seq_s (to_s1 (ps_expr pe_of hsw) ?_)
  show tOf X e σ H _
  exact he.ap tk mt.mw o.bind (fun a _ o1 v I1 H1 g1 r1 => rest_s hk tk (mt.gr g1) o1) fun _ z => z.xo mt hs
/-! if -/
/-- both ways end what follows, or the first never falls through -/
theorem vs_ifx {c : Expr} {a b : List Stmt} {mc : M Bool} {m1 m2 : M τ} (hc : VT X Γ c mc) (ha : VS X Γ Γx a { E with nx := fun _ _ => False } m1) (hb : VS X Γ Γx rest E m2) (hs : Sub Γ Γx) : VS X Γ Γx (.If c a [] pos :: rest) E (mc >>= fun x => if x then m1 else m2) := fun W tk I0 H0 σ I H T mt D o => by
  refine seq_s (to_s1 (ps_if pt_of pss_of pss_of) ?_)
  show kOf X c σ H _
  refine hc.ap tk mt.mw o.bind (fun x _ o1 I1 H1 g1 => ?_) fun _ z => z.xo mt hs
  cases x with
  | true => exact iteT (ha W tk I0 H0 σ I1 H1 T (mt.gr g1) _ (o1.mono (fun t _ d => ⟨fun _ _ _ _ _ z => z.elim, d.bk, d.ct, d.rt⟩) fun _ _ z => z))
  | false => exact iteF (to_s pss_nil (rest_s hb tk (mt.gr g1) o1))
/-- both ways given, nothing behind falls through -/
theorem vs_ifxx {c : Expr} {a b : List Stmt} {mc : M Bool} {m1 m2 : M τ} (hc : VT X Γ c mc) (ha : VS X Γ Γx a { E with nx := fun _ _ => False } m1) (hb : VS X Γ Γx b { E with nx := fun _ _ => False } m2) (hs : Sub Γ Γx) : VS X Γ Γx (.If c a b pos :: rest) E (mc >>= fun x => if x then m1 else m2) := fun W tk I0 H0 σ I H T mt D o => by
  refine seq_s (to_s1 (ps_if pt_of pss_of pss_of) ?_)
  show kOf X c σ H _
  refine hc.ap tk mt.mw o.bind (fun x _ o1 I1 H1 g1 => ?_) fun _ z => z.xo mt hs
  cases x with
  | true => exact iteT (ha W tk I0 H0 σ I1 H1 T (mt.gr g1) _ (o1.mono (fun t _ d => ⟨fun _ _ _ _ _ z => z.elim, d.bk, d.ct, d.rt⟩) fun _ _ z => z))
  | false => exact iteF (hb W tk I0 H0 σ I1 H1 T (mt.gr g1) _ (o1.mono (fun t _ d => ⟨fun _ _ _ _ _ z => z.elim, d.bk, d.ct, d.rt⟩) fun _ _ z => z))
/-- last statement: both ways fall through as they are wanted -/
theorem vs_ifl {c : Expr} {a b : List Stmt} {mc : M Bool} {m1 m2 : M τ} (hc : VT X Γ c mc) (ha : VS X Γ Γx a E m1) (hb : VS X Γ Γx b E m2) (hs : Sub Γ Γx) : VS X Γ Γx [.If c a b pos] E (mc >>= fun x => if x then m1 else m2) := fun W tk I0 H0 σ I H T mt D o => by
  refine seq_s (to_s1 (ps_if pt_of pss_of pss_of) ?_)
  show kOf X c σ H _
  refine hc.ap tk mt.mw o.bind (fun x _ o1 I1 H1 g1 => ?_) fun _ z => z.xo mt hs
  cases x with
  | true => exact iteT (ha W tk I0 H0 σ I1 H1 T (mt.gr g1) _ (o1.mono (fun t _ d => ⟨fun _ _ _ _ _ z m => to_s pss_nil (d.nx _ _ _ _ _ z m), d.bk, d.ct, d.rt⟩) fun _ _ z => z))
  | false => exact iteF (hb W tk I0 H0 σ I1 H1 T (mt.gr g1) _ (o1.mono (fun t _ d => ⟨fun _ _ _ _ _ z m => to_s pss_nil (d.nx _ _ _ _ _ z m), d.bk, d.ct, d.rt⟩) fun _ _ z => z))
/-- what falls through: F of a state -/
abbrev eNx {S : Type} (F : S → List SL) : Eds S := { nx := fun Γ' s => Sub Γ' (F s) }
/-- a block that falls through in a state of F, then what follows -/
theorem vs_ifj {S : Type} (F : S → List SL) {c : Expr} {a b : List Stmt} {mc : M Bool} {m1 m2 : M S} {k : S → M τ} (hc : VT X Γ c mc) (ha : VS X Γ Γx a (eNx F) m1) (hb : VS X Γ Γx b (eNx F) m2) (hk : ∀ s, VS X (F s) Γx rest E (k s)) (hs : Sub Γ Γx) :
    VS X Γ Γx (.If c a b pos :: rest) E (mc >>= fun x => (if x then m1 else m2) >>= k) := fun W tk I0 H0 σ I H T mt D o => by
  refine seq_s (to_s1 (ps_if pt_of pss_of pss_of) ?_)
  show kOf X c σ H _
  have fin : ∀ s, Out (k s) (DO X I0 H0 E D) (XS X W I0 H0 Γx) → DO X I0 H0 (eNx F) { D with nx := sOf X rest D } s := fun s o => ⟨fun Γ' σ' I' H' T' z m => by
    obtain ⟨T2, m2⟩ := m.sub z
    exact rest_s (hk s) tk m2 o, fun _ _ _ _ _ z => z.elim, fun _ _ _ _ _ z => z.elim, fun _ _ _ _ _ z => z.elim⟩
  refine hc.ap tk mt.mw o.bind (fun x _ o1 I1 H1 g1 => ?_) fun _ z => z.xo mt hs
  cases x with
  | true => exact iteT (ha W tk I0 H0 σ I1 H1 T (mt.gr g1) _ (o1.bind.mono (fun s _ o2 => fin s o2) fun _ _ z => z))
  | false => exact iteF (hb W tk I0 H0 σ I1 H1 T (mt.gr g1) _ (o1.bind.mono (fun s _ o2 => fin s o2) fun _ _ z => z))
/-- falls through, or ends -/
inductive Jn (S τ : Type) where
  | go (s : S)
  | out (t : τ)
def Jn.on {S τ : Type} (j : Jn S τ) (k : S → M τ) : M τ := match j with
  | .go s => k s
  | .out t => .ok t
@[simp] theorem Jn.on_go {S τ : Type} (s : S) (k : S → M τ) : Jn.on (.go s) k = k s := rfl
@[simp] theorem Jn.on_out {S τ : Type} (t : τ) (k : S → M τ) : Jn.on (.out t) k = .ok t := rfl
def eJn {S τ : Type} (F : S → List SL) (E : Eds τ) : Eds (Jn S τ) where
  nx := fun Γ' j => ∃ s, j = .go s ∧ Sub Γ' (F s)
  rt := fun o j => ∃ t, j = .out t ∧ E.rt o t
  bk := fun Γ' j => ∃ t, j = .out t ∧ E.bk Γ' t
  ct := fun Γ' j => ∃ t, j = .out t ∧ E.ct Γ' t
theorem vs_ifg {S : Type} (F : S → List SL) {c : Expr} {a b : List Stmt} {mc : M Bool} {m1 m2 : M (Jn S τ)} {k : S → M τ} (hc : VT X Γ c mc) (ha : VS X Γ Γx a (eJn F E) m1) (hb : VS X Γ Γx b (eJn F E) m2) (hk : ∀ s, VS X (F s) Γx rest E (k s)) (hs : Sub Γ Γx) :
    VS X Γ Γx (.If c a b pos :: rest) E (mc >>= fun x => (if x then m1 else m2) >>= fun j => j.on k) := fun W tk I0 H0 σ I H T mt D o => by
  refine seq_s (to_s1 (ps_if pt_of pss_of pss_of) ?_)
  show kOf X c σ H _
  have fin : ∀ j : Jn S τ, Out (j.on k) (DO X I0 H0 E D) (XS X W I0 H0 Γx) → DO X I0 H0 (eJn F E) { D with nx := sOf X rest D } j := fun j o => ⟨fun Γ' σ' I' H' T' z m => by
      obtain ⟨s, rfl, z⟩ := z
      obtain ⟨T2, m2⟩ := m.sub z
      exact rest_s (hk s) tk m2 o, fun Γ' σ' I' H' T' z m => by
      obtain ⟨t, rfl, z⟩ := z
      exact DO.bk (E := E) o Γ' σ' I' H' T' z m, fun Γ' σ' I' H' T' z m => by
      obtain ⟨t, rfl, z⟩ := z
      exact DO.ct (E := E) o Γ' σ' I' H' T' z m, fun ow v I' H' T' z m r => by
      obtain ⟨t, rfl, z⟩ := z
      exact DO.rt (E := E) o ow v I' H' T' z m r⟩
  refine hc.ap tk mt.mw o.bind (fun x _ o1 I1 H1 g1 => ?_) fun _ z => z.xo mt hs
  cases x with
  | true => exact iteT (ha W tk I0 H0 σ I1 H1 T (mt.gr g1) _ (o1.bind.mono (fun s _ o2 => fin s o2) fun _ _ z => z))
  | false => exact iteF (hb W tk I0 H0 σ I1 H1 T (mt.gr g1) _ (o1.bind.mono (fun s _ o2 => fin s o2) fun _ _ z => z))
/-- a slot's value taken out -/
theorem Sls.take {K : PySem.W.Frag} {mg : Str → Option Value} {I H : Hp} : ∀ {σ : L2.St} {Γ : List SL} {T : List Addr} {i : Nat} {o : O}, Sls K mg I H σ Γ T → Γ[i]? = some (.val o) → T.Nodup → ∃ v T2 T', σ[i]? = some (some v) ∧ Ow K mg I H v o T2 ∧ Sls K mg I H σ (Γ.set i .any) T' ∧ (∀ p ∈ T2, p ∈ T) ∧ (∀ p ∈ T', p ∈ T) ∧ (T2 ++ T').Nodup
  | _, _, _, _, _, .nil, h, _ => by simp at h
  | _, _, _, 0, _, .any r, h, _ => by simp at h
  | _, _, _, 0, _, .val (T := T) (T' := T') q r, h, nd => by
    simp at h
    subst h
    exact ⟨_, T, T', rfl, q, .any r, fun p hp => List.mem_append_left _ hp, fun p hp => List.mem_append_right _ hp, nd⟩
  | _, _, _, i + 1, _, .any r, h, nd => by
    obtain ⟨v, T2, T', h1, h2, h3, h4, h5, h6⟩ := Sls.take (i := i) r (by simpa using h) nd
    exact ⟨v, T2, T', by simpa using h1, h2, .any h3, h4, h5, h6⟩
  | _, _, _, i + 1, _, .val (T := T) (T' := TT) q r, h, nd => by
    obtain ⟨n1, n2, n3⟩ := List.nodup_append.mp nd
    obtain ⟨v, T2, T', h1, h2, h3, h4, h5, h6⟩ := Sls.take (i := i) r (by simpa using h) n2
    obtain ⟨m1, m2, m3⟩ := List.nodup_append.mp h6
    refine ⟨v, T2, T ++ T', by simpa using h1, h2, .val q h3, fun p hp => List.mem_append_right _ (h4 p hp), fun p hp => ?_, ?_⟩
    · rcases List.mem_append.mp hp with z | z
      · exact List.mem_append_left _ z
      · exact List.mem_append_right _ (h5 p z)
    · refine List.nodup_append.mpr ⟨m1, List.nodup_append.mpr ⟨n1, m2, fun a ha b hb => n3 a ha b (h5 b hb)⟩, fun a ha b hb e => ?_⟩
      rcases List.mem_append.mp hb with z | z
      · exact n3 b z a (h4 a ha) e.symm
      · exact m3 a ha b z e
/-- a name that is no more changed becomes immutable -/
theorem vs_freeze (i : Nat) {ow : O} {m : M τ} (h : VS X (Γ.set i (.val (.imm ow.toD))) Γx rest E m) (hΓ : Γ[i]? = some (.val ow) := by rfl) : VS X Γ Γx rest E m := fun W tk I0 H0 σ I H T mt D o => by
  obtain ⟨v, T2, T', h1, q, s, c2, c', nd⟩ := mt.sl.take hΓ mt.wd.nd
  have w2 : Wd I0 H0 I H (T2 ++ T') := ⟨mt.wd.ih, mt.wd.i0, mt.wd.h0, fun p hp => mt.wd.fr p ((List.mem_append.mp hp).elim (c2 p) (c' p)), nd, mt.wd.sep⟩
  obtain ⟨I', w3, s3, r3⟩ := w2.freeze q
  have hi : i < (Γ.set i .any).length := by rw [List.length_set]; exact (List.getElem?_eq_some_iff.mp hΓ).1
  obtain ⟨T4, mt4⟩ := Mt.putI (⟨w3, s.mono s3 fun _ _ => rfl⟩ : Mt X.K X.mg I0 H0 (Γ.set i .any) σ I' H T') hi r3
  rw [List.set_set] at mt4
  have e : σ.set i (some v) = σ := by
    obtain ⟨hl, hv⟩ := List.getElem?_eq_some_iff.mp h1
    rw [← hv]; exact List.set_getElem_self hl
  rw [e] at mt4
  exact h W tk I0 H0 σ I' H T4 mt4 D o
theorem vs_freeze1 (i : Nat) {l : List α} {m : M τ} (h : VS X (Γ.set i (sI l)) Γx rest E m) (hΓ : Γ[i]? = some (sO l) := by rfl) : VS X Γ Γx rest E m := vs_freeze i (ow := ow1 l) (by rw [ow1_toD]; exact h) hΓ
end
end Vc

set_option Elab.async false
set_option linter.all false
set_option maxRecDepth 100000
namespace Vc
open PySem PySem.Spec PyProof.Rows L2
open Enc (enc)

/-! ### lists -/
def getI {α : Type} (l : List α) (i : Int) : M α := match atI l i with
  | some a => .ok a
  | none => .stuck
theorem getI_of {α : Type} {l : List α} {i : Int} {a : α} (h : atI l i = some a) : getI l i = .ok a := by unfold getI; rw [h]
theorem getI_nat {α : Type} {l : List α} {j : Nat} {a : α} (h : l[j]? = some a) : getI l (j : Int) = .ok a := getI_of (atI_nat h)
def setL {α : Type} (l : List α) (i : Int) (a : α) : M (List α) := match ixN l.length i with
  | some j => .ok (l.set j a)
  | none => .stuck
section
variable {K : PySem.W.Frag} {mg : Str → Option Value} {H : Hp} {α : Type} [Enc α]
theorem Rs.atI {xs : List V} {l : List α} {i : Int} {a : α} (h : Rs K mg H xs (l.map enc)) (e : L2.atI l i = some a) : ∃ v, L2.atI xs i = some v ∧ R K mg H v (enc a) := by
  have hl : xs.length = l.length := by rw [h.length, List.length_map]
  unfold L2.atI at e ⊢
  rw [hl]
  cases q : ixN l.length i with
  | none => rw [q] at e; cases e
  | some j =>
    rw [q] at e
    have e : l[j]? = some a := e
    obtain ⟨v, h1, h2⟩ := h.get (i := j) (x := enc a) (by rw [List.getElem?_map, e]; rfl)
    exact ⟨v, h1, h2⟩
theorem getI_out {l : List α} {i : Int} {P : α → Prop} {E : Exn → Prop} (o : Out (getI l i) P E) : ∃ a, L2.atI l i = some a ∧ P a := by
  unfold getI at o
  cases q : L2.atI l i with
  | none => rw [q] at o; exact o.elim
  | some a => rw [q] at o; exact ⟨a, rfl, o⟩
theorem R.lst_inv {v : V} {ds : List D} (r : R K mg H v (.lst ds)) : ∃ p xs, v = .ref p ∧ SqL K H p xs ∧ Rs K mg H xs ds := by
  cases r with
  | lst h q => exact ⟨_, _, rfl, h, q⟩
theorem R.tup_inv {v : V} {ds : List D} (r : R K mg H v (.tup ds)) : ∃ p xs, v = .ref p ∧ SqT K H p xs ∧ Rs K mg H xs ds := by
  cases r with
  | tup h q => exact ⟨_, _, rfl, h, q⟩
end
section
variable {X : Cx} {Γ : List SL} {e a b c : Expr} {es : List Expr} {pos : Pos} {α β γ : Type} [Enc α] [Enc β] [Enc γ] {w w' : Bool}
/-- l[i] of a list -/
theorem ve_idx {m1 : M (List α)} {m2 : M Int} (ha : VX w X Γ a m1) (hb : VX true X Γ b m2) (hs : PlainIx b := by exact fun _ _ => rfl) : VX w X Γ (.Subscript a b pos) (m1 >>= fun l => m2 >>= fun i => getI l i) := fun W tk σ I H T mw Q o => by
  refine to_t (pe_ix ix_list pe_of pe_of hs) (ha.ap tk mw o.bind (fun l _ o1 v I1 H1 g1 r1 => ?_) fun _ z => z)
  refine hb.ap tk (mw.gr g1) o1.bind (fun i _ o2 u I2 H2 g2 r2 => ?_) fun _ z => z.gr g1
  cases r2
  obtain ⟨a, e, o3⟩ := getI_out o2
  obtain ⟨p, xs, rfl, hq, rs⟩ := (r1.mono (wsel_same g2)).lst_inv
  obtain ⟨z, e2, r3⟩ := rs.atI e
  exact ⟨p, xs, i, z, rfl, rfl, (wsel_le g2.ih).seq hq, e2, o3 z I2 H2 (g1.trans g2) r3⟩
/-- t[i] of a tuple of one kind -/
theorem ve_idxT {m1 : M (Tup α)} {m2 : M Int} (ha : VX w X Γ a m1) (hb : VX true X Γ b m2) (hs : PlainIx b := by exact fun _ _ => rfl) : VX w X Γ (.Subscript a b pos) (m1 >>= fun l => m2 >>= fun i => getI l.l i) := fun W tk σ I H T mw Q o => by
  refine to_t (pe_ix ix_tup pe_of pe_of hs) (ha.ap tk mw o.bind (fun l _ o1 v I1 H1 g1 r1 => ?_) fun _ z => z)
  refine hb.ap tk (mw.gr g1) o1.bind (fun i _ o2 u I2 H2 g2 r2 => ?_) fun _ z => z.gr g1
  cases r2
  obtain ⟨a, e, o3⟩ := getI_out o2
  obtain ⟨p, xs, rfl, hq, rs⟩ := (r1.mono (wsel_same g2)).tup_inv
  obtain ⟨z, e2, r3⟩ := rs.atI e
  exact ⟨p, xs, i, z, rfl, rfl, Same.seqT (wsel_le g2.ih) hq, e2, o3 z I2 H2 (g1.trans g2) r3⟩
/-- t[2] of a tuple of a written form -/
theorem ve_proj {m : M α} {i : Int} (f : α → β) (ha : VX w X Γ a m) (hb : VX true X Γ b (M.ok i)) (hf : ∀ x : α, ∃ ds, enc x = .tup ds ∧ L2.atI ds i = some (enc (f x)) := by exact fun _ => ⟨_, rfl, rfl⟩) (hs : PlainIx b := by exact fun _ _ => rfl) : VX w X Γ (.Subscript a b pos) (m >>= fun x => M.ok (f x)) := fun W tk σ I H T mw Q o => by
  refine to_t (pe_ix ix_tup pe_of pe_of hs) (ha.ap tk mw o.bind (fun l _ o1 v I1 H1 g1 r1 => ?_) fun _ z => z)
  refine hb.ap tk (mw.gr g1) (P := fun _ => True) (E := fun _ => False) trivial (fun i' q _ u I2 H2 g2 r2 => ?_) fun _ z => z.elim
  cases q
  cases r2
  obtain ⟨ds, e1, e2⟩ := hf l
  rw [e1] at r1
  obtain ⟨p, xs, rfl, hq, rs⟩ := (r1.mono (wsel_same g2)).tup_inv
  have hl := rs.length
  unfold L2.atI at e2
  cases q : ixN ds.length i with
  | none => rw [q] at e2; cases e2
  | some j =>
    rw [q] at e2
    obtain ⟨z, h1, h2⟩ := rs.get (i := j) e2
    refine ⟨p, xs, i, z, rfl, rfl, Same.seqT (wsel_le g2.ih) hq, ?_, o1 z I2 H2 (g1.trans g2) h2⟩
    unfold L2.atI
    rw [hl, q]
    exact h1
/-- (a, b, ..) -/
theorem ve_tup {A : Type} {ea : A → List D} {m : M A} {k : Nat} (f : A → α) (h : VA false X Γ es ea m) (hf : ∀ x, enc (f x) = .tup (ea x) := by exact fun _ => rfl) (hz : ∀ x, Nat.ble (ea x).length sizeLine = true := by exact fun _ => rfl) : VX w X Γ (.Tuple es k pos) (m >>= fun x => M.ok (f x)) := VX.le fun W tk σ I H T mw Q o => by
  refine to_t (pe_tup pa_of) (h.ap tk mw o.bind (fun x _ o1 vs I1 H1 g1 r1 => ⟨by rw [r1.length]; exact Nat.le_of_ble_eq_true (hz x), fun p hp => ?_⟩) fun _ z => z)
  refine o1 _ _ _ (g1.trans (Gr.new g1.ih hp)) ?_
  rw [hf]
  exact .tup (.of upd_same) (r1.mono (Gr.new g1.ih hp).i0)
/-- [a, b, ..] -/
theorem vo_lst {A : Type} {ea : A → List D} {m : M A} (f : A → List α) (h : VA false X Γ es ea m) (hf : ∀ x, (f x).map enc = ea x := by exact fun _ => rfl) (hz : ∀ x, Nat.ble (ea x).length sizeLine = true := by exact fun _ => rfl) : VO X Γ (.List es pos) ow1 (m >>= fun x => M.ok (f x)) := fun W tk σ I H T mw Q o => by
  refine to_t (pe_lst pa_of) (h.ap tk mw o.bind (fun x _ o1 vs I1 H1 g1 r1 => ⟨by rw [r1.length]; exact Nat.le_of_ble_eq_true (hz x), fun p hp => ?_⟩) fun _ z => z)
  have w1 : Wd I1 H1 I1 (upd H1 p (.lst vs)) [p] := .new g1.ih hp
  refine o1 _ I1 _ [p] ?_ ?_
  · have := Wd.ow g1 (fun _ z => nomatch z) w1
    exact this
  · refine .lst (T := []) upd_same ?_
    rw [show (f x).map (fun a => O.imm (enc a)) = ((f x).map enc).map O.imm by rw [List.map_map]; rfl, hf]
    exact Ows.of_imm r1
/-- a built-in that takes values to a value, called -/
theorem ve_bcall {x : Str} {id : String} {p : Pos} {A : Type} {ea : A → List D} {m : M A} {f : A → M γ} {r : List V → Hp → VK → Prop} (hc : CallR X (.builtin id) r) (hg : Gl X x) (hm : X.mg x = none) (hv : bootBuiltins x = some (.builtin id)) (h : VA true X Γ (e :: es) ea m)
    (hr : ∀ a vs I H, Same I H → Rs X.K X.mg H vs (ea a) → ∀ Q : VK, Out (f a) (fun z => ∀ t I' H', Gr I H I' H' → R X.K X.mg (wsel w I' H') t (enc z) → Q t H') (fun _ => False) → r vs H Q) (hx : ∀ a e, f a ≠ .exc e)
    (hn : x ≠ "__name__" := by decide) (hdb : (x == ("__debug__" : Str)) = false := by decide) (he : starEach (e :: es) X.env = (false, eval e X.env) :: starEach es X.env := by rfl) (hpl : (backTo pos (starEach es X.env)).any (·.1) = false := by rfl) : VX w X Γ (.Call (.Name x p) (e :: es) [] pos) (m >>= f) := fun W tk σ I H T mw Q o => by
  refine to_t (pe_callB hc hg hm hv pa_of hn hdb he hpl) (h.ap tk mw o.bind (fun a _ o1 vs I1 H1 g1 r1 => ?_) fun _ z => z)
  exact hr a vs I1 H1 g1.ih r1 Q (o1.mono (fun z _ k t I' H' g rr => k t I' H' (g1.trans g) rr) fun e q _ => hx a e q)
theorem ve_tcall {x : Str} {id : String} {p : Pos} {A : Type} {ea : A → List D} {m : M A} {f : A → M γ} {r : List V → Hp → VK → Prop} (hc : CallR X (.type id) r) (hg : Gl X x) (hm : X.mg x = none) (hv : bootBuiltins x = some (.type id)) (h : VA true X Γ (e :: es) ea m)
    (hr : ∀ a vs I H, Same I H → Rs X.K X.mg H vs (ea a) → ∀ Q : VK, Out (f a) (fun z => ∀ t I' H', Gr I H I' H' → R X.K X.mg (wsel w I' H') t (enc z) → Q t H') (fun _ => False) → r vs H Q) (hx : ∀ a e, f a ≠ .exc e)
    (hn : x ≠ "__name__" := by decide) (hdb : (x == ("__debug__" : Str)) = false := by decide) (he : starEach (e :: es) X.env = (false, eval e X.env) :: starEach es X.env := by rfl) (hpl : (backTo pos (starEach es X.env)).any (·.1) = false := by rfl) : VX w X Γ (.Call (.Name x p) (e :: es) [] pos) (m >>= f) := fun W tk σ I H T mw Q o => by
  refine to_t (pe_callTy hc hg hm hv pa_of hn hdb he hpl) (h.ap tk mw o.bind (fun a _ o1 vs I1 H1 g1 r1 => ?_) fun _ z => z)
  exact hr a vs I1 H1 g1.ih r1 Q (o1.mono (fun z _ k t I' H' g rr => k t I' H' (g1.trans g) rr) fun e q _ => hx a e q)
/-- .. to a new owned thing -/
theorem vo_tcall {x : Str} {id : String} {p : Pos} {A G : Type} {ea : A → List D} {m : M A} {ow : G → O} {f : A → M G} {r : List V → Hp → VK → Prop} (hc : CallR X (.type id) r) (hg : Gl X x) (hm : X.mg x = none) (hv : bootBuiltins x = some (.type id)) (h : VA w X Γ (e :: es) ea m)
    (hr : ∀ a vs I H, Same I H → Rs X.K X.mg (wsel w I H) vs (ea a) → ∀ Q : VK, Out (f a) (fun z => ∀ t I' H' T', Wd I H I' H' T' → Ow X.K X.mg I' H' t (ow z) T' → Q t H') (fun _ => False) → r vs H Q) (hx : ∀ a e, f a ≠ .exc e)
    (hn : x ≠ "__name__" := by decide) (hdb : (x == ("__debug__" : Str)) = false := by decide) (he : starEach (e :: es) X.env = (false, eval e X.env) :: starEach es X.env := by rfl) (hpl : (backTo pos (starEach es X.env)).any (·.1) = false := by rfl) : VO X Γ (.Call (.Name x p) (e :: es) [] pos) ow (m >>= f) := fun W tk σ I H T mw Q o => by
  refine to_t (pe_callTy hc hg hm hv pa_of hn hdb he hpl) (h.ap tk mw o.bind (fun a _ o1 vs I1 H1 g1 r1 => ?_) fun _ z => z)
  exact hr a vs I1 H1 g1.ih r1 Q (o1.mono (fun z _ k t I' H' T' g rr => k t I' H' T' (by have := Wd.ow g1 (fun _ z => nomatch z) g; simpa using this) rr) fun e q _ => hx a e q)
end
abbrev e1 {α : Type} [Enc α] : α × Unit → List D := eCons eNil
abbrev e2 {α β : Type} [Enc α] [Enc β] : α × β × Unit → List D := eCons (eCons eNil)
section
variable {X : Cx} {Γ : List SL} {e a b c : Expr} {es : List Expr} {pos p : Pos} {α β γ : Type} [Enc α] [Enc β] [Enc γ] {w w' : Bool}
theorem Rs.one {K : PySem.W.Frag} {mg : Str → Option Value} {H : Hp} {vs : List V} {d : D} (h : Rs K mg H vs [d]) : ∃ v, vs = [v] ∧ R K mg H v d := by
  cases h with
  | cons h r => cases r; exact ⟨_, rfl, h⟩
theorem Rs.two {K : PySem.W.Frag} {mg : Str → Option Value} {H : Hp} {vs : List V} {d d' : D} (h : Rs K mg H vs [d, d']) : ∃ v v', vs = [v, v'] ∧ R K mg H v d ∧ R K mg H v' d' := by
  cases h with
  | cons h r => cases r with
    | cons h' r => cases r; exact ⟨_, _, rfl, h, h'⟩
theorem ve_len {m : M (List α)} (hm : X.mg "len" = none) (h : VX true X Γ e m) (hg : Gl X "len" := by rfl) (hs : starEach [e] X.env = (false, eval e X.env) :: starEach [] X.env := by rfl) : VX w X Γ (.Call (.Name "len" p) [e] [] pos) (m >>= fun l => M.ok (l.length : Int)) := by
  have q := ve_bcall (w := w) (f := fun a : List α × Unit => M.ok (a.1.length : Int)) (p := p) (pos := pos) call_len_seq hg hm boot_len (va_cons h va_nil hs) (fun a vs I H s rs Q o => by
    obtain ⟨v, rfl, r⟩ := rs.one
    obtain ⟨p, xs, rfl, hq, rs⟩ := r.lst_inv
    have hl : xs.length = a.1.length := by rw [rs.length, List.length_map]
    refine ⟨p, xs, rfl, .inl hq, ?_⟩
    rw [hl]
    exact o _ I H (.refl s) (.int _)) (fun _ _ z => nomatch z) (he := hs)
  refine q.congr ?_
  cases m <;> rfl
theorem ve_lenT {m : M (Tup α)} (hm : X.mg "len" = none) (h : VX true X Γ e m) (hg : Gl X "len" := by rfl) (hs : starEach [e] X.env = (false, eval e X.env) :: starEach [] X.env := by rfl) : VX w X Γ (.Call (.Name "len" p) [e] [] pos) (m >>= fun l => M.ok (l.l.length : Int)) := by
  have q := ve_bcall (w := w) (f := fun a : Tup α × Unit => M.ok (a.1.l.length : Int)) (p := p) (pos := pos) call_len_seq hg hm boot_len (va_cons h va_nil hs) (fun a vs I H s rs Q o => by
    obtain ⟨v, rfl, r⟩ := rs.one
    obtain ⟨p, xs, rfl, hq, rs⟩ := r.tup_inv
    have hl : xs.length = a.1.l.length := by rw [rs.length, List.length_map]
    refine ⟨p, xs, rfl, .inr hq, ?_⟩
    rw [hl]
    exact o _ I H (.refl s) (.int _)) (fun _ _ z => nomatch z) (he := hs)
  refine q.congr ?_
  cases m <;> rfl
theorem ve_abs {m : M Int} (hm : X.mg "abs" = none) (h : VX true X Γ e m) (hg : Gl X "abs" := by rfl) (hs : starEach [e] X.env = (false, eval e X.env) :: starEach [] X.env := by rfl) : VX w X Γ (.Call (.Name "abs" p) [e] [] pos) (m >>= fun i => M.ok (if i < 0 then -i else i)) := by
  have q := ve_bcall (w := w) (f := fun a : Int × Unit => M.ok (if a.1 < 0 then -a.1 else a.1)) (p := p) (pos := pos) call_abs hg hm (by decide +kernel) (va_cons h va_nil hs) (fun a vs I H s rs Q o => by
    obtain ⟨v, rfl, r⟩ := rs.one
    cases r
    exact ⟨a.1, rfl, o _ I H (.refl s) (.int _)⟩) (fun _ _ z => nomatch z) (he := hs)
  refine q.congr ?_
  cases m <;> rfl
theorem ve_toint {m : M Int} (hm : X.mg "int" = none) (h : VX true X Γ e m) (hg : Gl X "int" := by rfl) (hs : starEach [e] X.env = (false, eval e X.env) :: starEach [] X.env := by rfl) : VX w X Γ (.Call (.Name "int" p) [e] [] pos) m := by
  have q := ve_tcall (w := w) (f := fun a : Int × Unit => M.ok a.1) (p := p) (pos := pos) call_int1 hg hm (by decide +kernel) (va_cons h va_nil hs) (fun a vs I H s rs Q o => by
    obtain ⟨v, rfl, r⟩ := rs.one
    cases r
    exact .inl ⟨a.1, rfl, o _ I H (.refl s) (.int _)⟩) (fun _ _ z => nomatch z) (he := hs)
  refine q.congr ?_
  cases m <;> rfl
theorem ve_min2 {m1 m2 : M Int} (hc : X.calm = true) (hm : X.mg "min" = none) (h1 : VX true X Γ a m1) (h2 : VX true X Γ b m2) (hg : Gl X "min" := by rfl) (hs : starEach [a, b] X.env = (false, eval a X.env) :: starEach [b] X.env := by rfl) (hs2 : starEach [b] X.env = (false, eval b X.env) :: starEach [] X.env := by rfl) (hpl : (backTo pos (starEach [b] X.env)).any (·.1) = false := by rfl) :
    VX w X Γ (.Call (.Name "min" p) [a, b] [] pos) (m1 >>= fun x => m2 >>= fun y => M.ok (if y < x then y else x)) := by
  have q := ve_bcall (w := w) (f := fun a : Int × Int × Unit => M.ok (if a.2.1 < a.1 then a.2.1 else a.1)) (p := p) (pos := pos) (call_min2 hc) hg hm (by decide +kernel) (va_cons h1 (va_cons h2 va_nil hs2) hs) (fun a vs I H s rs Q o => by
    obtain ⟨v, v', rfl, r, r'⟩ := rs.two
    cases r; cases r'
    exact ⟨a.1, a.2.1, rfl, o _ I H (.refl s) (.int _)⟩) (fun _ _ z => nomatch z) (he := hs) (hpl := hpl)
  refine q.congr ?_
  cases m1 <;> cases m2 <;> rfl
theorem ve_max2 {m1 m2 : M Int} (hc : X.calm = true) (hm : X.mg "max" = none) (h1 : VX true X Γ a m1) (h2 : VX true X Γ b m2) (hg : Gl X "max" := by rfl) (hs : starEach [a, b] X.env = (false, eval a X.env) :: starEach [b] X.env := by rfl) (hs2 : starEach [b] X.env = (false, eval b X.env) :: starEach [] X.env := by rfl) (hpl : (backTo pos (starEach [b] X.env)).any (·.1) = false := by rfl) :
    VX w X Γ (.Call (.Name "max" p) [a, b] [] pos) (m1 >>= fun x => m2 >>= fun y => M.ok (if y > x then y else x)) := by
  have q := ve_bcall (w := w) (f := fun a : Int × Int × Unit => M.ok (if a.2.1 > a.1 then a.2.1 else a.1)) (p := p) (pos := pos) (call_max2 hc) hg hm (by decide +kernel) (va_cons h1 (va_cons h2 va_nil hs2) hs) (fun a vs I H s rs Q o => by
    obtain ⟨v, v', rfl, r, r'⟩ := rs.two
    cases r; cases r'
    exact ⟨a.1, a.2.1, rfl, o _ I H (.refl s) (.int _)⟩) (fun _ _ z => nomatch z) (he := hs) (hpl := hpl)
  refine q.congr ?_
  cases m1 <;> cases m2 <;> rfl
/-- list(xs): borrowed if its items are plain -/
theorem ow1_new {K : PySem.W.Frag} {mg : Str → Option Value} {I H : Hp} {xs : List V} {l : List α} {p : Addr} (r : Rs K mg I xs (l.map enc)) : Ow K mg I (upd H p (.lst xs)) (.ref p) (ow1 l) [p] := by
  refine .lst (T := []) upd_same ?_
  rw [show l.map (fun a => O.imm (enc a)) = (l.map enc).map O.imm by rw [List.map_map]; rfl]
  exact Ows.of_imm r
theorem vo_list {m : M (List α)} (hm : X.mg "list" = none) (h : VX false X Γ e m) (hg : Gl X "list" := by rfl) (hs : starEach [e] X.env = (false, eval e X.env) :: starEach [] X.env := by rfl) : VO X Γ (.Call (.Name "list" p) [e] [] pos) ow1 m := by
  have q := vo_tcall (w := false) (ow := ow1) (f := fun a : List α × Unit => M.ok a.1) (p := p) (pos := pos) call_list_of hg hm (by decide +kernel) (va_cons h va_nil hs) (fun a vs I H s rs Q o => by
    obtain ⟨v, rfl, r⟩ := rs.one
    obtain ⟨p, xs, rfl, hq, rs⟩ := r.lst_inv
    exact ⟨p, xs, rfl, .inl (s.seq hq), fun l hl => o _ I _ [l] (Wd.new s hl) (ow1_new rs)⟩) (fun _ _ z => nomatch z) (he := hs)
  have e : (m >>= fun x => M.ok () >>= fun y => M.ok (x, y)) >>= (fun a : List α × Unit => M.ok a.1) = m := by cases m <;> rfl
  rw [← e]
  exact q
theorem Rs.atoms {K : PySem.W.Frag} {mg : Str → Option Value} {H H' : Hp} [Atm α] : ∀ {xs : List V} {l : List α}, Rs K mg H xs (l.map enc) → Rs K mg H' xs (l.map enc)
  | _, [], .nil => .nil
  | _, a :: l, .cons h r => .cons (h.atom (Atm.atm a)) (Rs.atoms r)
theorem vo_listB [Atm α] {m : M (List α)} (hm : X.mg "list" = none) (h : VX true X Γ e m) (hg : Gl X "list" := by rfl) (hs : starEach [e] X.env = (false, eval e X.env) :: starEach [] X.env := by rfl) : VO X Γ (.Call (.Name "list" p) [e] [] pos) ow1 m := by
  have q := vo_tcall (w := true) (ow := ow1) (f := fun a : List α × Unit => M.ok a.1) (p := p) (pos := pos) call_list_of hg hm (by decide +kernel) (va_cons h va_nil hs) (fun a vs I H s rs Q o => by
    obtain ⟨v, rfl, r⟩ := rs.one
    obtain ⟨p, xs, rfl, hq, rs⟩ := r.lst_inv
    exact ⟨p, xs, rfl, .inl hq, fun l hl => o _ I _ [l] (Wd.new s hl) (ow1_new rs.atoms)⟩) (fun _ _ z => nomatch z) (he := hs)
  have e : (m >>= fun x => M.ok () >>= fun y => M.ok (x, y)) >>= (fun a : List α × Unit => M.ok a.1) = m := by cases m <;> rfl
  rw [← e]
  exact q
/-! slices -/
def cutL (l : List α) (lo hi : Option Int) : List α := (l.drop (HT.sIx l.length 0 lo)).take (HT.sIx l.length l.length hi - HT.sIx l.length 0 lo)
theorem Rs.cut {K : PySem.W.Frag} {mg : Str → Option Value} {H : Hp} {xs : List V} {l : List α} {lo hi : Option Int} (h : Rs K mg H xs (l.map enc)) : Rs K mg H (cutV xs lo hi) ((cutL l lo hi).map enc) := by
  have hl : xs.length = l.length := by rw [h.length, List.length_map]
  unfold cutV cutL
  rw [hl, List.map_take, List.map_drop]
  exact (h.drop _).take _
/-- a part of a slice -/
def VP (X : Cx) (Γ : List SL) (e : Option Expr) (m : M (Option Int)) : Prop :=
  ∀ (W : WX), L2N.Takes X W → ∀ σ I H T, Mw X.K X.mg Γ σ I H T → ∀ Q : Option Int → Hp → Prop,
    Out m (fun a => ∀ I' H', Gr I H I' H' → Q a H') (XO X W σ I H) → ∃ t : TO, PO X e t ∧ t σ H Q
theorem vp_none : VP X Γ none (.ok none) := fun W tk σ I H T mw Q o => ⟨_, po_none, o I H (.refl mw.ih)⟩
theorem vp_some {m : M Int} (h : VX true X Γ e m) : VP X Γ (some e) (m >>= fun i => .ok (some i)) := fun W tk σ I H T mw Q o =>
  ⟨_, po_some pe_of, h.ap tk mw o.bind (fun i _ o1 v I1 H1 g1 r1 => by cases r1; exact ⟨i, rfl, o1 I1 H1 g1⟩) fun _ z => z⟩
end
def oOf (X : Cx) (e : Option Expr) : TO := fun σ H Q => ∀ pins s, Inv X pins σ H s → wpAny (model X.prog X.w) X.A (evalPart e X.env) (fun u s' => ∃ o H', Inv X pins σ H' s' ∧ IsPart u o ∧ Q o H') X.xe s
end Vc

set_option Elab.async false
set_option linter.all false
set_option maxRecDepth 100000
namespace Vc
open PySem PySem.Spec PyProof.Rows L2
open Enc (enc)

/-! ### list + list, list * int, by SqL -/
def rCatS (K : PySem.W.Frag) : R2 := fun x y H Q => ∃ l b xs zs, x = .ref l ∧ y = .ref b ∧ SqL K H l xs ∧ SqL K H b zs ∧ xs.length + zs.length ≤ sizeLine ∧ ∀ p, H p = none → Q (.ref p) (upd H p (.lst (xs ++ zs)))
theorem op_catS {X : Cx} : OpR X (binaryOp .Add) (rCatS X.K) := by
  intro pins s σ H x y v u Q I rx ry h
  obtain ⟨l, b, xs, zs, rfl, rfl, hH, hB, hz, q⟩ := h
  cases rx
  cases ry
  obtain ⟨its, r, pl, hz1⟩ := I.list hH
  obtain ⟨its2, r2, pl2, hz2⟩ := I.list hB
  obtain ⟨⟨cls, dd, data, sl⟩, n, ho, hc, hdd, hd⟩ := pl
  obtain ⟨⟨cls2, dd2, data2, sl2⟩, n2, ho2, hc2, hdd2, hd2⟩ := pl2
  simp only at hc hd hdd hc2 hd2 hdd2
  subst hc hd hdd hc2 hd2 hdd2
  have hl := r.length
  have hl2 := r2.length
  refine concat_meets ⟨_, ho, rfl⟩ ⟨_, ho2, rfl⟩ noFill_list_add seq_list_add PySem.F.slot_list_add PySem.F.entry_list_add (PySem.F.args_list_add_2 _ _) (list_addW l b its.toArray its2.toArray n n2 none none sl sl2 (by rw [List.size_toArray, List.size_toArray]; omega)) ⟨ho, ho2, ?_⟩
  have ea : its.toArray ++ its2.toArray = (its ++ its2).toArray := by simp
  rw [ea]
  refine ⟨.ref _, upd H s.heap.objs.size (.lst (xs ++ zs)), I.laid (t' := s.toks) (fun b o e => Heap.get?_push_of_some _ e) (Nat.le_refl _) ?_, rfl, q _ (I.hok.fresh (Nat.le_refl _))⟩
  exact ⟨by rw [List.length_append]; omega, _, 0, r.append r2, Heap.get?_push_size _ rfl⟩
def rRepS (K : PySem.W.Frag) : R2 := fun x y H Q => ∃ l k xs, x = .ref l ∧ y = .int k ∧ SqL K H l xs ∧ -(2 ^ 63) ≤ k ∧ k < 2 ^ 63 ∧ xs.length * k.toNat ≤ sizeLine ∧
  ∀ p, H p = none → Q (.ref p) (upd H p (.lst (List.replicate k.toNat xs).flatten))
theorem Vals.rep {xs : List V} {us : List Value} (r : Vals xs us) : ∀ n, Vals (List.replicate n xs).flatten (List.replicate n us).flatten
  | 0 => .nil
  | n + 1 => by
    rw [List.replicate_succ, List.replicate_succ, List.flatten_cons, List.flatten_cons]
    exact r.append (Vals.rep r n)
theorem op_repS {X : Cx} : OpR X (binaryOp .Mult) (rRepS X.K) := by
  intro pins s σ H x y v u Q I rx ry h
  obtain ⟨l, k, xs, rfl, rfl, hH, h1, h2, hz, q⟩ := h
  cases rx
  obtain ⟨t, rfl⟩ := ry
  obtain ⟨its, r, pl, hz1⟩ := I.list hH
  obtain ⟨⟨cls, dd, data, sl⟩, n, ho, hc, hdd, hd⟩ := pl
  simp only at hc hd hdd
  subst hc hd hdd
  have hl := r.length
  have hsz' : its.toArray.size * k.toNat ≤ 2 ^ 24 := by rw [List.size_toArray, ← hl]; exact hz
  refine wpAny_binaryOp_repeat_ref (T := "list") (U := "int") (by decide) ⟨_, ho, rfl⟩ (fun s' => typeIs_int s' k t) noFill_list_mul PySem.F.fills_int_mul PySem.F.slot_int_rmul repeat_list PySem.F.slot_int_index.lookup
    (call_meets PySem.F.slot_int_rmul (typeIs_int s k t) PySem.F.entry_int_rmul (PySem.F.args_int_rmul_2 _ _) (lm_int_rmul_list_any k t l its.toArray n none sl)
      ⟨ho, rfl, ⟨_, ho, rfl⟩, call_meets PySem.F.slot_list_mul ⟨_, ho, rfl⟩ PySem.F.entry_list_mul (PySem.F.args_list_mul_2 _ _)
        (lm_list_mul_any l its.toArray n none sl k t (by simp [Builtin.List.listFitsIndex]; omega) (by omega) (by simp [Builtin.List.listTooLong, sizeLine]; simp at hsz'; omega))
        ⟨ho, ?_⟩⟩)
  refine ⟨.ref _, upd H s.heap.objs.size (.lst (List.replicate k.toNat xs).flatten), I.laid (t' := s.toks) (fun b o e => Heap.get?_push_of_some _ e) (Nat.le_refl _) ?_, rfl, q _ (I.hok.fresh (Nat.le_refl _))⟩
  refine ⟨?_, _, 0, Vals.rep r k.toNat, ?_⟩
  · rw [List.length_flatten, List.map_replicate, List.sum_replicate_nat, Nat.mul_comm]
    exact hz
  · rw [Heap.get?_push_size _ rfl, listMul_foldl_if]
def rPgL (K : PySem.W.Frag) : V → V → Hp → VK → Prop := rIxL K
theorem pget_list {X : Cx} : PGet X (rPgL X.K) := by
  intro pins s σ H o i ov iv Q I ro ri h
  obtain ⟨p, xs, i, z, rfl, rfl, hq, he, q⟩ := h
  cases ro
  obtain ⟨t, rfl⟩ := ri
  obtain ⟨its, r, pl, hz⟩ := I.list hq
  obtain ⟨j, h1, h2, h3, h4, h5⟩ := atI_get he
  obtain ⟨w, ew, rw'⟩ := r.get h2
  have hl := r.length
  have hn := line63
  have fin : EP X pins σ Q w s := ⟨z, H, I, rw', q⟩
  by_cases h0 : 0 ≤ i
  · have hj : i.toNat = j := by
      rw [seqIndex_of h0 h5] at h1
      exact Option.some.inj h1
    exact wpAny_getItem_list pl.isList h0 (by omega) (by rw [hj]; simpa using ew) fin
  · have hj : (i + (its.toArray.size : Int)).toNat = j := by
      rw [seqIndex_neg (by omega) h4] at h1
      rw [List.size_toArray, ← hl]
      exact Option.some.inj h1
    exact wpAny_getItem_list_neg pl.isList (by omega) (by rw [List.size_toArray] <;> omega) (by omega) (by rw [hj]; simpa using ew) fin

def catM {α : Type} (x y : List α) : M (List α) := chk (x.length + y.length ≤ sizeLine) >>= fun _ => .ok (x ++ y)
def repM {α : Type} (x : List α) (k : Int) : M (List α) := chk (-(2 ^ 63) ≤ k ∧ k < 2 ^ 63 ∧ x.length * k.toNat ≤ sizeLine) >>= fun _ => .ok (List.replicate k.toNat x).flatten
section
variable {X : Cx} {Γ Γx : List SL} {e a b c : Expr} {es : List Expr} {rest : List Stmt} {pos p : Pos} {α β γ : Type} [Enc α] [Enc β] [Enc γ] {w w' : Bool} {τ : Type} {E : Eds τ}
theorem vo_cat {m1 m2 : M (List α)} (ha : VX false X Γ a m1) (hb : VX false X Γ b m2) : VO X Γ (.BinOp a .Add b pos) ow1 (m1 >>= fun x => m2 >>= fun y => catM x y) := fun W tk σ I H T mw Q o => by
  refine to_t (pe_op op_catS pe_of pe_of) (ha.ap tk mw o.bind (fun l _ o1 v I1 H1 g1 r1 => ?_) fun _ z => z)
  refine hb.ap tk (mw.gr g1) o1.bind (fun l2 _ o2 u I2 H2 g2 r2 => ?_) fun _ z => z.gr g1
  unfold catM at o2
  obtain ⟨hz, o3⟩ := o2.chk
  obtain ⟨p, xs, rfl, hq, rs⟩ := (r1.mono g2.i0).lst_inv
  obtain ⟨p2, ys, rfl, hq2, rs2⟩ := R.lst_inv r2
  refine ⟨p, p2, xs, ys, rfl, rfl, g2.ih.seq hq, g2.ih.seq hq2, by rw [rs.length, rs2.length, List.length_map, List.length_map]; exact hz, fun p hp => ?_⟩
  refine o3 _ I2 _ [p] (by have := Wd.ow (g1.trans g2) (fun _ z => nomatch z) (Wd.new (o := .lst (xs ++ ys)) g2.ih hp); simpa using this) (ow1_new ?_)
  rw [List.map_append]
  exact Rs.append rs rs2
theorem vo_catB [Atm α] {m1 m2 : M (List α)} (ha : VX true X Γ a m1) (hb : VX true X Γ b m2) : VO X Γ (.BinOp a .Add b pos) ow1 (m1 >>= fun x => m2 >>= fun y => catM x y) := fun W tk σ I H T mw Q o => by
  refine to_t (pe_op op_catS pe_of pe_of) (ha.ap tk mw o.bind (fun l _ o1 v I1 H1 g1 r1 => ?_) fun _ z => z)
  refine hb.ap tk (mw.gr g1) o1.bind (fun l2 _ o2 u I2 H2 g2 r2 => ?_) fun _ z => z.gr g1
  unfold catM at o2
  obtain ⟨hz, o3⟩ := o2.chk
  obtain ⟨p, xs, rfl, hq, rs⟩ := (r1.mono g2.h0).lst_inv
  obtain ⟨p2, ys, rfl, hq2, rs2⟩ := R.lst_inv r2
  refine ⟨p, p2, xs, ys, rfl, rfl, hq, hq2, by rw [rs.length, rs2.length, List.length_map, List.length_map]; exact hz, fun p hp => ?_⟩
  refine o3 _ I2 _ [p] (by have := Wd.ow (g1.trans g2) (fun _ z => nomatch z) (Wd.new (o := .lst (xs ++ ys)) g2.ih hp); simpa using this) (ow1_new ?_)
  rw [List.map_append]
  exact Rs.append rs.atoms rs2.atoms
theorem Rs.rep {K : PySem.W.Frag} {mg : Str → Option Value} {H : Hp} {xs : List V} {l : List α} (h : Rs K mg H xs (l.map enc)) : ∀ n, Rs K mg H (List.replicate n xs).flatten ((List.replicate n l).flatten.map enc)
  | 0 => .nil
  | n + 1 => by
    rw [List.replicate_succ, List.replicate_succ, List.flatten_cons, List.flatten_cons, List.map_append]
    exact h.append (Rs.rep h n)
theorem vo_rep {m1 : M (List α)} {m2 : M Int} (ha : VX false X Γ a m1) (hb : VX true X Γ b m2) : VO X Γ (.BinOp a .Mult b pos) ow1 (m1 >>= fun x => m2 >>= fun y => repM x y) := fun W tk σ I H T mw Q o => by
  refine to_t (pe_op op_repS pe_of pe_of) (ha.ap tk mw o.bind (fun l _ o1 v I1 H1 g1 r1 => ?_) fun _ z => z)
  refine hb.ap tk (mw.gr g1) o1.bind (fun k _ o2 u I2 H2 g2 r2 => ?_) fun _ z => z.gr g1
  cases r2
  unfold repM at o2
  obtain ⟨⟨h1, h2, hz⟩, o3⟩ := o2.chk
  obtain ⟨p, xs, rfl, hq, rs⟩ := (r1.mono g2.i0).lst_inv
  refine ⟨p, k, xs, rfl, rfl, g2.ih.seq hq, h1, h2, by rw [rs.length, List.length_map]; exact hz, fun p hp => ?_⟩
  exact o3 _ I2 _ [p] (by have := Wd.ow (g1.trans g2) (fun _ z => nomatch z) (Wd.new (o := .lst (List.replicate k.toNat xs).flatten) g2.ih hp); simpa using this) (ow1_new (Rs.rep rs _))
/-! slices -/
theorem po_of {X : Cx} {e : Option Expr} : PO X e (oOf X e) := ⟨fun pins s σ H Q I h => h pins s I⟩
theorem VP.ap {e : Option Expr} {m : M (Option Int)} (h : VP X Γ e m) {W : WX} (tk : L2N.Takes X W) {σ : L2.St} {I H : Hp} {T : List Addr} (mw : Mw X.K X.mg Γ σ I H T) {Q : Option Int → Hp → Prop} {P : Option Int → Prop} {E : Exn → Prop} (o : Out m P E)
    (hP : ∀ a, m = .ok a → P a → ∀ I' H', Gr I H I' H' → Q a H') (hE : ∀ ex, E ex → XO X W σ I H ex) : oOf X e σ H Q := fun pins s In => by
  obtain ⟨t, p, q⟩ := h W tk σ I H T mw Q (o.mono hP fun ex _ k => hE ex k)
  exact p.run pins s σ H Q In q
theorem vo_sl {m : M (List α)} {lo hi : Option Expr} {ml mh : M (Option Int)} {p2 : Pos} (h : VX false X Γ e m) (hl : VP X Γ lo ml) (hh : VP X Γ hi mh) : VO X Γ (.Subscript e (.Slice lo hi none p2) pos) ow1 (m >>= fun l => ml >>= fun i => mh >>= fun j => M.ok (cutL l i j)) := fun W tk σ I H T mw Q o => by
  refine to_t (pe_slice sl_list pe_of po_of po_of) (h.ap tk mw o.bind (fun l _ o1 v I1 H1 g1 r1 => ?_) fun _ z => z)
  refine hl.ap tk (mw.gr g1) o1.bind (fun i _ o2 I2 H2 g2 => ?_) fun _ z => z.gr g1
  refine hh.ap tk ((mw.gr g1).gr g2) o2.bind (fun j _ o3 I3 H3 g3 => ?_) fun _ z => (z.gr g1).gr g2
  obtain ⟨p, xs, rfl, hq, rs⟩ := ((r1.mono g2.i0).mono g3.i0).lst_inv
  exact ⟨p, xs, rfl, g3.ih.seq hq, fun p hp => o3 _ I3 _ [p] (by have := Wd.ow ((g1.trans g2).trans g3) (fun _ z => nomatch z) (Wd.new (o := .lst (cutV xs i j)) g3.ih hp); simpa using this) (ow1_new rs.cut)⟩
theorem vo_slB [Atm α] {m : M (List α)} {lo hi : Option Expr} {ml mh : M (Option Int)} {p2 : Pos} (h : VX true X Γ e m) (hl : VP X Γ lo ml) (hh : VP X Γ hi mh) : VO X Γ (.Subscript e (.Slice lo hi none p2) pos) ow1 (m >>= fun l => ml >>= fun i => mh >>= fun j => M.ok (cutL l i j)) := fun W tk σ I H T mw Q o => by
  refine to_t (pe_slice sl_list pe_of po_of po_of) (h.ap tk mw o.bind (fun l _ o1 v I1 H1 g1 r1 => ?_) fun _ z => z)
  refine hl.ap tk (mw.gr g1) o1.bind (fun i _ o2 I2 H2 g2 => ?_) fun _ z => z.gr g1
  refine hh.ap tk ((mw.gr g1).gr g2) o2.bind (fun j _ o3 I3 H3 g3 => ?_) fun _ z => (z.gr g1).gr g2
  obtain ⟨p, xs, rfl, hq, rs⟩ := ((r1.mono g2.h0).mono g3.h0).lst_inv
  exact ⟨p, xs, rfl, hq, fun p hp => o3 _ I3 _ [p] (by have := Wd.ow ((g1.trans g2).trans g3) (fun _ z => nomatch z) (Wd.new (o := .lst (cutV xs i j)) g3.ih hp); simpa using this) (ow1_new rs.cut.atoms)⟩

/-! ### owned lists changed -/
theorem ow1_inv {l : List α} : ow1 l = O.lst ((l.map enc).map O.imm) := by unfold ow1; rw [List.map_map]; rfl
/-- an owned list at a slot: what stands there, and its change -/
theorem own_at {I0 H0 : Hp} {σ : L2.St} {I H : Hp} {T : List Addr} {i : Nat} {l : List α} (mt : Mt X.K X.mg I0 H0 Γ σ I H T) (hΓ : Γ[i]? = some (sO l)) : ∃ q xs, σ[i]? = some (some (.ref q)) ∧ H q = some (.lst xs) ∧ Rs X.K X.mg I xs (l.map enc) ∧
    ∀ I' H', Gr I H I' H' → H' q = some (.lst xs) ∧ ∀ xs' (l' : List α), Rs X.K X.mg I' xs' (l'.map enc) → Mt X.K X.mg I0 H0 (Γ.set i (sO l')) σ I' (upd H' q (.lst xs')) T := by
  rw [show sO l = .val (.lst ((l.map enc).map O.imm)) from congrArg SL.val ow1_inv] at hΓ
  obtain ⟨q, xs, T2, h1, h2, h3, h4, h5, h6⟩ := mt.sl.chg mt.wd.nd hΓ
  obtain ⟨rfl, rs⟩ := h4.imm
  refine ⟨q, xs, h1, h3, rs, fun I' H' g => ⟨g.h0 _ _ h3, fun xs' l' r' => ?_⟩⟩
  have mt1 := mt.gr g
  obtain ⟨q', ys, T2', h1', h2', h3', h4', h5', h6'⟩ := mt1.sl.chg mt1.wd.nd hΓ
  obtain ⟨rfl, rs'⟩ := h4'.imm
  have eq : q' = q := by rw [h1] at h1'; cases h1'; rfl
  subst eq
  refine ⟨mt1.wd.put h2', ?_⟩
  have := h6' xs' ((l'.map enc).map O.imm) (Ows.of_imm r')
  rw [← ow1_inv] at this
  exact this
/-- x.append(e) -/
theorem vs_append (i : Nat) {x : Str} {px apos : Pos} {l : List α} {m : M α} {k : List α → M τ} (he : VE X Γ e m) (hk : ∀ l', VS X (Γ.set i (sO l')) Γx rest E (k l')) (hs : Sub Γ Γx) (hΓ : Γ[i]? = some (sO l) := by rfl) (hN : X.N[i]? = some x := by rfl)
    (hv : Vis X.env.scope x := by first | exact Or.inl rfl | exact Or.inr (Or.inl rfl) | exact Or.inr (Or.inr rfl)) (hd : (x == ("__debug__" : Str)) = false := by decide) (hcd : (x == ("__classdict__" : Str)) = false := by decide)
    (hbase : attributeBase (.Name x px) "append" X.env (eval (.Name x px) X.env) = eval (.Name x px) X.env := by rfl)
    (hfew : ((backTo p (starEach [e] X.env)).all (fun x => !x.1) && (backToKw p (keywordEach [] X.env)).all (fun x => x.1.isSome) && decide (([e] : List Expr).length + ([] : List Keyword).length + (if ([] : List Keyword).isEmpty then 0 else 1) < 30)) = true := by rfl)
    (hline : (apos.endLine == p.line) = true := by rfl) (hst : starEach [e] X.env = (false, eval e X.env) :: starEach [] X.env := by rfl) (hpl : (backTo p (starEach [] X.env)).any (·.1) = false := by rfl)
    (hsw : swapsWith (.Call (.Attribute (.Name x px) "append" apos) [e] [] p) none pos.line X.env = pure false := by rfl) :
    VS X Γ Γx (.Expr (.Call (.Attribute (.Name x px) "append" apos) [e] [] p) pos :: rest) E (m >>= fun a => chk (l.length < sizeLine) >>= fun _ => k (l ++ [a])) := fun W tk I0 H0 σ I H T mt D o => by
  obtain ⟨q, xs, h1, h3, rs, up⟩ := own_at mt hΓ
  refine seq_s (to_s1 (ps_expr (pe_bm PySem.F.plainAttrs_list PySem.F.slot_list_append PySem.F.type_list_append mt_append (pe_var hN hv hd hcd) (pa_cons pe_of pa_nil hst) hbase hfew hline hst hpl) hsw) ⟨.ref q, h1, .inl ⟨rfl, xs, .of h3⟩, ?_⟩)
  refine he.ap tk mt.mw o.bind (fun a _ o1 v I1 H1 g1 r1 => ?_) fun _ z => z.xo mt hs
  obtain ⟨hz, o2⟩ := o1.chk
  obtain ⟨h3', up'⟩ := up I1 H1 g1
  refine ⟨q, xs, v, rfl, rfl, h3', by rw [rs.length, List.length_map]; exact hz, ?_⟩
  exact rest_s (hk _) tk (up' (xs ++ [v]) (l ++ [a]) (by rw [List.map_append]; exact Rs.append (rs.mono g1.i0) (.cons r1 .nil))) o2
theorem setL_out {l : List α} {i : Int} {a : α} {P : List α → Prop} {E : Exn → Prop} (o : Out (setL l i a) P E) : ∃ j, ixN l.length i = some j ∧ P (l.set j a) := by
  unfold setL at o
  cases q : ixN l.length i with
  | none => rw [q] at o; exact o.elim
  | some j => rw [q] at o; exact ⟨j, rfl, o⟩
/-- x[j] = e -/
theorem vs_setI (i : Nat) {x : Str} {px ps : Pos} {l : List α} {m : M α} {mi : M Int} {k : List α → M τ} (he : VE X Γ e m) (hix : VX true X Γ b mi) (hk : ∀ l', VS X (Γ.set i (sO l')) Γx rest E (k l')) (hs : Sub Γ Γx) (hΓ : Γ[i]? = some (sO l) := by rfl) (hN : X.N[i]? = some x := by rfl)
    (hv : Vis X.env.scope x := by first | exact Or.inl rfl | exact Or.inr (Or.inl rfl) | exact Or.inr (Or.inr rfl)) (hd : (x == ("__debug__" : Str)) = false := by decide) (hcd : (x == ("__classdict__" : Str)) = false := by decide)
    (hst : ∀ v, assign (.Subscript (.Name x px) b ps) X.env v = (do
      let ov ← holding [v] (eval (.Name x px) X.env)
      let iv ← holding [v, ov] (eval b X.env)
      standAt ps
      holding [v, ov, iv] (setItem ov iv v)
      release [v, ov, iv] []) := by intro _; rfl)
    (hs1 : swapsWithSole [.Subscript (.Name x px) b ps] e pos.line X.env = pure false := by rfl) (hw : swappedStores [.Subscript (.Name x px) b ps] e X.env = pure none := by rfl) (hm1 : (assignEach [.Subscript (.Name x px) b ps] X.env).map (·.2) = [assign (.Subscript (.Name x px) b ps) X.env] := by rfl) :
    VS X Γ Γx (.Assign [.Subscript (.Name x px) b ps] e pos :: rest) E (m >>= fun a => mi >>= fun j => setL l j a >>= k) := fun W tk I0 H0 σ I H T mt D o => by
  obtain ⟨q, xs, h1, h3, rs, up⟩ := own_at mt hΓ
  refine seq_s (to_s1 (ps_asg pe_of (pg_sub (pe_var hN hv hd hcd) pe_of set_list hst) hs1 hw hm1) ?_)
  refine he.ap tk mt.mw o.bind (fun a _ o1 v I1 H1 g1 r1 => ?_) fun _ z => z.xo mt hs
  refine ⟨.ref q, h1, ?_⟩
  refine hix.ap tk (mt.mw.gr g1) o1.bind (fun j _ o2 u I2 H2 g2 r2 => ?_) fun _ z => (z.xo mt hs).gr g1
  cases r2
  obtain ⟨n, hn, o3⟩ := setL_out o2.bind
  obtain ⟨h3', up'⟩ := up I2 H2 (g1.trans g2)
  refine ⟨q, xs, j, n, rfl, rfl, h3', by rw [rs.length, List.length_map]; exact hn, ?_⟩
  exact rest_s (hk _) tk (up' (xs.set n v) (l.set n a) (by rw [List.map_set]; exact Rs.set (r1.mono g2.i0) n (rs.mono (g1.trans g2).i0))) o3
/-- x[j] op= e, ints -/
theorem vs_augIt (i : Nat) {x : Str} {px ps : Pos} {op : Operator} {r : R2} {f : Int → Int → M Int} {l : List Int} {m : M Int} {mi : M Int} {k : List Int → M τ} (ho : OpR X (inplaceOp op) r) (hr : ∀ x y H, ∀ Q : VK, Out (f x y) (fun z => Q (.int z) H) (fun _ => False) → r (.int x) (.int y) H Q) (hxx : ∀ x y e, f x y ≠ .exc e)
    (hix : VX true X Γ b mi) (he : VX true X Γ e m) (hk : ∀ l', VS X (Γ.set i (sO l')) Γx rest E (k l')) (hs : Sub Γ Γx) (hΓ : Γ[i]? = some (sO l) := by rfl) (hN : X.N[i]? = some x := by rfl)
    (hv : Vis X.env.scope x := by first | exact Or.inl rfl | exact Or.inr (Or.inl rfl) | exact Or.inr (Or.inr rfl)) (hd : (x == ("__debug__" : Str)) = false := by decide) (hcd : (x == ("__classdict__" : Str)) = false := by decide)
    (ha : ∀ ov iv new, augStore b ov iv new = (do holding [new, ov, iv] (setItem ov iv new); release [new, ov, iv] []; pure .next) := by intros; rfl) :
    VS X Γ Γx (.AugAssign (.Subscript (.Name x px) b ps) op e pos :: rest) E (mi >>= fun j => getI l j >>= fun a => m >>= fun y => f a y >>= fun z => setL l j z >>= k) := fun W tk I0 H0 σ I H T mt D o => by
  obtain ⟨q, xs, h1, h3, rs, up⟩ := own_at mt hΓ
  refine seq_s (to_s1 (ps_augS (pe_var hN hv hd hcd) pe_of pget_list pe_of ho set_list ha) ⟨.ref q, h1, ?_⟩)
  refine hix.ap tk mt.mw o.bind (fun j _ o1 u I1 H1 g1 r1 => ?_) fun _ z => z.xo mt hs
  cases r1
  obtain ⟨a, ea, o2⟩ := getI_out o1.bind
  obtain ⟨h3', up'⟩ := up I1 H1 g1
  obtain ⟨va, ev, rv⟩ := (rs.mono g1.i0).atI ea
  refine ⟨q, xs, j, va, rfl, rfl, .of h3', ev, ?_⟩
  refine he.ap tk (mt.mw.gr g1) o2.bind (fun y _ o3 u I2 H2 g2 r2 => ?_) fun _ z => (z.xo mt hs).gr g1
  cases r2
  cases rv
  refine hr a y H2 _ (o3.bind.mono (fun z _ o4 => ?_) fun ex q _ => hxx a y ex q)
  obtain ⟨n, hn, o5⟩ := setL_out o4.bind
  obtain ⟨h3'', up''⟩ := up I2 H2 (g1.trans g2)
  refine ⟨q, xs, j, n, rfl, rfl, h3'', by rw [rs.length, List.length_map]; exact hn, ?_⟩
  exact rest_s (hk _) tk (up'' (xs.set n (.int z)) (l.set n z) (by rw [List.map_set]; exact Rs.set (.int z) n (rs.mono (g1.trans g2).i0))) o5

/-! ### what a loop walks -/
def Yl (K : PySem.W.Frag) (mg : Str → Option Value) (J : It) (I1 H1 : Hp) (l : List α) : Prop := ∀ i I H, Same I1 I → Same I H →
  (∀ a, l[i]? = some a → J.go i H ∧ ∀ x H2, J.yld i H x H2 → ∃ I2, Gr I H I2 H2 ∧ R K mg I2 x (enc a)) ∧ (l.length ≤ i → J.stop i H)
def VI (X : Cx) (Γ : List SL) (tg e : Expr) {α : Type} [Enc α] (m : M (List α)) : Prop :=
  ∀ (W : WX), L2N.Takes X W → ∀ σ I H T, Mw X.K X.mg Γ σ I H T → ∀ R : It → Hp → Prop,
    Out m (fun l => ∀ J I' H', Gr I H I' H' → Yl X.K X.mg J I' H' l → R J H') (XO X W σ I H) → iOf X tg e σ H R
theorem VI.ap {tg : Expr} {m : M (List α)} (h : VI X Γ tg e m) {W : WX} (tk : L2N.Takes X W) {σ : L2.St} {I H : Hp} {T : List Addr} (mw : Mw X.K X.mg Γ σ I H T) {R : It → Hp → Prop} {P : List α → Prop} {E : Exn → Prop} (o : Out m P E)
    (hP : ∀ a, m = .ok a → P a → ∀ J I' H', Gr I H I' H' → Yl X.K X.mg J I' H' a → R J H') (hE : ∀ ex, E ex → XO X W σ I H ex) : iOf X tg e σ H R := h W tk σ I H T mw R (o.mono hP fun ex _ k => hE ex k)
theorem vi_list {tg : Expr} {m : M (List α)} (h : VX false X Γ e m) : VI X Γ tg e m := fun W tk σ I H T mw R o => by
  refine to_i (pi_list pe_of) (h.ap tk mw o (fun l _ k v I1 H1 g1 r1 => ?_) fun _ z => z)
  obtain ⟨p, xs, rfl, hq, rs⟩ := Vc.R.lst_inv r1
  refine ⟨p, rfl, ⟨xs, g1.ih.seq hq⟩, k _ I1 H1 g1 fun i I2 H2 s1 s2 => ⟨fun a ha => ?_, fun hi => ⟨xs, (s1.trans s2).seq hq, by rw [rs.length, List.length_map]; exact hi⟩⟩⟩
  obtain ⟨v, e1, r2⟩ := (rs.mono s1).get (i := i) (x := enc a) (by rw [List.getElem?_map, ha]; rfl)
  refine ⟨⟨xs, v, (s1.trans s2).seq hq, e1⟩, fun x H3 y => ?_⟩
  obtain ⟨rfl, y⟩ := y
  rw [y xs ((s1.trans s2).seq hq)] at e1
  cases e1
  exact ⟨I2, .refl s2, r2⟩
theorem vi_tup {tg : Expr} {m : M (Tup α)} (h : VX false X Γ e m) : VI X Γ tg e (m >>= fun t => M.ok t.l) := fun W tk σ I H T mw R o => by
  refine to_i (pi_tup pe_of) (h.ap tk mw o.bind (fun l _ k v I1 H1 g1 r1 => ?_) fun _ z => z)
  obtain ⟨p, xs, rfl, hq, rs⟩ := Vc.R.tup_inv r1
  refine ⟨p, rfl, ⟨xs, Same.seqT g1.ih hq⟩, k _ I1 H1 g1 fun i I2 H2 s1 s2 => ⟨fun a ha => ?_, fun hi => ⟨xs, Same.seqT (s1.trans s2) hq, by rw [rs.length, List.length_map]; exact hi⟩⟩⟩
  obtain ⟨v, e1, r2⟩ := (rs.mono s1).get (i := i) (x := enc a) (by rw [List.getElem?_map, ha]; rfl)
  refine ⟨⟨xs, v, Same.seqT (s1.trans s2) hq, e1⟩, fun x H3 y => ?_⟩
  obtain ⟨rfl, y⟩ := y
  rw [y xs (Same.seqT (s1.trans s2) hq)] at e1
  cases e1
  exact ⟨I2, .refl s2, r2⟩
/-- the ints of a range -/
def rng (a b : Int) : List Int := (List.range (b - a).toNat).map fun i : Nat => a + (i : Int)
theorem rng_get {a b : Int} {i : Nat} {x : Int} (h : (rng a b)[i]? = some x) : i < (b - a).toNat ∧ x = a + (i : Int) := by
  unfold rng at h
  rw [List.getElem?_map] at h
  by_cases hi : i < (b - a).toNat
  · rw [List.getElem?_range hi] at h
    exact ⟨hi, (Option.some.inj h).symm⟩
  · rw [List.getElem?_eq_none (by rw [List.length_range]; omega)] at h
    cases h
theorem rng_length (a b : Int) : (rng a b).length = (b - a).toNat := by unfold rng; rw [List.length_map, List.length_range]
theorem yl_rng {K : PySem.W.Frag} {mg : Str → Option Value} {I H : Hp} {a b : Int} : Yl K mg (Itr a (b - a).toNat) I H (rng a b) := fun i I2 H2 s1 s2 => ⟨fun x hx => by
  obtain ⟨hi, rfl⟩ := rng_get hx
  exact ⟨hi, fun y H3 z => by
    obtain ⟨rfl, rfl⟩ := z
    exact ⟨I2, .refl s2, .int _⟩⟩, fun h => by rw [rng_length] at h; exact h⟩
def rOk (a : Int) : Prop := -(2 ^ 62) ≤ a ∧ a < 2 ^ 62
instance (a : Int) : Decidable (rOk a) := by unfold rOk; infer_instance
theorem vi_range1 {tg : Expr} {m : M Int} (hm : X.mg "range" = none) (h : VX true X Γ a m) (hg : Gl X "range" := by rfl) (hs : starEach [a] X.env = [(false, eval a X.env)] := by rfl) : VI X Γ tg (.Call (.Name "range" p) [a] [] pos) (m >>= fun n => chk (rOk n) >>= fun _ => M.ok (rng 0 n)) := fun W tk σ I H T mw R o => by
  refine to_i (pi_range1 hg hm (pa_cons pe_of pa_nil hs) hs) (h.ap tk mw o.bind (fun n _ o1 v I1 H1 g1 r1 => ?_) fun _ z => z)
  cases r1
  obtain ⟨⟨h1, h2⟩, o2⟩ := o1.chk
  refine ⟨n, rfl, h1, h2, o2 _ I1 H1 g1 ?_⟩
  have := yl_rng (K := X.K) (mg := X.mg) (I := I1) (H := H1) (a := 0) (b := n)
  rw [Int.sub_zero] at this
  exact this
theorem vi_range2 {tg : Expr} {m1 m2 : M Int} (hm : X.mg "range" = none) (h : VX true X Γ a m1) (h2 : VX true X Γ b m2) (hg : Gl X "range" := by rfl) (hs : starEach [a, b] X.env = [(false, eval a X.env), (false, eval b X.env)] := by rfl) (hs2 : starEach [b] X.env = [(false, eval b X.env)] := by rfl) :
    VI X Γ tg (.Call (.Name "range" p) [a, b] [] pos) (m1 >>= fun x => m2 >>= fun y => chk (rOk x ∧ rOk y) >>= fun _ => M.ok (rng x y)) := fun W tk σ I H T mw R o => by
  refine to_i (pi_range2 hg hm (pa_cons pe_of (pa_cons pe_of pa_nil hs2) (by rw [hs, hs2])) hs hs2) (h.ap tk mw o.bind (fun x _ o1 v I1 H1 g1 r1 => ?_) fun _ z => z)
  refine h2.ap tk (mw.gr g1) o1.bind (fun y _ o2 u I2 H2 g2 r2 => ?_) fun _ z => z.gr g1
  cases r1; cases r2
  obtain ⟨⟨⟨h1, h2⟩, h3, h4⟩, o3⟩ := o2.chk
  exact ⟨x, y, rfl, ⟨h1, h2, h3, h4⟩, o3 _ I2 H2 (g1.trans g2) yl_rng⟩

/-! ### loops -/
/-- a loop that is never left -/
def loopS {α S : Type} (f : S → α → M S) : List α → S → M S
  | [], s => .ok s
  | a :: l, s => f s a >>= fun s' => loopS f l s'
@[simp] theorem loopS_nil {α S : Type} (f : S → α → M S) (s : S) : loopS f [] s = .ok s := rfl
@[simp] theorem loopS_cons {α S : Type} (f : S → α → M S) (a : α) (l : List α) (s : S) : loopS f (a :: l) s = f s a >>= fun s' => loopS f l s' := rfl
inductive Stp (S τ : Type) where
  | nx (s : S)
  | bk (s : S)
  | rt (t : τ)
/-- a loop with break, return -/
def loopM {α S τ : Type} (f : S → α → M (Stp S τ)) : List α → S → M (Stp S τ)
  | [], s => .ok (.nx s)
  | a :: l, s => f s a >>= fun r => match r with
    | .nx s' => loopM f l s'
    | .bk s' => .ok (.bk s')
    | .rt t => .ok (.rt t)
@[simp] theorem loopM_nil {α S τ : Type} (f : S → α → M (Stp S τ)) (s : S) : loopM f [] s = .ok (.nx s) := rfl
theorem loopM_cons {α S τ : Type} (f : S → α → M (Stp S τ)) (a : α) (l : List α) (s : S) : loopM f (a :: l) s = f s a >>= fun r => match r with
    | .nx s' => loopM f l s'
    | .bk s' => .ok (.bk s')
    | .rt t => .ok (.rt t) := rfl
def Stp.on {S τ : Type} (r : Stp S τ) (k : S → M τ) : M τ := match r with
  | .nx s => k s
  | .bk s => k s
  | .rt t => .ok t
@[simp] theorem Stp.on_nx {S τ : Type} (s : S) (k : S → M τ) : Stp.on (.nx s) k = k s := rfl
@[simp] theorem Stp.on_bk {S τ : Type} (s : S) (k : S → M τ) : Stp.on (.bk s) k = k s := rfl
@[simp] theorem Stp.on_rt {S τ : Type} (t : τ) (k : S → M τ) : Stp.on (.rt t) k = .ok t := rfl
def eSt {S τ : Type} (F : S → List SL) (E : Eds τ) : Eds (Stp S τ) where
  nx := fun Γ' r => ∃ s, r = .nx s ∧ Sub Γ' (F s)
  ct := fun Γ' r => ∃ s, r = .nx s ∧ Sub Γ' (F s)
  bk := fun Γ' r => ∃ s, r = .bk s ∧ Sub Γ' (F s)
  rt := fun o r => ∃ t, r = .rt t ∧ E.rt o t
def eLp {S : Type} (F : S → List SL) : Eds S where
  nx := fun Γ' s => Sub Γ' (F s)
  ct := fun Γ' s => Sub Γ' (F s)
theorem Wd.re {I0 H0 I H I' H' : Hp} {T T' : List Addr} (w : Wd I0 H0 I H T) (w' : Wd I H0 I' H' T') : Wd I0 H0 I' H' T' :=
  ⟨w'.ih, w.i0.trans w'.i0, w'.h0, w'.fr, w'.nd, fun p h h' => w'.sep p h (w.sep p h h')⟩
theorem Mt.re {K : PySem.W.Frag} {mg : Str → Option Value} {I0 H0 I H I' H' : Hp} {T T' : List Addr} {Γ' : List SL} {σ' : L2.St} (w : Wd I0 H0 I H T) (m : Mt K mg I H0 Γ' σ' I' H' T') : Mt K mg I0 H0 Γ' σ' I' H' T' := ⟨w.re m.wd, m.sl⟩
theorem XS.re {X : Cx} {W : WX} {I0 H0 I H : Hp} {T : List Addr} {Γx : List SL} {ex : Exn} (w : Wd I0 H0 I H T) (h : XS X W I0 H0 Γx ex) : XS X W I H0 Γx ex := fun cl d σ' I' H' T' mt a => h cl d σ' I' H' T' (Mt.re w mt) a
theorem Mt.root {K : PySem.W.Frag} {mg : Str → Option Value} {I0 H0 I H : Hp} {T : List Addr} {Γ : List SL} {σ : L2.St} (m : Mt K mg I0 H0 Γ σ I H T) : Mt K mg I H0 Γ σ I H T := ⟨⟨m.wd.ih, .refl _, m.wd.h0, m.wd.fr, m.wd.nd, fun _ _ z => z⟩, m.sl⟩
/-- the core of a for: a loop function whose turn is f, given by its unfolding -/
theorem for_core {S R : Type} {n : Nat} (F : S → List SL) (s0 : S) {tg : Expr} {vs : List Nat} {u : α → List SL → List SL} {m : M (List α)} {body : List Stmt} {EB : Eds R} {b : S → α → M R} {lp : List α → S → M τ} (hp : PassesOwn (model X.prog X.w) X.A X.env X.xe) (hc : X.calm = true) (hi : VI X Γ tg e m) (hg : VG X n tg vs u)
    (hb : ∀ s a, VS X (u a (F s)) Γx body EB (b s a))
    (hk : ∀ s, VS X (F s) Γx rest E (lp [] s)) (fin : R → List α → M τ) (hlp : ∀ s a l, lp (a :: l) s = b s a >>= fun r => fin r l)
    (hnx : ∀ r l Γ', EB.nx Γ' r → ∃ s, Sub Γ' (F s) ∧ fin r l = lp l s) (hct : ∀ r l Γ', EB.ct Γ' r → ∃ s, Sub Γ' (F s) ∧ fin r l = lp l s)
    (hbk : ∀ r l Γ', EB.bk Γ' r → ∃ s, Sub Γ' (F s) ∧ fin r l = lp [] s) (hrt : ∀ r l o, EB.rt o r → ∃ t, fin r l = .ok t ∧ E.rt o t)
    (h0 : Sub Γ (F s0)) (hs : Sub Γ Γx) (hn : ∀ s, (F s).length = n) (hf : ∀ x, foldedSetIterable e X.env x = pure x) :
    VS X Γ Γx (.For tg e body [] pos :: rest) E (m >>= fun l => lp l s0) := fun W tk I0 H0 σ I H T mt D o => by
  refine seq_s (to_s1 (ps_for hp hc pi_of pg_of pss_of hf) ?_)
  refine hi.ap tk mt.mw o.bind (fun l _ o1 J I1 H1 g1 yl => ?_) fun _ z => z.xo mt hs
  obtain ⟨T1, mt1⟩ := (mt.gr g1).sub h0
  refine ⟨fun i m σ' H' => m = l.length - i ∧ i ≤ l.length ∧ ∃ s I' T', Mt X.K X.mg I0 H0 (F s) σ' I' H' T' ∧ Same I1 I' ∧ Out (lp (l.drop i) s) (DO X I0 H0 E D) (XS X W I0 H0 Γx), ⟨l.length, rfl, Nat.zero_le _, s0, I1, T1, mt1, .refl _, o1⟩, ?_⟩
  rintro i _ σ' H' ⟨rfl, hi, s, I', T', mt', s1, o'⟩
  obtain ⟨go, stop⟩ := yl i I' H' s1 mt'.wd.ih
  by_cases hlt : i < l.length
  · obtain ⟨g2, y2⟩ := go l[i] (List.getElem?_eq_getElem hlt)
    rw [List.drop_eq_getElem_cons hlt, hlp] at o'
    refine .inr ⟨g2, fun σ2 H2 => ∃ s I' T', Mt X.K X.mg I0 H0 (F s) σ2 I' H2 T' ∧ Same I1 I' ∧ Out (lp (l.drop (i + 1)) s) (DO X I0 H0 E D) (XS X W I0 H0 Γx), fun σ2 H2 h => ⟨l.length - (i + 1), by omega, rfl, hlt, h⟩, fun x H2 y => ?_⟩
    obtain ⟨I2, g3, r3⟩ := y2 x H2 y
    have mt2 := mt'.gr g3
    refine hg (F s) (hn s) x l[i] σ' I2 H2 T' mt2.mw r3 _ fun σ3 T3 _ _ s3 c3 d3 => ?_
    have mt4 : Mt X.K X.mg I0 H0 (u l[i] (F s)) σ3 I2 H2 T3 := ⟨⟨mt2.wd.ih, mt2.wd.i0, mt2.wd.h0, fun p hp => mt2.wd.fr p (c3 p hp), d3, mt2.wd.sep⟩, s3⟩
    have w0 := mt4.wd
    refine hb s l[i] W tk I2 H0 σ3 I2 H2 T3 mt4.root _ (o'.bind.mono (fun r _ o2 => ?_) fun ex _ z => z.re w0)
    refine ⟨fun Γ' σ4 I4 H4 T4 z mt5 => ?_, fun Γ' σ4 I4 H4 T4 z mt5 => ?_, fun Γ' σ4 I4 H4 T4 z mt5 => ?_, fun ow v I4 H4 T4 z wd5 q => ?_⟩
    · obtain ⟨s', hsub, e⟩ := hnx r (l.drop (i + 1)) Γ' z
      rw [e] at o2
      obtain ⟨T5, mt6⟩ := (Mt.re w0 mt5).sub hsub
      exact ⟨s', I4, T5, mt6, (s1.trans g3.i0).trans mt5.wd.i0, o2⟩
    · obtain ⟨s', hsub, e⟩ := hbk r (l.drop (i + 1)) Γ' z
      rw [e] at o2
      obtain ⟨T5, mt6⟩ := (Mt.re w0 mt5).sub hsub
      exact rest_s (hk s') tk mt6 o2
    · obtain ⟨s', hsub, e⟩ := hct r (l.drop (i + 1)) Γ' z
      rw [e] at o2
      obtain ⟨T5, mt6⟩ := (Mt.re w0 mt5).sub hsub
      exact ⟨s', I4, T5, mt6, (s1.trans g3.i0).trans mt5.wd.i0, o2⟩
    · obtain ⟨t, e, ht⟩ := hrt r (l.drop (i + 1)) ow z
      rw [e] at o2
      exact DO.rt (E := E) o2 ow v I4 H4 T4 ht (w0.re wd5) q
  · have e : i = l.length := by omega
    subst e
    rw [List.drop_length] at o'
    exact .inl ⟨stop (Nat.le_refl _), rest_s (hk s) tk mt' o'⟩
/-- a for with break, return -/
theorem vs_for {S : Type} {n : Nat} (F : S → List SL) (s0 : S) {tg : Expr} {vs : List Nat} {u : α → List SL → List SL} {m : M (List α)} {body : List Stmt} {b : S → α → M (Stp S τ)} {k : S → M τ} (hp : PassesOwn (model X.prog X.w) X.A X.env X.xe) (hc : X.calm = true) (hi : VI X Γ tg e m) (hg : VG X n tg vs u)
    (hb : ∀ s a, VS X (u a (F s)) Γx body (eSt F E) (b s a)) (hk : ∀ s, VS X (F s) Γx rest E (k s)) (h0 : Sub Γ (F s0)) (hs : Sub Γ Γx) (hn : ∀ s, (F s).length = n := by exact fun _ => rfl) (hf : ∀ x, foldedSetIterable e X.env x = pure x := by intro _; rfl) :
    VS X Γ Γx (.For tg e body [] pos :: rest) E (m >>= fun l => loopM b l s0 >>= fun r => r.on k) :=
  for_core (lp := fun l s => loopM b l s >>= fun r => r.on k) F s0 hp hc hi hg hb hk (fun r l => match r with | .nx s => loopM b l s >>= fun r => r.on k | .bk s => k s | .rt t => .ok t)
    (fun s a l => by
      rw [loopM_cons, M.bind_assoc]
      congr 1
      funext r
      cases r <;> rfl)
    (fun r l Γ' ⟨s, e, h⟩ => ⟨s, h, by rw [e]⟩) (fun r l Γ' ⟨s, e, h⟩ => ⟨s, h, by rw [e]⟩) (fun r l Γ' ⟨s, e, h⟩ => ⟨s, h, by rw [e]; rfl⟩) (fun r l o ⟨t, e, h⟩ => ⟨t, by rw [e], h⟩) h0 hs hn hf
/-- a for that is never left -/
theorem vs_forS {S : Type} {n : Nat} (F : S → List SL) (s0 : S) {tg : Expr} {vs : List Nat} {u : α → List SL → List SL} {m : M (List α)} {body : List Stmt} {b : S → α → M S} {k : S → M τ} (hp : PassesOwn (model X.prog X.w) X.A X.env X.xe) (hc : X.calm = true) (hi : VI X Γ tg e m) (hg : VG X n tg vs u)
    (hb : ∀ s a, VS X (u a (F s)) Γx body (eLp F) (b s a)) (hk : ∀ s, VS X (F s) Γx rest E (k s)) (h0 : Sub Γ (F s0)) (hs : Sub Γ Γx) (hn : ∀ s, (F s).length = n := by exact fun _ => rfl) (hf : ∀ x, foldedSetIterable e X.env x = pure x := by intro _; rfl) :
    VS X Γ Γx (.For tg e body [] pos :: rest) E (m >>= fun l => loopS b l s0 >>= k) :=
  for_core (lp := fun l s => loopS b l s >>= k) F s0 hp hc hi hg hb hk (fun r l => loopS b l r >>= k)
    (fun s a l => by rw [loopS_cons, M.bind_assoc])
    (fun r l Γ' h => ⟨r, h, rfl⟩) (fun r l Γ' h => ⟨r, h, rfl⟩) (fun r l Γ' h => h.elim) (fun r l o h => h.elim) h0 hs hn hf

/-! ### while -/
def whileM {S : Type} (c : S → M Bool) (f : S → M S) : Nat → S → M S
  | 0, _ => .stuck
  | n + 1, s => c s >>= fun x => if x then f s >>= fun s' => whileM c f n s' else .ok s
theorem whileM_succ {S : Type} (c : S → M Bool) (f : S → M S) (n : Nat) (s : S) : whileM c f (n + 1) s = c s >>= fun x => if x then f s >>= fun s' => whileM c f n s' else .ok s := rfl
def whileR {S τ : Type} (c : S → M Bool) (f : S → M (Stp S τ)) : Nat → S → M (Stp S τ)
  | 0, _ => .stuck
  | n + 1, s => c s >>= fun x => if x then f s >>= fun r => match r with
    | .nx s' => whileR c f n s'
    | .bk s' => .ok (.bk s')
    | .rt t => .ok (.rt t) else .ok (.nx s)
theorem whileR_succ {S τ : Type} (c : S → M Bool) (f : S → M (Stp S τ)) (n : Nat) (s : S) : whileR c f (n + 1) s = c s >>= fun x => if x then f s >>= fun r => match r with
    | .nx s' => whileR c f n s'
    | .bk s' => .ok (.bk s')
    | .rt t => .ok (.rt t) else .ok (.nx s) := rfl
theorem while_core {S R : Type} (F : S → List SL) (s0 : S) (fuel : Nat) {c : Expr} {mc : S → M Bool} {body : List Stmt} {EB : Eds R} {b : S → M R} {lp : Nat → S → M τ} {k : S → M τ} (hp : PassesOwn (model X.prog X.w) X.A X.env X.xe) (hc : ∀ s, VT X (F s) c (mc s))
    (hb : ∀ s, VS X (F s) Γx body EB (b s)) (hk : ∀ s, VS X (F s) Γx rest E (k s)) (fin : R → Nat → M τ) (hl0 : ∀ s, lp 0 s = .stuck) (hlp : ∀ s n, lp (n + 1) s = mc s >>= fun x => if x then b s >>= fun r => fin r n else k s)
    (hnx : ∀ r l Γ', EB.nx Γ' r → ∃ s, Sub Γ' (F s) ∧ fin r l = lp l s) (hct : ∀ r l Γ', EB.ct Γ' r → ∃ s, Sub Γ' (F s) ∧ fin r l = lp l s)
    (hbk : ∀ r l Γ', EB.bk Γ' r → ∃ s, Sub Γ' (F s) ∧ fin r l = k s) (hrt : ∀ r l o, EB.rt o r → ∃ t, fin r l = .ok t ∧ E.rt o t)
    (h0 : Sub Γ (F s0)) (hs : ∀ s, Sub (F s) Γx) : VS X Γ Γx (.While c body [] pos :: rest) E (lp fuel s0) := fun W tk I0 H0 σ I H T mt D o => by
  refine seq_s (to_s1 (ps_while hp pt_of pss_of) ?_)
  obtain ⟨T1, mt1⟩ := mt.sub h0
  refine ⟨fun n σ' H' => ∃ s I' T', Mt X.K X.mg I0 H0 (F s) σ' I' H' T' ∧ Out (lp n s) (DO X I0 H0 E D) (XS X W I0 H0 Γx), ⟨fuel, s0, I, T1, mt1, o⟩, ?_⟩
  rintro n σ' H' ⟨s, I', T', mt', o'⟩
  cases n with
  | zero => rw [hl0] at o'; exact o'.elim
  | succ n =>
    rw [hlp] at o'
    refine (hc s).ap tk mt'.mw o'.bind (fun x _ o1 I1 H1 g1 => ?_) fun _ z => z.xo mt' (hs s)
    have mt1 := mt'.gr g1
    cases x with
    | false =>
      refine iteF (rest_s (hk s) tk mt1 ?_)
      exact o1
    | true =>
      refine iteT ⟨fun σ2 H2 => ∃ s I' T', Mt X.K X.mg I0 H0 (F s) σ2 I' H2 T' ∧ Out (lp n s) (DO X I0 H0 E D) (XS X W I0 H0 Γx), fun σ2 H2 h => ⟨n, Nat.lt_succ_self n, h⟩, ?_⟩
      have o1 : Out (b s >>= fun r => fin r n) (DO X I0 H0 E D) (XS X W I0 H0 Γx) := o1
      refine hb s W tk I0 H0 σ' I1 H1 T' mt1 _ (o1.bind.mono (fun r _ o2 => ?_) fun _ _ z => z)
      refine ⟨fun Γ' σ4 I4 H4 T4 z mt5 => ?_, fun Γ' σ4 I4 H4 T4 z mt5 => ?_, fun Γ' σ4 I4 H4 T4 z mt5 => ?_, fun ow v I4 H4 T4 z wd5 q => ?_⟩
      · obtain ⟨s', hsub, e⟩ := hnx r n Γ' z
        rw [e] at o2
        obtain ⟨T5, mt6⟩ := mt5.sub hsub
        exact ⟨s', I4, T5, mt6, o2⟩
      · obtain ⟨s', hsub, e⟩ := hbk r n Γ' z
        rw [e] at o2
        obtain ⟨T5, mt6⟩ := mt5.sub hsub
        exact rest_s (hk s') tk mt6 o2
      · obtain ⟨s', hsub, e⟩ := hct r n Γ' z
        rw [e] at o2
        obtain ⟨T5, mt6⟩ := mt5.sub hsub
        exact ⟨s', I4, T5, mt6, o2⟩
      · obtain ⟨t, e, ht⟩ := hrt r n ow z
        rw [e] at o2
        exact DO.rt (E := E) o2 ow v I4 H4 T4 ht wd5 q
theorem vs_whileS {S : Type} (F : S → List SL) (s0 : S) (fuel : Nat) {c : Expr} {mc : S → M Bool} {body : List Stmt} {b : S → M S} {k : S → M τ} (hp : PassesOwn (model X.prog X.w) X.A X.env X.xe) (hc : ∀ s, VT X (F s) c (mc s)) (hb : ∀ s, VS X (F s) Γx body (eLp F) (b s)) (hk : ∀ s, VS X (F s) Γx rest E (k s)) (h0 : Sub Γ (F s0)) (hs : ∀ s, Sub (F s) Γx) :
    VS X Γ Γx (.While c body [] pos :: rest) E (whileM mc b fuel s0 >>= k) :=
  while_core (lp := fun n s => whileM mc b n s >>= k) F s0 fuel hp hc hb hk (fun r n => whileM mc b n r >>= k) (fun _ => rfl) (fun s n => by
    rw [whileM_succ, M.bind_assoc]
    congr 1
    funext x
    cases x
    · rfl
    · simp only [if_true]; rw [M.bind_assoc]) (fun r l Γ' h => ⟨r, h, rfl⟩) (fun r l Γ' h => ⟨r, h, rfl⟩) (fun r l Γ' h => h.elim) (fun r l o h => h.elim) h0 hs
theorem vs_while {S : Type} (F : S → List SL) (s0 : S) (fuel : Nat) {c : Expr} {mc : S → M Bool} {body : List Stmt} {b : S → M (Stp S τ)} {k : S → M τ} (hp : PassesOwn (model X.prog X.w) X.A X.env X.xe) (hc : ∀ s, VT X (F s) c (mc s)) (hb : ∀ s, VS X (F s) Γx body (eSt F E) (b s)) (hk : ∀ s, VS X (F s) Γx rest E (k s)) (h0 : Sub Γ (F s0)) (hs : ∀ s, Sub (F s) Γx) :
    VS X Γ Γx (.While c body [] pos :: rest) E (whileR mc b fuel s0 >>= fun r => r.on k) :=
  while_core (lp := fun n s => whileR mc b n s >>= fun r => r.on k) F s0 fuel hp hc hb hk (fun r n => match r with | .nx s => whileR mc b n s >>= fun r => r.on k | .bk s => k s | .rt t => .ok t) (fun _ => rfl) (fun s n => by
    rw [whileR_succ, M.bind_assoc]
    congr 1
    funext x
    cases x
    · rfl
    · simp only [if_true]; rw [M.bind_assoc]; congr 1; funext r; cases r <;> rfl) (fun r l Γ' ⟨s, e, h⟩ => ⟨s, h, by rw [e]⟩) (fun r l Γ' ⟨s, e, h⟩ => ⟨s, h, by rw [e]⟩) (fun r l Γ' ⟨s, e, h⟩ => ⟨s, h, by rw [e]⟩) (fun r l o ⟨t, e, h⟩ => ⟨t, by rw [e], h⟩) h0 hs
end
end Vc

set_option Elab.async false
set_option linter.all false
set_option maxRecDepth 100000
namespace Vc
open PySem PySem.Spec PyProof.Rows L2
open Enc (enc)
theorem takes0N {X : Cx} : L2N.Takes X (fun _ _ _ _ => False) := fun _ _ x => by
  obtain ⟨_, _, _, _, _, _, _, _, _, _, _, _, _, _, _, _, z⟩ := x
  exact z.elim

/-! ### comprehensions -/
/-- [f a for a in l if t a] -/
def lcGo {α β : Type} (t : α → M Bool) (f : α → M β) : List α → M (List β)
  | [] => .ok []
  | a :: l => t a >>= fun c => if c then f a >>= fun b => lcGo t f l >>= fun r => .ok (b :: r) else lcGo t f l
def lcM {α β : Type} (t : α → M Bool) (f : α → M β) (l : List α) : M (List β) := chk (l.length ≤ sizeLine) >>= fun _ => nox (lcGo t f l)
/-- [f a for a in l] -/
def mapGo {α β : Type} (f : α → M β) : List α → M (List β)
  | [] => .ok []
  | a :: l => f a >>= fun b => mapGo f l >>= fun r => .ok (b :: r)
def mapM' {α β : Type} (f : α → M β) (l : List α) : M (List β) := chk (l.length ≤ sizeLine) >>= fun _ => nox (mapGo f l)
theorem lcGo_yes {α β : Type} (f : α → M β) (l : List α) : lcGo (fun _ => .ok true) f l = mapGo f l := by
  induction l with
  | nil => rfl
  | cons a l ih =>
    show (f a >>= fun b => lcGo _ f l >>= fun r => M.ok (b :: r)) = f a >>= fun b => mapGo f l >>= fun r => M.ok (b :: r)
    rw [ih]
theorem nox_out {α : Type} {m : M α} {P : α → Prop} {E : Exn → Prop} (o : Out (nox m) P E) : Out m P fun _ => False := by
  cases m with
  | ok a => exact o
  | stuck => exact o
  | exc e => exact o
theorem nox_exc {α : Type} {m : M α} {e : Exn} : nox m ≠ .exc e := by cases m <;> intro h <;> cases h
section
variable {X : Cx} {Γ Γx : List SL} {e a b c : Expr} {es : List Expr} {rest : List Stmt} {pos p : Pos} {α β γ : Type} [Enc α] [Enc β] [Enc γ] {w w' : Bool} {τ : Type} {E : Eds τ}
def wipeG (Γ : List SL) : List Nat → List SL
  | [] => Γ
  | v :: vs => (wipeG Γ vs).set v .any
theorem wipeG_length (Γ : List SL) : ∀ vs, (wipeG Γ vs).length = Γ.length
  | [] => rfl
  | v :: vs => by show ((wipeG Γ vs).set v .any).length = _; rw [List.length_set, wipeG_length Γ vs]
theorem Sls.anyAt {K : PySem.W.Frag} {mg : Str → Option Value} {I H : Hp} : ∀ {σ : L2.St} {Γ : List SL} {T : List Addr} (i : Nat) (x : Option V), Sls K mg I H σ Γ T → ∃ T', Sls K mg I H (σ.set i x) (Γ.set i .any) T' ∧ T'.Sublist T
  | _, _, _, _, _, .nil => ⟨[], by simp; exact .nil, .refl _⟩
  | _, _, _, 0, _, .any r => ⟨_, .any r, .refl _⟩
  | _, _, _, 0, _, .val q r => ⟨_, .any r, List.sublist_append_right _ _⟩
  | _, _, _, i + 1, x, .any r => let ⟨T', s, k⟩ := Sls.anyAt i x r; ⟨T', .any s, k⟩
  | _, _, _, i + 1, x, .val q r => let ⟨T', s, k⟩ := Sls.anyAt i x r; ⟨_, .val q s, (List.Sublist.refl _).append k⟩
theorem Mw.wipe {K : PySem.W.Frag} {mg : Str → Option Value} {Γ : List SL} {σ : L2.St} {I H : Hp} {T : List Addr} (m : Mw K mg Γ σ I H T) : ∀ vs, ∃ T', Mw K mg (wipeG Γ vs) (L2.wipe σ vs) I H T' ∧ T'.Sublist T
  | [] => ⟨T, m, .refl _⟩
  | v :: vs => by
    obtain ⟨T1, m1, s1⟩ := Mw.wipe m vs
    obtain ⟨T2, m2, s2⟩ := m1.sl.anyAt v none
    exact ⟨T2, ⟨m1.ih, fun p hp => m1.fr p (s2.subset hp), m1.nd.sublist s2, m2⟩, s2.trans s1⟩
/-- a comprehension's own slots do not matter for what holds elsewhere -/
def gAll (X : Cx) (scope : Scope) (tg : Expr) : TG := fun v σ H Q => ∀ s H0 C cl fp, gOf (X.blk s H0 scope (compEnvC scope cl C X.env) fp) tg v σ H Q
def tAll (X : Cx) (scope : Scope) (e : Expr) : TE := fun σ H Q => ∀ s H0 C cl fp, tOf (X.blk s H0 scope (compEnvC scope cl C X.env) fp) e σ H Q
def ksOf (X : Cx) (ifs : List Expr) : TT := fun σ H Q => ∀ pins s, Inv X pins σ H s → wpAny (model X.prog X.w) X.A (forIn ifs true fun c r => if r = true then do let ok ← isTrue c X.env (eval c X.env); pure (ForInStep.yield ok) else pure (ForInStep.yield r)) (TP X pins σ Q) X.xe s
def kAll (X : Cx) (scope : Scope) (ifs : List Expr) : TT := fun σ H Q => ∀ s H0 C cl fp, ksOf (X.blk s H0 scope (compEnvC scope cl C X.env) fp) ifs σ H Q
/-- tests of a clause -/
def VK (X : Cx) (Γ : List SL) (ifs : List Expr) (m : M Bool) : Prop :=
  ∀ (W : WX), L2N.Takes X W → ∀ σ I H T, Mw X.K X.mg Γ σ I H T → ∀ Q : Bool → Hp → Prop,
    Out m (fun a => ∀ I' H', Gr I H I' H' → Q a H') (XO X W σ I H) → ksOf X ifs σ H Q
theorem vk_nil : VK X Γ [] (.ok true) := fun W tk σ I H T mw Q o pins s In => pts_nil.run pins s σ H Q In (o I H (.refl mw.ih))
theorem vk_one {m : M Bool} (h : VT X Γ c m) : VK X Γ [c] m := fun W tk σ I H T mw Q o pins s In => (pts_one pt_of).run pins s σ H Q In (h W tk σ I H T mw Q o)
abbrev BLK (X : Cx) (scope : Scope) (P : Cx → Prop) : Prop := ∀ (s : Shared) (H : Hp) (C : Addr) (cl : List (Str × Addr)) (fp : List Addr), P (X.blk s H scope (compEnvC scope cl C X.env) fp)
theorem lc_read {n : Nat} {tg : Expr} {ifs : List Expr} {elt : Expr} {scope : Scope} {vs : List Nat} {u : α → List SL → List SL} {m : M (List α)} {t : α → M Bool} {f : α → M β} (hi : VI X Γ tg e m) (hg : BLK X scope fun Y => VG Y n tg vs u) (ht : ∀ a, BLK X scope fun Y => VK Y (u a (wipeG Γ vs)) ifs (t a))
    (he : ∀ a, BLK X scope fun Y => VE Y (u a (wipeG Γ vs)) elt (f a)) (hn : Γ.length = n) {W : WX} (tk : L2N.Takes X W) {σ : L2.St} {I H : Hp} {T : List Addr} (mw : Mw X.K X.mg Γ σ I H T) {Q : L2.VK} {P : List β → Prop} {E : Exn → Prop} (o : Out (m >>= fun l => lcM t f l) P E)
    (hP : ∀ r, P r → ∀ v I' H' T2, Wd I H I' H' T2 → Ow X.K X.mg I' H' v (ow1 r) T2 → Q v H') (hE : ∀ ex, E ex → XO X W σ I H ex) : tLc (iOf X tg e) (gAll X scope tg) (kAll X scope ifs) (tAll X scope elt) vs σ H Q := by
  refine hi.ap tk mw o.bind (fun l _ o1 J I1 H1 g1 yl => ?_) hE
  intro D hD
  unfold lcM at o1
  obtain ⟨hz, o2⟩ := o1.chk
  have o3 := nox_out o2
  have mw1 := mw.gr g1
  refine ⟨fun i m H' => m = l.length - i ∧ i ≤ l.length ∧ ∃ I' acc xs, Wd I H I' H' [D] ∧ Same I1 I' ∧ H' D = some (.lst xs) ∧ Rs X.K X.mg I' xs ((acc : List β).map enc) ∧ acc.length ≤ i ∧ Out (lcGo t f (l.drop i)) (fun r => P (acc ++ r)) (fun _ => False), ⟨l.length, rfl, Nat.zero_le _, I1, [], [], ?_, .refl _, upd_same, .nil, Nat.le_refl _, o3⟩, ?_⟩
  · have := Wd.ow g1 (fun _ z => nomatch z) (Wd.new (o := .lst []) g1.ih hD)
    simpa using this
  rintro i _ H' ⟨rfl, hi, I', acc, xs, wd, s1, hDl, rs, ha, o'⟩
  obtain ⟨go, stop⟩ := yl i I' H' s1 wd.ih
  by_cases hlt : i < l.length
  · obtain ⟨g2, y2⟩ := go l[i] (List.getElem?_eq_getElem hlt)
    rw [List.drop_eq_getElem_cons hlt] at o'
    refine .inr ⟨g2, fun H2 => ∃ I' acc xs, Wd I H I' H2 [D] ∧ Same I1 I' ∧ H2 D = some (.lst xs) ∧ Rs X.K X.mg I' xs ((acc : List β).map enc) ∧ acc.length ≤ i + 1 ∧ Out (lcGo t f (l.drop (i + 1))) (fun r => P (acc ++ r)) (fun _ => False), fun H2 h => ⟨l.length - (i + 1), by omega, rfl, hlt, h⟩, fun x H2 y => ?_⟩
    obtain ⟨I2, g3, r3⟩ := y2 x H2 y
    -- the block's slots: those of the frame, with D owned besides
    have mwD : ∀ {I3 H3 : Hp}, Wd I H I3 H3 [D] → Mw X.K X.mg Γ σ I3 H3 T := fun {I3 H3} w => ⟨w.ih, fun p hp => w.sep p (by obtain ⟨zs, e⟩ := mw.sl.there p hp; rw [e]; simp) (mw.fr p hp), mw.nd, mw.sl.mono w.i0 fun p hp => by
      obtain ⟨zs, e⟩ := mw.sl.there p hp
      rw [e]; exact w.h0 p _ e⟩
    have thD : ∀ p ∈ [D], H' p ≠ none := fun p hp => by
      have : p = D := by simpa using hp
      rw [this, hDl]; simp
    have wd3 : Wd I H I2 H2 [D] := wd.gr thD g3
    have hD2 : H2 D = some (.lst xs) := g3.h0 _ _ hDl
    obtain ⟨T2, mw2, _⟩ := (mwD wd3).wipe vs
    intro s0 H0 C cl fp
    refine hg s0 H0 C cl fp (wipeG Γ vs) (by rw [wipeG_length]; exact hn) x l[i] _ I2 H2 T2 mw2 r3 _ fun σ3 T3 w3 _ s3 c3 d3 => ?_
    have w3' : L2.wipe σ3 vs = L2.wipe σ vs := by
      rw [w3]
      have idem : ∀ vs, L2.wipe (L2.wipe σ vs) vs = L2.wipe σ vs := by
        intro vs
        have set2 : ∀ (us : List Nat) (τ : L2.St) (j : Nat), j ∈ us → (L2.wipe τ us).set j none = L2.wipe τ us := by
          intro us
          induction us with
          | nil => intro _ _ h; cases h
          | cons u us ih =>
            intro τ j hj
            show ((L2.wipe τ us).set u none).set j none = (L2.wipe τ us).set u none
            by_cases hju : j = u
            · subst hju; rw [List.set_set]
            · rw [List.set_comm _ _ (Ne.symm hju), ih τ j (by simpa [hju] using hj)]
        have gen : ∀ (us ws : List Nat), (∀ j ∈ us, j ∈ ws) → L2.wipe (L2.wipe σ ws) us = L2.wipe σ ws := by
          intro us
          induction us with
          | nil => intro _ _; rfl
          | cons u us ih =>
            intro ws h
            show (L2.wipe (L2.wipe σ ws) us).set u none = _
            rw [ih ws fun j hj => h j (List.mem_cons_of_mem _ hj)]
            exact set2 ws σ u (h u List.mem_cons_self)
        exact gen vs vs fun _ h => h
      exact idem vs
    refine ⟨w3', ?_⟩
    have mw3 : Mw X.K X.mg (u l[i] (wipeG Γ vs)) σ3 I2 H2 T3 := ⟨mw2.ih, fun p hp => mw2.fr p (c3 p hp), d3, s3⟩
    intro s1' H1' C1 cl1 fp1
    have o4 : Out (t l[i] >>= fun c => if c then f l[i] >>= fun b => lcGo t f (l.drop (i + 1)) >>= fun r => M.ok (b :: r) else lcGo t f (l.drop (i + 1))) (fun r => P (acc ++ r)) (fun _ => False) := o'
    refine ht l[i] s1' H1' C1 cl1 fp1 (fun _ _ _ _ => False) takes0N σ3 I2 H2 T3 mw3 _ (o4.bind.mono (fun c _ o5 I4 H4 g4 => ?_) fun _ _ z => z.elim)
    have wd4 : Wd I H I4 H4 [D] := wd3.gr (fun p hp => by
      have : p = D := by simpa using hp
      rw [this, hD2]; simp) g4
    have hD4 : H4 D = some (.lst xs) := g4.h0 _ _ hD2
    cases c with
    | false =>
      refine iteF ⟨I4, acc, xs, wd4, (s1.trans g3.i0).trans g4.i0, hD4, (rs.mono g3.i0).mono g4.i0, Nat.le_succ_of_le ha, o5⟩
    | true =>
      refine iteT ?_
      intro s2' H2' C2 cl2 fp2
      have o5 : Out (f l[i] >>= fun b => lcGo t f (l.drop (i + 1)) >>= fun r => M.ok (b :: r)) (fun r => P (acc ++ r)) (fun _ => False) := o5
      refine he l[i] s2' H2' C2 cl2 fp2 (fun _ _ _ _ => False) takes0N σ3 I4 H4 T3 (mw3.gr g4) _ (o5.bind.mono (fun b _ o6 v I5 H5 g5 r5 => ?_) fun _ _ z => z.elim)
      have wd5 : Wd I H I5 H5 [D] := wd4.gr (fun p hp => by
        have : p = D := by simpa using hp
        rw [this, hD4]; simp) g5
      have hD5 : H5 D = some (.lst xs) := g5.h0 _ _ hD4
      have hl : xs.length = acc.length := by rw [rs.length, List.length_map]
      refine ⟨xs, hD5, by rw [hl]; omega, I5, acc ++ [b], xs ++ [v], wd5.put (by simp), ((s1.trans g3.i0).trans g4.i0).trans g5.i0, upd_same, ?_, by rw [List.length_append]; simp; omega, ?_⟩
      · rw [List.map_append]
        exact Rs.append (((rs.mono g3.i0).mono g4.i0).mono g5.i0) (.cons r5 .nil)
      · refine o6.bind.mono (fun r _ o7 => ?_) fun _ _ z => z
        rw [List.append_assoc]
        exact o7
  · have e : i = l.length := by omega
    subst e
    rw [List.drop_length] at o'
    refine .inl ⟨stop (Nat.le_refl _), hP acc (by have := o'; simpa [lcGo, Out] using this) _ I' H' [D] wd ?_⟩
    refine .lst (T := []) hDl ?_
    rw [show acc.map (fun a => O.imm (enc a)) = (acc.map enc).map O.imm by rw [List.map_map]; rfl]
    exact Ows.of_imm rs
theorem lc_pg {scope : Scope} {tg : Expr} : ∀ (s : Shared) (H : Hp) (C : Addr) (cl : List (Str × Addr)) (fp : List Addr), PG (X.blk s H scope (compEnvC scope cl C X.env) fp) tg (gAll X scope tg) := fun s H C cl fp => ⟨fun pins s2 σ2 H2 v u2 Q2 In r h => (h s H C cl fp).run pins s2 u2 In r⟩
theorem lc_pt {scope : Scope} {ifs : List Expr} : ∀ (s : Shared) (H : Hp) (C : Addr) (cl : List (Str × Addr)) (fp : List Addr), PTs (X.blk s H scope (compEnvC scope cl C X.env) fp) ifs (kAll X scope ifs) := fun s H C cl fp => ⟨fun pins s2 σ2 H2 Q2 In h => h s H C cl fp pins s2 In⟩
theorem lc_pe {scope : Scope} {elt : Expr} : ∀ (s : Shared) (H : Hp) (C : Addr) (cl : List (Str × Addr)) (fp : List Addr), PE (X.blk s H scope (compEnvC scope cl C X.env) fp) elt (tAll X scope elt) := fun s H C cl fp => ⟨fun pins s2 σ2 H2 Q2 In h => (h s H C cl fp).run pins s2 In⟩
theorem vo_lc {n : Nat} {tg : Expr} {ifs : List Expr} {elt : Expr} {scope : Scope} (own : List (Str × Nat)) {u : α → List SL → List SL} {m : M (List α)} {t : α → M Bool} {f : α → M β} (hc : X.calm = true) (hN : X.N.Nodup) (hi : VI X Γ tg e m) (ok : BlkOk X.N X.env.scope scope own)
    (hg : BLK X scope fun Y => VG Y n tg (own.map (·.2)) u) (ht : ∀ a, BLK X scope fun Y => VK Y (u a (wipeG Γ (own.map (·.2)))) ifs (t a)) (he : ∀ a, BLK X scope fun Y => VE Y (u a (wipeG Γ (own.map (·.2)))) elt (f a)) (hn : Γ.length = n := by rfl) (hs : ∀ x, foldedSetIterable e X.env x = pure x := by intro _; rfl) :
    VO X Γ (.ListComp elt [⟨tg, e, ifs, 0⟩] scope pos) ow1 (m >>= fun l => lcM t f l) := fun W tk σ I H T mw Q o => by
  refine to_t (pe_lc hc hN pi_of ok lc_pg lc_pt lc_pe hs) ?_
  exact lc_read hi hg ht he hn tk mw o (fun r k => k) fun _ z => z
/-- name = [..] -/
theorem vs_setLc (i : Nat) {x : Str} {px : Pos} {n : Nat} {tg : Expr} {ifs : List Expr} {elt : Expr} {scope : Scope} (own : List (Str × Nat)) {u : α → List SL → List SL} {m : M (List α)} {t : α → M Bool} {f : α → M β} {k : List β → M τ} (hc : X.calm = true) (hN : X.N.Nodup) (hi : VI X Γ tg e m) (ok : BlkOk X.N X.env.scope scope own)
    (hg : BLK X scope fun Y => VG Y n tg (own.map (·.2)) u) (ht : ∀ a, BLK X scope fun Y => VK Y (u a (wipeG Γ (own.map (·.2)))) ifs (t a)) (he : ∀ a, BLK X scope fun Y => VE Y (u a (wipeG Γ (own.map (·.2)))) elt (f a))
    (hk : ∀ r, VS X (Γ.set i (sO r)) Γx rest E (k r)) (hsb : Sub Γ Γx) (hsw : swapsWith (.ListComp elt [⟨tg, e, ifs, 0⟩] scope pos) (some (.Name x px)) p.line X.env = pure true) (hn : Γ.length = n := by rfl) (hl : Nat.blt i Γ.length = true := by rfl) (hy : X.N[i]? = some x := by rfl) (hyl : X.env.scope.names.lookup x = some .local := by rfl) (hs : ∀ x, foldedSetIterable e X.env x = pure x := by intro _; rfl) :
    VS X Γ Γx (.Assign [.Name x px] (.ListComp elt [⟨tg, e, ifs, 0⟩] scope pos) p :: rest) E ((m >>= fun l => lcM t f l) >>= k) := fun W tk I0 H0 σ I H T mt D o => by
  refine seq_s (to_s1 (ps_setLc hc hN hy hyl hsw pi_of ok lc_pg lc_pt lc_pe hs) ?_)
  show tLc (iOf X tg e) (gAll X scope tg) (kAll X scope ifs) (tAll X scope elt) (own.map (·.2)) σ H _
  refine lc_read hi hg ht he hn tk mt.mw o.bind (fun r o1 v I1 H1 T2 w1 q => ?_) fun _ z => z.xo mt hsb
  have there : ∀ p ∈ T, H p ≠ none := fun p hp => by obtain ⟨xs, e⟩ := mt.sl.there p hp; rw [e]; simp
  have mt1 : Sls X.K X.mg I1 H1 σ Γ T := mt.sl.mono w1.i0 fun p hp => by
    obtain ⟨xs, e⟩ := mt.sl.there p hp
    rw [e]; exact w1.h0 p _ e
  obtain ⟨T', s', c', d'⟩ := mt1.put (Nat.blt_eq.mp hl) q
  have wd := mt.wd.ow there w1
  exact rest_s (hk r) tk ⟨⟨wd.ih, wd.i0, wd.h0, fun p hp => wd.fr p (List.mem_append.mpr (c' p hp)), d' wd.nd, wd.sep⟩, s'⟩ o1
end

/-! ### defs -/
/-- a def's promise: m is what it computes; ea its arguments as data, eo its result -/
def spF (K : PySem.W.Frag) (mg : Str → Option Value) {A ρ : Type} (ea : A → List D) (eo : ρ → O) (m : A → M ρ) : Sp := fun vs H Q E => ∃ (I : Hp) (x : A), Same I H ∧ Rs K mg I vs (ea x) ∧
  Out (m x) (fun r => ∀ v I' H' T, Wd I H I' H' T → Ow K mg I' H' v (eo r) T → Q v H') (fun ex => ∀ cl d I' H', Gr I H I' H' → ExcAt K mg I' ex cl d → E cl d H')
def eFn {ρ : Type} (eo : ρ → O) : Eds ρ where
  nx := fun _ r => eo r = .imm .non
  rt := fun o r => o = eo r
def anys (n : Nat) : List SL := List.replicate n .any
def ent (N : List Str) (ds : List D) : List SL := ds.map (fun d => .val (.imm d)) ++ List.replicate (N.length - ds.length) .any
theorem sub_anys : ∀ Γ : List SL, Sub Γ (anys Γ.length)
  | [] => .nil
  | a :: Γ => .any (sub_anys Γ)
theorem Sls.start {K : PySem.W.Frag} {mg : Str → Option Value} {I H : Hp} : ∀ {vs : List V} {ds : List D} (k : Nat), Rs K mg I vs ds → Sls K mg I H (vs.map some ++ List.replicate k none) (ds.map (fun d => .val (.imm d)) ++ List.replicate k .any) []
  | _, _, 0, .nil => .nil
  | _, _, k + 1, .nil => .any (by have := Sls.start (I := I) (H := H) (K := K) (mg := mg) k .nil; exact this)
  | _, _, k, .cons h r => .val (T := []) (.imm h) (Sls.start k r)
theorem Mt.start {K : PySem.W.Frag} {mg : Str → Option Value} {I H : Hp} {vs : List V} {ds : List D} {N : List Str} (h : Same I H) (r : Rs K mg I vs ds) : Mt K mg I H (ent N ds) (start N vs) I H [] :=
  ⟨Gr.refl h, by unfold ent L2.start; rw [r.length]; exact Sls.start _ r⟩
section
variable {P : Program} {w : World} {K : PySem.W.Frag} {mg : Str → Option Value} {base : Heap}
/-- THE RULE for a def -/
theorem fn_ok {x qual : Str} {st : Stmt} {f : Addr} {fd : FuncData} {N ps : List Str} {k : Nat} {A ρ : Type} {ea : A → List D} {eo : ρ → O} {m : A → M ρ} (F : Fun K x qual st f fd) (S : FnScope N ps (defScope st)) (hl : ∀ a, (ea a).length = ps.length)
    (body : ∀ (cdv : Value) (Ar : Around) (outer : List Env) (s : Shared) (H : Hp) (E : XK), Room k (Ar.deeper (envOfC qual (defScope st) s.heap.objs.size f cdv)) →
      ∀ X, X = cxOf (L2N.CX P w) P w K mg base N qual (defScope st) f cdv Ar outer s H E → ∀ a, VS X (ent N (ea a)) (anys N.length) (defBody st) (eFn eo) (m a)) :
    FnOk P w K mg base (L2N.CX P w) (k + 1) f fd ps (spF K mg ea eo m) := by
  obtain ⟨oc, od, kV, doc, pm, an, cdv, ct, osl, rfl, lk, hcd⟩ := F.ex
  refine fn_of lk hcd S (fun vs H Q E h => ?_) (fun Ar outer s H vs Q E hr h => ?_)
  · obtain ⟨I, x, _, r, _⟩ := h
    rw [r.length, hl]
  · obtain ⟨I, x, hs, r, o⟩ := h
    refine ⟨_, pss_of, ?_⟩
    refine body cdv Ar outer s H E hr _ rfl x (fun cls d _ H' => E cls d H') (L2N.takes_of rfl rfl rfl rfl) I H _ I H [] (Mt.start hs r) _ ?_
    refine o.mono (fun r _ k => ?_) fun ex _ k cl d σ' I' H' T' mt a => ?_
    · exact ⟨fun Γ' σ' I' H' T' z mt => k .non I' H' [] (mt.wd.subl (List.nil_sublist _)) (by rw [show eo r = .imm .non from z]; exact .imm .non), fun _ _ _ _ _ z => z.elim, fun _ _ _ _ _ z => z.elim, fun o v I' H' T' z wd q => k v I' H' T' wd (by rw [← show o = eo r from z]; exact q)⟩
    · exact k cl d I' H' (mt.wd.subl (List.nil_sublist _)) a
end
section
variable {X : Cx} {Γ Γx : List SL} {e a b c : Expr} {es : List Expr} {rest : List Stmt} {pos p : Pos} {α β γ : Type} [Enc α] [Enc β] [Enc γ] {w w' : Bool} {τ : Type} {E : Eds τ}
  {k : Nat} {f : Addr} {fd : FuncData} {ps : List Str} {x : Str} {A ρ : Type} {ea : A → List D} {m : A → M ρ} {ma : M A}
/-- f(e, ..): the result is new or plain -/
theorem vo_call {eo : ρ → O} (F : FnOk X.prog X.w X.K X.mg X.base (L2N.CX X.prog X.w) k f fd ps (spF X.K X.mg ea eo m)) (hr : Room k X.A) (hm : X.mg x = some (.ref f)) (hk : PySem.W.keepIn X.K (.ref f) = true) (hb : Binds X.K fd ps []) (h : VA false X Γ (e :: es) ea ma) (hg : Gl X x := by rfl)
    (hdb : (x == ("__debug__" : Str)) = false := by decide) (he : starEach (e :: es) X.env = (false, eval e X.env) :: starEach es X.env := by rfl) (hpl : (backTo pos (starEach es X.env)).any (·.1) = false := by rfl) : VO X Γ (.Call (.Name x p) (e :: es) [] pos) eo (ma >>= m) := fun W tk σ I H T mw Q o => by
  refine to_t (pe_callS (E := WE W) F hr hg hm hk hb (fun σ => L2N.passAt tk σ) pa_of hdb he hpl) (h.ap tk mw o.bind (fun a _ o1 vs I1 H1 g1 r1 => ?_) fun _ z => z)
  refine ⟨I1, a, g1.ih, r1, o1.mono (fun r _ k v I' H' T' wd q => k v I' H' T' (by have := Wd.ow g1 (fun _ z => nomatch z) wd; simpa using this) q) fun ex _ k cl d I' H' g at' => k cl d I' H' (g1.trans g) at'⟩
theorem ve_call [Enc ρ] (F : FnOk X.prog X.w X.K X.mg X.base (L2N.CX X.prog X.w) k f fd ps (spF X.K X.mg ea (fun r : ρ => .imm (enc r)) m)) (hr : Room k X.A) (hm : X.mg x = some (.ref f)) (hk : PySem.W.keepIn X.K (.ref f) = true) (hb : Binds X.K fd ps []) (h : VA false X Γ (e :: es) ea ma) (hg : Gl X x := by rfl)
    (hdb : (x == ("__debug__" : Str)) = false := by decide) (he : starEach (e :: es) X.env = (false, eval e X.env) :: starEach es X.env := by rfl) (hpl : (backTo pos (starEach es X.env)).any (·.1) = false := by rfl) : VX w X Γ (.Call (.Name x p) (e :: es) [] pos) (ma >>= m) := (vo_call F hr hm hk hb h hg hdb he hpl).ve fun r => O.toD_imm _
/-- arguments that are only borrowed -/
def bor {α : Type} : M α → M α
  | .ok a => .ok a
  | .stuck => .stuck
  | .exc e => if e.fs.isEmpty then .exc e else .stuck
theorem bor_out {α : Type} {m : M α} {P : α → Prop} {E : Exn → Prop} (o : Out (bor m) P E) : Out m P fun e => e.fs = [] ∧ E e := by
  cases m with
  | ok a => exact o
  | stuck => exact o
  | exc e =>
    have o : Out (if e.fs.isEmpty then M.exc e else M.stuck) P E := o
    cases q : e.fs.isEmpty with
    | true => rw [q] at o; exact ⟨by simpa using q, o⟩
    | false => rw [q] at o; exact o.elim
@[simp] theorem bor_ok {α : Type} (a : α) : bor (.ok a) = .ok a := rfl
theorem Gr.keep {I H I' H' : Hp} {T : List Addr} (h : Same I H) (w : Wd H H I' H' T) : Gr I H I H' := ⟨h.trans w.h0, .refl _, w.h0, fun _ z => (nomatch z), List.nodup_nil, fun _ _ z => z⟩
/-- .. a plain result -/
theorem ve_callB [Enc ρ] [Atm ρ] (F : FnOk X.prog X.w X.K X.mg X.base (L2N.CX X.prog X.w) k f fd ps (spF X.K X.mg ea (fun r : ρ => .imm (enc r)) m)) (hr : Room k X.A) (hm : X.mg x = some (.ref f)) (hk : PySem.W.keepIn X.K (.ref f) = true) (hb : Binds X.K fd ps []) (h : VA true X Γ (e :: es) ea ma) (hg : Gl X x := by rfl)
    (hdb : (x == ("__debug__" : Str)) = false := by decide) (he : starEach (e :: es) X.env = (false, eval e X.env) :: starEach es X.env := by rfl) (hpl : (backTo pos (starEach es X.env)).any (·.1) = false := by rfl) : VX w X Γ (.Call (.Name x p) (e :: es) [] pos) (ma >>= fun a => bor (m a)) := fun W tk σ I H T mw Q o => by
  refine to_t (pe_callS (E := WE W) F hr hg hm hk hb (fun σ => L2N.passAt tk σ) pa_of hdb he hpl) (h.ap tk mw o.bind (fun a _ o1 vs I1 H1 g1 r1 => ?_) fun _ z => z)
  refine ⟨H1, a, .refl _, r1, (bor_out o1).mono (fun r _ k v I' H' T' wd q => ?_) fun ex hex k cl d I' H' g at' => ?_⟩
  · cases q with
    | imm r2 => exact k v I1 H' (g1.trans (Gr.keep g1.ih wd)) (r2.atom (Atm.atm r))
  · exact k.2 cl d I1 H' (g1.trans (Gr.keep g1.ih g)) ⟨at'.cls, at'.non, fun z => absurd k.1 z⟩
/-- .. a new list of plain things -/
theorem vo_callB [Enc α] [Atm α] {m : A → M (List α)} (F : FnOk X.prog X.w X.K X.mg X.base (L2N.CX X.prog X.w) k f fd ps (spF X.K X.mg ea ow1 m)) (hr : Room k X.A) (hm : X.mg x = some (.ref f)) (hk : PySem.W.keepIn X.K (.ref f) = true) (hb : Binds X.K fd ps []) (h : VA true X Γ (e :: es) ea ma) (hg : Gl X x := by rfl)
    (hdb : (x == ("__debug__" : Str)) = false := by decide) (he : starEach (e :: es) X.env = (false, eval e X.env) :: starEach es X.env := by rfl) (hpl : (backTo pos (starEach es X.env)).any (·.1) = false := by rfl) : VO X Γ (.Call (.Name x p) (e :: es) [] pos) ow1 (ma >>= fun a => bor (m a)) := fun W tk σ I H T mw Q o => by
  refine to_t (pe_callS (E := WE W) F hr hg hm hk hb (fun σ => L2N.passAt tk σ) pa_of hdb he hpl) (h.ap tk mw o.bind (fun a _ o1 vs I1 H1 g1 r1 => ?_) fun _ z => z)
  refine ⟨H1, a, .refl _, r1, (bor_out o1).mono (fun r _ k v I' H' T' wd q => ?_) fun ex hex k cl d I' H' g at' => ?_⟩
  · refine k v I1 H' T' ?_ ?_
    · have w2 : Wd I1 H1 I1 H' T' := ⟨g1.ih.trans wd.h0, .refl _, wd.h0, fun p hp => ⟨g1.ih.free (wd.fr p hp).2, (wd.fr p hp).2⟩, wd.nd, fun _ _ z => z⟩
      have := Wd.ow g1 (fun _ z => nomatch z) w2
      simpa using this
    · cases q with
      | lst e1 e2 =>
        refine .lst e1 ?_
        rw [show r.map (fun a => O.imm (enc a)) = (r.map enc).map O.imm by rw [List.map_map]; rfl] at e2 ⊢
        obtain ⟨rfl, rs⟩ := e2.imm
        exact Ows.of_imm rs.atoms
  · exact k.2 cl d I1 H' (g1.trans (Gr.keep g1.ih g)) ⟨at'.cls, at'.non, fun z => absurd k.1 z⟩

/-! ### raise, try -/
/-- raise X('..'), a class of one's own without an __init__ -/
theorem vs_raise {bmB : List Value} {B newId initId : String} {C : Addr} {msg : Str} {j : Nat} {pc p2 : Pos} (F : ExcBaseFacts B newId initId bmB) (q : PySem.W.excIn X.K C bmB newId = true) (gC : X.mg x = some (.ref C)) (kC : PySem.W.keepIn X.K (.ref C) = true) (r : Raises X (.ref C)) (hc : X.calm = true) (hs : Sub Γ Γx) (hg : Gl X x := by rfl)
    (hdb : (x == ("__debug__" : Str)) = false := by decide) : VS X Γ Γx (.Raise (some (.Call (.Name x p) [.Constant (.str msg) j p2] [] pc)) none pos :: rest) E (.exc ⟨x, []⟩) := fun W tk I0 H0 σ I H T mt D o => by
  refine seq_s (to_s1 (L2N.ps_raise hc tk (L2N.pmk_own F q gC kC r hg hdb)) ?_)
  obtain ⟨T', mt'⟩ := mt.sub hs
  exact o (.ref C) none σ I H T' mt' ⟨gC, fun _ => rfl, fun z => absurd rfl z⟩
/-- the classes of errors: each name, and what it is below of -/
abbrev ETab := List (Str × List Str)
/-- the except clause's class c against an error's class -/
structure EOk (K : PySem.W.Frag) (mg : Str → Option Value) (tb : ETab) (n : Str) (c : Value) : Prop where
  ex : ∀ m up, tb.lookup m = some up → ∀ cl, mg m = some cl → PySem.W.exmOne K cl c = some (up.contains n)
def isE (tb : ETab) (e : Exn) (n : Str) : M Bool := match tb.lookup e.nm with
  | some up => .ok (up.contains n)
  | none => .stuck
/-- what a try makes of an error -/
def tryM {α : Type} (tb : ETab) (n : Str) (m : M α) (h : Exn → M α) : M α := match m with
  | .ok a => .ok a
  | .stuck => .stuck
  | .exc e => isE tb e n >>= fun b => if b then h e else .exc e
@[simp] theorem tryM_ok {α : Type} (tb : ETab) (n : Str) (a : α) (h : Exn → M α) : tryM tb n (.ok a) h = .ok a := rfl
/-- an error as data -/
def eD (a : Addr) (d : Option Addr) (ex : Exn) : D := match d with
  | none => .adr a
  | some dd => .exn a dd ex.fs
/-- the suite of except .. as e (the error at slot i, its object at a) -/
def SUI (X : Cx) (ex : Exn) (P : Cx → Addr → Option Addr → Prop) : Prop := ∀ (a : Addr) (oe : Obj) (cls : Value) (d : Option Addr) (pn : List (Addr × Obj)), L2N.Zn cls d oe → (∃ vs, oe.data = .fields vs) → X.mg ex.nm = some cls → (ex.fs = [] → d = none) → (ex.fs ≠ [] → d ≠ none) → P (X.suite a ((a, oe) :: pn)) a d
theorem Mt.putD {K : PySem.W.Frag} {mg : Str → Option Value} {I0 H0 : Hp} {Γ : List SL} {σ : L2.St} {I H : Hp} {T : List Addr} {i : Nat} (m : Mt K mg I0 H0 Γ σ I H T) : ∃ T', Mt K mg I0 H0 (Γ.set i .any) (σ.set i none) I H T' := by
  obtain ⟨T', s, k⟩ := m.sl.anyAt i none
  exact ⟨T', m.wd.subl k, s⟩
/-- what falls through a suite has lost the error's name -/
def eSu {τ : Type} (i : Nat) (E : Eds τ) : Eds τ where
  nx := fun Γ' t => E.nx (Γ'.set i .any) t
  bk := fun Γ' t => E.bk (Γ'.set i .any) t
  ct := fun Γ' t => E.ct (Γ'.set i .any) t
  rt := E.rt
/-- try: body / except x as n: suite, the last statement of a block, or behind it what E's fall-through asks -/
theorem vs_try {S : Type} (F : S → List SL) (i : Nat) (tb : ETab) {xc n : Str} {c : Value} {body suite : List Stmt} {b₀ : Stmt} {np pos' : Pos} {mb : M (Jn S τ)} {mh : Exn → M (Jn S τ)} {kk : S → M τ} (Γt : List SL) (hX : X.stack = X.env :: X.outer) (hf : X.env.frame = some X.env.locals) (hN : X.N.Nodup) (hc : Names X xc c) (hE : EOk X.K X.mg tb xc c)
    (hb : ∀ (pn : List (Addr × Obj)) (xe : Value → Shared → Prop), PassesOwn (model X.prog X.w) X.A X.env xe → VS (X.tr pn xe) Γ Γt body (eJn F E) mb)
    (hsu : ∀ ex, SUI X ex fun Y a d => VS Y (Γt.set i (.val (.imm (eD a d ex)))) (anys Γt.length) (b₀ :: suite) (eSu i (eJn F E)) (mh ex))
    (hk : ∀ s, VS X (F s) Γx rest E (kk s)) (hs : Sub Γt Γx) (hi : X.N[i]? = some n := by rfl) (hl : Nat.blt i Γt.length = true := by rfl) (hln : X.env.kindOf n = some .local := by rfl) :
    VS X Γ Γx (.Try body [.ExceptHandler (some (.Name xc np)) (some n) (b₀ :: suite) pos'] [] [] pos :: rest) E (tryM tb xc mb (fun ex => nox (mh ex)) >>= fun j => j.on kk) := fun W tk I0 H0 σ I H T mt D o => by
  refine seq_s (to_s1 (L2N.ps_try_as (tb := fun W' => fun D σ H => ∀ pn xe, L2N.Takes (X.tr pn xe) W' → PassesOwn (model X.prog X.w) X.A X.env xe → sOf (X.tr pn xe) body D σ H) (ts := fun a cls d => fun D σ H => ∀ oe pn, L2N.Zn cls d oe → (∃ vs, oe.data = .fields vs) → sOf (X.suite a ((a, oe) :: pn)) (b₀ :: suite) D σ H)
    hX hf hN hi hln hc tk (fun W' pn xe tk' po => ⟨fun pins s σ H D In h => (h pn xe tk' po).run pins s In⟩) (fun a oe cls d pn hz hfl => ⟨fun pins s σ H D In h => (h oe pn hz hfl).run pins s In⟩)) ?_)
  intro pn xe tk' po
  have fin : ∀ (j : Jn S τ), Out (j.on kk) (DO X I0 H0 E D) (XS X W I0 H0 Γx) → DO X I0 H0 (eJn F E) { D with nx := sOf X rest D } j := fun j o => ⟨fun Γ' σ' I' H' T' z m => by
      obtain ⟨s, rfl, z⟩ := z
      obtain ⟨T2, m2⟩ := m.sub z
      exact rest_s (hk s) tk m2 o, fun Γ' σ' I' H' T' z m => by
      obtain ⟨t, rfl, z⟩ := z
      exact DO.bk (E := E) o Γ' σ' I' H' T' z m, fun Γ' σ' I' H' T' z m => by
      obtain ⟨t, rfl, z⟩ := z
      exact DO.ct (E := E) o Γ' σ' I' H' T' z m, fun ow v I' H' T' z m r => by
      obtain ⟨t, rfl, z⟩ := z
      exact DO.rt (E := E) o ow v I' H' T' z m r⟩
  refine hb pn xe po _ tk' I0 H0 σ I H T mt _ ?_
  cases mb with
  | stuck => exact o.elim
  | ok j => exact (let g := fin j o; ⟨g.nx, g.bk, g.ct, g.rt⟩ : DO (X.tr pn xe) I0 H0 (eJn F E) _ j)
  | exc ex =>
    intro cl d σ' I' H' T' mt' at'
    have o1 : Out ((isE tb ex xc >>= fun b => if b then nox (mh ex) else M.exc ex) >>= fun j => j.on kk) (DO X I0 H0 E D) (XS X W I0 H0 Γx) := o
    unfold isE at o1
    cases q : tb.lookup ex.nm with
    | none => rw [q] at o1; exact o1.elim
    | some up =>
      rw [q] at o1
      refine ⟨up.contains xc, hE.ex ex.nm up q cl at'.cls, fun hy a ha => ?_, fun hno => ?_⟩
      · have o2 : Out ((if up.contains xc = true then nox (mh ex) else M.exc ex) >>= fun j => j.on kk) (DO X I0 H0 E D) (XS X W I0 H0 Γx) := o1
        rw [if_pos hy] at o2
        have o3 := nox_out o2.bind
        intro oe pn2 hz hfl
        obtain ⟨T2, mt2⟩ := Mt.putI (i := i) (v := .ref a) (d := eD a d ex) mt' (Nat.blt_eq.mp hl) (by
          cases d with
          | none => exact .adr a
          | some dd =>
            by_cases hfs : ex.fs = []
            · have := at'.non hfs; cases this
            · obtain ⟨dd', vs, e, h1, h2⟩ := at'.fld hfs
              cases e
              exact .exn h1 h2)
        refine hsu ex a oe cl d pn2 hz hfl at'.cls at'.non (fun z => by obtain ⟨dd, _, e, _⟩ := at'.fld z; rw [e]; simp) (fun _ _ _ _ => False) takes0N I0 H0 _ I' H' T2 mt2 _ (o3.mono (fun j _ o4 => ?_) fun _ _ z => z.elim)
        have g := fin j o4
        exact ⟨fun Γ' σ4 I4 H4 T4 z m => by
          obtain ⟨T5, m5⟩ := m.putD (i := i)
          exact g.nx _ _ _ _ _ z m5, fun Γ' σ4 I4 H4 T4 z m => by
          obtain ⟨T5, m5⟩ := m.putD (i := i)
          exact g.bk _ _ _ _ _ z m5, fun Γ' σ4 I4 H4 T4 z m => by
          obtain ⟨T5, m5⟩ := m.putD (i := i)
          exact g.ct _ _ _ _ _ z m5, g.rt⟩
      · have o2 : Out ((if up.contains xc = true then nox (mh ex) else M.exc ex) >>= fun j => j.on kk) (DO X I0 H0 E D) (XS X W I0 H0 Γx) := o1
        rw [if_neg (by rw [hno]; simp)] at o2
        obtain ⟨T2, mt2⟩ := mt'.sub hs
        exact o2 cl d σ' I' H' T2 mt2 at'
/-- isinstance(e, C) in the suite -/
structure IOk (K : PySem.W.Frag) (mg : Str → Option Value) (tb : ETab) (n : Str) (cv : Value) : Prop where
  ex : ∀ m up, tb.lookup m = some up → ∃ Dc, mg m = some (.ref Dc) ∧ ExcC K Dc ∧ PySem.W.kitOne K (.ref Dc) cv = some (up.contains n)
theorem ve_isE (i : Nat) (tb : ETab) {xe n : Str} {c : V} {cv : Value} {a : Addr} {oe : Obj} {cls : Value} {pn : List (Addr × Obj)} {ex : Exn} {px : Pos} {b : Expr} (hz : L2N.Zn cls none oe) (hfl : ∃ vs, oe.data = .fields vs) (hm : X.mg ex.nm = some cls) (hI : IOk X.K X.mg tb n cv) (hcv : ∀ u, RelV c u → u = cv) (hb : PE (X.suite a ((a, oe) :: pn)) b (tC c))
    (hΓ : Γ[i]? = some (.val (.imm (.adr a)))) (hN : X.N[i]? = some xe := by rfl) (hv : Vis X.env.scope xe := by first | exact Or.inl rfl | exact Or.inr (Or.inl rfl) | exact Or.inr (Or.inr rfl)) (hmi : X.mg "isinstance" = none) (hg : Gl X "isinstance" := by rfl)
    (hd : (xe == ("__debug__" : Str)) = false := by decide) (hcd : (xe == ("__classdict__" : Str)) = false := by decide) (hst : starEach [.Name xe px, b] X.env = (false, eval (.Name xe px) X.env) :: starEach [b] X.env := by rfl) (hst2 : starEach [b] X.env = (false, eval b X.env) :: starEach [] X.env := by rfl) (hpl : (backTo pos (starEach [b] X.env)).any (·.1) = false := by rfl) :
    VX w (X.suite a ((a, oe) :: pn)) Γ (.Call (.Name "isinstance" p) [.Name xe px, b] [] pos) (isE tb ex n) := fun W tk σ I H T mw Q o => by
  unfold isE at o
  cases q : tb.lookup ex.nm with
  | none => rw [q] at o; exact o.elim
  | some up =>
    rw [q] at o
    obtain ⟨Dc, h1, h2, h3⟩ := hI.ex _ _ q
    rw [hm] at h1
    cases h1
    obtain ⟨v, hv1, r⟩ := mw.sl.imm hΓ
    cases r
    refine to_t (pe_callB (call_isE h2 hz.zc hfl) hg hmi (by decide +kernel) (pa_cons (pe_var hN hv hd hcd) (pa_cons hb pa_nil hst2) hst) (by decide) (by decide) hst hpl) ⟨.ref a, hv1, c, cv, up.contains n, rfl, hcv, h3, ?_⟩
    exact o _ I H (.refl mw.ih) (.bl _)
end
end Vc

set_option Elab.async false
set_option linter.all false
set_option maxRecDepth 100000
namespace Vc
open PySem PySem.Spec PyProof.Rows L2
open Enc (enc)

theorem VO.congr {X : Cx} {Γ : List SL} {e : Expr} {α : Type} {o : α → O} {m m' : M α} (h : VO X Γ e o m) (q : m = m') : VO X Γ e o m' := q ▸ h
theorem VT.congr {X : Cx} {Γ : List SL} {e : Expr} {m m' : M Bool} (h : VT X Γ e m) (q : m = m') : VT X Γ e m' := q ▸ h
theorem VA.congr {w : Bool} {X : Cx} {Γ : List SL} {e : List Expr} {A : Type} {o : A → List D} {m m' : M A} (h : VA w X Γ e o m) (q : m = m') : VA w X Γ e o m' := q ▸ h
theorem VI.congr {X : Cx} {Γ : List SL} {tg e : Expr} {α : Type} [Enc α] {m m' : M (List α)} (h : VI X Γ tg e m) (q : m = m') : VI X Γ tg e m' := q ▸ h
theorem VS.congr {X : Cx} {Γ Γx : List SL} {sts : List Stmt} {τ : Type} {E : Eds τ} {m m' : M τ} (h : VS X Γ Γx sts E m) (q : m = m') : VS X Γ Γx sts E m' := q ▸ h

/-! ### == of data -/
class Eqv (α : Type) [Enc α] [DecidableEq α] where
  py : α → PyData
  dp : ∀ (K : PySem.W.Frag) (mg : Str → Option Value) (H : Hp) (v : V) (a : α), R K mg H v (enc a) → Dp K H v (py a)
  lay : α → Bool
  lyq : ∀ a : α, (py a).canLay0 = lay a
  dep : Nat
  dle : ∀ a : α, (py a).depth ≤ dep
  eqv : ∀ a b : α, PyData.eqv (py a) (py b) = decide (a = b)
/-- no text within -/
class LayT (α : Type) [Enc α] [DecidableEq α] [Eqv α] : Prop where
  lt : ∀ a : α, Eqv.lay a = true
/-- the kind of data -/
def kd : PyData → Nat
  | .none => 0
  | .bool _ => 1
  | .int _ => 1
  | .str _ => 2
  | .list _ => 3
  | .tuple _ => 4
  | .dict _ => 5
class Knd (α : Type) [Enc α] [DecidableEq α] [Eqv α] where
  k : Nat
  ok : ∀ a : α, kd (Eqv.py a) = k
theorem eqv_kd : ∀ (a b : PyData), kd a ≠ kd b → PyData.eqv a b = false := by
  intro a b h
  cases a <;> cases b <;> first | rfl | exact absurd rfl h
instance : Eqv Int := ⟨PyData.int, fun K mg H v a r => by cases r; exact .int a, fun _ => true, fun _ => rfl, 0, fun _ => Nat.le_refl _, fun a b => by
  show (a == b) = decide (a = b)
  by_cases h : a = b <;> simp [h]⟩
instance : Eqv Bool := ⟨PyData.bool, fun K mg H v a r => by cases r; exact .bl a, fun _ => true, fun _ => rfl, 0, fun _ => Nat.le_refl _, fun a b => by cases a <;> cases b <;> rfl⟩
instance : Eqv Str := ⟨PyData.str, fun K mg H v a r => by cases r; exact .str a, PyData.strOk, fun _ => rfl, 0, fun _ => Nat.le_refl _, fun a b => by
  show (a == b) = decide (a = b)
  by_cases h : a = b <;> simp [h]⟩
instance : Eqv Unit := ⟨fun _ => .none, fun K mg H v a r => by cases r; exact .non, fun _ => true, fun _ => rfl, 0, fun _ => Nat.le_refl _, fun a b => by cases a; cases b; rfl⟩
instance : LayT Int := ⟨fun _ => rfl⟩
instance : LayT Bool := ⟨fun _ => rfl⟩
instance : LayT Unit := ⟨fun _ => rfl⟩
instance : Knd Int := ⟨1, fun _ => rfl⟩
instance : Knd Bool := ⟨1, fun _ => rfl⟩
instance : Knd Str := ⟨2, fun _ => rfl⟩
instance : Knd Unit := ⟨0, fun _ => rfl⟩
theorem dpAll {α : Type} [Enc α] [DecidableEq α] [Eqv α] {K : PySem.W.Frag} {mg : Str → Option Value} {H : Hp} : ∀ {xs : List V} {l : List α}, Rs K mg H xs (l.map enc) → DpAll K H xs (l.map Eqv.py)
  | _, [], .nil => .nil
  | _, a :: l, .cons h r => .cons (Eqv.dp K mg H _ a h) (dpAll r)
theorem layAll {α : Type} [Enc α] [DecidableEq α] [Eqv α] : ∀ l : List α, PyData.canLayAll0 (l.map Eqv.py) = l.all Eqv.lay
  | [] => rfl
  | a :: l => by
    show (PyData.canLay0 (Eqv.py a) && PyData.canLayAll0 (l.map Eqv.py)) = (Eqv.lay a && l.all Eqv.lay)
    rw [Eqv.lyq a, layAll l]
theorem depAll {α : Type} [Enc α] [DecidableEq α] [E : Eqv α] : ∀ l : List α, PyData.depthAll (l.map Eqv.py) ≤ E.dep
  | [] => Nat.zero_le _
  | a :: l => by
    show max (PyData.depth (Eqv.py a)) (PyData.depthAll (l.map Eqv.py)) ≤ _
    exact Nat.max_le.mpr ⟨Eqv.dle a, depAll l⟩
theorem eqvAll {α : Type} [Enc α] [DecidableEq α] [Eqv α] : ∀ l r : List α, PyData.eqvAll (l.map Eqv.py) (r.map Eqv.py) = decide (l = r)
  | [], [] => rfl
  | [], _ :: _ => rfl
  | _ :: _, [] => rfl
  | a :: l, b :: r => by
    show (PyData.eqv (Eqv.py a) (Eqv.py b) && PyData.eqvAll (l.map Eqv.py) (r.map Eqv.py)) = _
    rw [Eqv.eqv a b, eqvAll l r]
    by_cases h : a = b <;> by_cases h2 : l = r <;> simp [h, h2]
section
variable {α β γ δ ε : Type} [Enc α] [DecidableEq α] [Enc β] [DecidableEq β] [Enc γ] [DecidableEq γ] [Enc δ] [DecidableEq δ] [Enc ε] [DecidableEq ε]
instance [E : Eqv α] : Eqv (List α) := ⟨fun l => .list (l.map Eqv.py), fun K mg H v a r => by
    obtain ⟨p, xs, rfl, h, q⟩ := R.lst_inv r
    exact .lst h (dpAll q), fun l => l.all Eqv.lay, fun l => layAll l, E.dep + 1, fun l => Nat.succ_le_succ (depAll l), fun a b => eqvAll a b⟩
instance [Eqv α] : Knd (List α) := ⟨3, fun _ => rfl⟩
instance [Eqv α] [LayT α] : LayT (List α) := ⟨fun l => List.all_eq_true.mpr fun x _ => LayT.lt x⟩
instance : DecidableEq (Tup α) := fun a b => decidable_of_iff (a.l = b.l) ⟨fun h => by cases a; cases b; cases h; rfl, fun h => by rw [h]⟩
instance [E : Eqv α] : Eqv (Tup α) := ⟨fun l => .tuple (l.l.map Eqv.py), fun K mg H v a r => by
    obtain ⟨p, xs, rfl, h, q⟩ := R.tup_inv r
    exact .tup h (dpAll q), fun l => l.l.all Eqv.lay, fun l => layAll l.l, E.dep + 1, fun l => Nat.succ_le_succ (depAll l.l), fun a b => by
    show PyData.eqvAll _ _ = _
    rw [eqvAll]
    cases a; cases b
    simp⟩
instance [Eqv α] : Knd (Tup α) := ⟨4, fun _ => rfl⟩
instance [Eqv α] [LayT α] : LayT (Tup α) := ⟨fun l => List.all_eq_true.mpr fun x _ => LayT.lt x⟩
instance [E : Eqv α] [F : Eqv β] : Eqv (α × β) := ⟨fun p => .tuple [Eqv.py p.1, Eqv.py p.2], fun K mg H v a r => by
    obtain ⟨p, xs, rfl, h, q⟩ := R.tup_inv r
    cases q with
    | cons h1 q => cases q with
      | cons h2 q =>
        cases q
        exact .tup h (.cons (Eqv.dp K mg H _ _ h1) (.cons (Eqv.dp K mg H _ _ h2) .nil)), fun p => Eqv.lay p.1 && Eqv.lay p.2, fun p => by
    show (PyData.canLay0 (Eqv.py p.1) && (PyData.canLay0 (Eqv.py p.2) && true)) = _
    rw [Eqv.lyq p.1, Eqv.lyq p.2, Bool.and_true], max E.dep F.dep + 1, fun p => by
    show max (PyData.depth (Eqv.py p.1)) (max (PyData.depth (Eqv.py p.2)) 0) + 1 ≤ _
    have h1 := Eqv.dle p.1
    have h2 := Eqv.dle p.2
    omega, fun a b => by
    show (PyData.eqv (Eqv.py a.1) (Eqv.py b.1) && (PyData.eqv (Eqv.py a.2) (Eqv.py b.2) && true)) = _
    rw [Eqv.eqv, Eqv.eqv]
    obtain ⟨a1, a2⟩ := a
    obtain ⟨b1, b2⟩ := b
    by_cases h : a1 = b1 <;> by_cases h2 : a2 = b2 <;> simp [h, h2]⟩
instance [Eqv α] [Eqv β] : Knd (α × β) := ⟨4, fun _ => rfl⟩
instance [Eqv α] [Eqv β] [LayT α] [LayT β] : LayT (α × β) := ⟨fun p => by show (Eqv.lay p.1 && Eqv.lay p.2) = true; rw [LayT.lt, LayT.lt]; rfl⟩
instance [E : Eqv α] [F : Eqv β] [G : Eqv γ] : Eqv (T3 α β γ) := ⟨fun p => .tuple [Eqv.py p.a, Eqv.py p.b, Eqv.py p.c], fun K mg H v a r => by
    obtain ⟨p, xs, rfl, h, q⟩ := R.tup_inv r
    cases q with
    | cons h1 q => cases q with
      | cons h2 q => cases q with
        | cons h3 q =>
          cases q
          exact .tup h (.cons (Eqv.dp K mg H _ _ h1) (.cons (Eqv.dp K mg H _ _ h2) (.cons (Eqv.dp K mg H _ _ h3) .nil))), fun p => Eqv.lay p.a && (Eqv.lay p.b && Eqv.lay p.c), fun p => by
    show (PyData.canLay0 (Eqv.py p.a) && (PyData.canLay0 (Eqv.py p.b) && (PyData.canLay0 (Eqv.py p.c) && true))) = _
    rw [Eqv.lyq p.a, Eqv.lyq p.b, Eqv.lyq p.c, Bool.and_true], max E.dep (max F.dep G.dep) + 1, fun p => by
    show max (PyData.depth (Eqv.py p.a)) (max (PyData.depth (Eqv.py p.b)) (max (PyData.depth (Eqv.py p.c)) 0)) + 1 ≤ _
    have h1 := Eqv.dle p.a
    have h2 := Eqv.dle p.b
    have h3 := Eqv.dle p.c
    omega, fun a b => by
    show (PyData.eqv (Eqv.py a.a) (Eqv.py b.a) && (PyData.eqv (Eqv.py a.b) (Eqv.py b.b) && (PyData.eqv (Eqv.py a.c) (Eqv.py b.c) && true))) = _
    rw [Eqv.eqv, Eqv.eqv, Eqv.eqv]
    obtain ⟨a1, a2, a3⟩ := a
    obtain ⟨b1, b2, b3⟩ := b
    by_cases h : a1 = b1 <;> by_cases h2 : a2 = b2 <;> by_cases h3 : a3 = b3 <;> simp [h, h2, h3]⟩
instance [Eqv α] [Eqv β] [Eqv γ] : Knd (T3 α β γ) := ⟨4, fun _ => rfl⟩
instance [Eqv α] [Eqv β] [Eqv γ] [LayT α] [LayT β] [LayT γ] : LayT (T3 α β γ) := ⟨fun p => by show (Eqv.lay p.a && (Eqv.lay p.b && Eqv.lay p.c)) = true; rw [LayT.lt, LayT.lt, LayT.lt]; rfl⟩
instance [E : Eqv α] [F : Eqv β] [G : Eqv γ] [I : Eqv δ] [J : Eqv ε] : Eqv (T5 α β γ δ ε) := ⟨fun p => .tuple [Eqv.py p.a, Eqv.py p.b, Eqv.py p.c, Eqv.py p.d, Eqv.py p.e], fun K mg H v a r => by
    obtain ⟨p, xs, rfl, h, q⟩ := R.tup_inv r
    cases q with
    | cons h1 q => cases q with
      | cons h2 q => cases q with
        | cons h3 q => cases q with
          | cons h4 q => cases q with
            | cons h5 q =>
              cases q
              exact .tup h (.cons (Eqv.dp K mg H _ _ h1) (.cons (Eqv.dp K mg H _ _ h2) (.cons (Eqv.dp K mg H _ _ h3) (.cons (Eqv.dp K mg H _ _ h4) (.cons (Eqv.dp K mg H _ _ h5) .nil))))), fun p => Eqv.lay p.a && (Eqv.lay p.b && (Eqv.lay p.c && (Eqv.lay p.d && Eqv.lay p.e))), fun p => by
    show (PyData.canLay0 (Eqv.py p.a) && (PyData.canLay0 (Eqv.py p.b) && (PyData.canLay0 (Eqv.py p.c) && (PyData.canLay0 (Eqv.py p.d) && (PyData.canLay0 (Eqv.py p.e) && true))))) = _
    rw [Eqv.lyq p.a, Eqv.lyq p.b, Eqv.lyq p.c, Eqv.lyq p.d, Eqv.lyq p.e, Bool.and_true], max E.dep (max F.dep (max G.dep (max I.dep J.dep))) + 1, fun p => by
    show max (PyData.depth (Eqv.py p.a)) (max (PyData.depth (Eqv.py p.b)) (max (PyData.depth (Eqv.py p.c)) (max (PyData.depth (Eqv.py p.d)) (max (PyData.depth (Eqv.py p.e)) 0)))) + 1 ≤ _
    have h1 := Eqv.dle p.a
    have h2 := Eqv.dle p.b
    have h3 := Eqv.dle p.c
    have h4 := Eqv.dle p.d
    have h5 := Eqv.dle p.e
    omega, fun a b => by
    show (PyData.eqv (Eqv.py a.a) (Eqv.py b.a) && (PyData.eqv (Eqv.py a.b) (Eqv.py b.b) && (PyData.eqv (Eqv.py a.c) (Eqv.py b.c) && (PyData.eqv (Eqv.py a.d) (Eqv.py b.d) && (PyData.eqv (Eqv.py a.e) (Eqv.py b.e) && true))))) = _
    rw [Eqv.eqv, Eqv.eqv, Eqv.eqv, Eqv.eqv, Eqv.eqv]
    obtain ⟨a1, a2, a3, a4, a5⟩ := a
    obtain ⟨b1, b2, b3, b4, b5⟩ := b
    by_cases h : a1 = b1 <;> by_cases h2 : a2 = b2 <;> by_cases h3 : a3 = b3 <;> by_cases h4 : a4 = b4 <;> by_cases h5 : a5 = b5 <;> simp [h, h2, h3, h4, h5]⟩
instance [Eqv α] [Eqv β] [Eqv γ] [Eqv δ] [Eqv ε] : Knd (T5 α β γ δ ε) := ⟨4, fun _ => rfl⟩
instance [Eqv α] [Eqv β] [Eqv γ] [Eqv δ] [Eqv ε] [LayT α] [LayT β] [LayT γ] [LayT δ] [LayT ε] : LayT (T5 α β γ δ ε) := ⟨fun p => by show (Eqv.lay p.a && (Eqv.lay p.b && (Eqv.lay p.c && (Eqv.lay p.d && Eqv.lay p.e)))) = true; rw [LayT.lt, LayT.lt, LayT.lt, LayT.lt, LayT.lt]; rfl⟩
/-- one of two kinds -/
@[reducible] def eqvSum (α β : Type) [Enc α] [DecidableEq α] [Enc β] [DecidableEq β] [E : Eqv α] [F : Eqv β] [A : Knd α] [B : Knd β] (h : A.k ≠ B.k) : Eqv (α ⊕ β) := ⟨fun o => match o with | .inl a => E.py a | .inr b => F.py b, fun K mg H v a r => by
    cases a with
    | inl a => exact E.dp K mg H v a r
    | inr a => exact F.dp K mg H v a r, fun o => match o with | .inl a => E.lay a | .inr b => F.lay b, fun o => by
    cases o with
    | inl a => exact E.lyq a
    | inr a => exact F.lyq a, max E.dep F.dep, fun o => by
    cases o with
    | inl a => exact Nat.le_trans (E.dle a) (Nat.le_max_left _ _)
    | inr a => exact Nat.le_trans (F.dle a) (Nat.le_max_right _ _), fun a b => by
    cases a with
    | inl a =>
      cases b with
      | inl b => show PyData.eqv (E.py a) (E.py b) = _; rw [E.eqv]; simp
      | inr b => show PyData.eqv (E.py a) (F.py b) = _; rw [eqv_kd _ _ (by rw [A.ok, B.ok]; exact h)]; simp
    | inr a =>
      cases b with
      | inl b => show PyData.eqv (F.py a) (E.py b) = _; rw [eqv_kd _ _ (by rw [A.ok, B.ok]; exact h.symm)]; simp
      | inr b => show PyData.eqv (F.py a) (F.py b) = _; rw [F.eqv]; simp⟩
@[reducible] def eqvOpt (α : Type) [Enc α] [DecidableEq α] [E : Eqv α] [A : Knd α] (h : A.k ≠ 0) : Eqv (Option α) := ⟨fun o => match o with | none => .none | some a => E.py a, fun K mg H v a r => by
    cases a with
    | none => cases r; exact .non
    | some a => exact E.dp K mg H v a r, fun o => match o with | none => true | some a => E.lay a, fun o => by
    cases o with
    | none => rfl
    | some a => exact E.lyq a, E.dep, fun o => by
    cases o with
    | none => exact Nat.zero_le _
    | some a => exact E.dle a, fun a b => by
    cases a with
    | none =>
      cases b with
      | none => rfl
      | some b => show PyData.eqv .none (E.py b) = _; rw [eqv_kd _ _ (by rw [A.ok]; exact h.symm)]; simp
    | some a =>
      cases b with
      | none => show PyData.eqv (E.py a) .none = _; rw [eqv_kd _ _ (by rw [A.ok]; exact h)]; simp
      | some b => show PyData.eqv (E.py a) (E.py b) = _; rw [E.eqv]; simp⟩
end
section
variable {X : Cx} {Γ Γx : List SL} {e a b c : Expr} {es : List Expr} {rest : List Stmt} {pos p : Pos} {α β γ : Type} [Enc α] [Enc β] [Enc γ] {w w' : Bool} {τ : Type} {E : Eds τ}
theorem eq_read [DecidableEq α] [V : Eqv α] (hd : V.dep ≤ 64) {K : PySem.W.Frag} {mg : Str → Option Value} {x y : α} {H : Hp} {v u : L2.V} (hx : V.lay x = true) (hy : V.lay y = true) (r1 : R K mg H v (enc x)) (r2 : R K mg H u (enc y)) : Dp K H v (V.py x) ∧ Dp K H u (V.py y) ∧ SeqAt.shaped (V.py x) = true ∧ SeqAt.shaped (V.py y) = true :=
  ⟨V.dp K mg H v x r1, V.dp K mg H u y r2, by unfold SeqAt.shaped; rw [V.lyq x, hx, decide_eq_true (Nat.le_trans (V.dle x) hd)]; rfl, by unfold SeqAt.shaped; rw [V.lyq y, hy, decide_eq_true (Nat.le_trans (V.dle y) hd)]; rfl⟩
theorem ve_eqD [DecidableEq α] [V : Eqv α] [LayT α] {m1 m2 : M α} (hu : X.A.units + 64 < cLine) (ha : VX true X Γ a m1) (hb : VX true X Γ b m2) (hd : V.dep ≤ 64 := by decide) : VX w X Γ (.Compare a [.Eq] [b] pos) (m1 >>= fun x => m2 >>= fun y => M.ok (decide (x = y))) := ve_cmp (op_eqD hu) ha hb (nomark _) (fun x y H v u r1 r2 Q o => by
    obtain ⟨h1, h2, h3, h4⟩ := eq_read hd (LayT.lt x) (LayT.lt y) r1 r2
    exact ⟨_, _, h1, h2, h3, h4, by rw [V.eqv]; exact o⟩) fun _ _ _ z => nomatch z
theorem ve_eqDc [DecidableEq α] [V : Eqv α] {m1 m2 : M α} (hu : X.A.units + 64 < cLine) (ha : VX true X Γ a m1) (hb : VX true X Γ b m2) (hd : V.dep ≤ 64 := by decide) : VX w X Γ (.Compare a [.Eq] [b] pos) (m1 >>= fun x => m2 >>= fun y => chk (V.lay x = true ∧ V.lay y = true) >>= fun _ => M.ok (decide (x = y))) := ve_cmp (op_eqD hu) ha hb (nomark _) (fun x y H v u r1 r2 Q o => by
    obtain ⟨⟨hx, hy⟩, o⟩ := o.chk
    obtain ⟨h1, h2, h3, h4⟩ := eq_read hd hx hy r1 r2
    exact ⟨_, _, h1, h2, h3, h4, by rw [V.eqv]; exact o⟩) fun _ _ _ z => by unfold chk at z; split at z <;> cases z
theorem vt_eqD [DecidableEq α] [V : Eqv α] [LayT α] {m1 m2 : M α} (hu : X.A.units + 64 < cLine) (ha : VX true X Γ a m1) (hb : VX true X Γ b m2) (hd : V.dep ≤ 64 := by decide) : VT X Γ (.Compare a [.Eq] [b] pos) (m1 >>= fun x => m2 >>= fun y => M.ok (decide (x = y))) := vt_cmp (op_eqD hu) ha hb (nomark _) (fun x y H v u r1 r2 Q o => by
    obtain ⟨h1, h2, h3, h4⟩ := eq_read hd (LayT.lt x) (LayT.lt y) r1 r2
    exact ⟨_, _, h1, h2, h3, h4, by rw [V.eqv]; exact o⟩) fun _ _ _ z => nomatch z
theorem vt_eqDc [DecidableEq α] [V : Eqv α] {m1 m2 : M α} (hu : X.A.units + 64 < cLine) (ha : VX true X Γ a m1) (hb : VX true X Γ b m2) (hd : V.dep ≤ 64 := by decide) : VT X Γ (.Compare a [.Eq] [b] pos) (m1 >>= fun x => m2 >>= fun y => chk (V.lay x = true ∧ V.lay y = true) >>= fun _ => M.ok (decide (x = y))) := vt_cmp (op_eqD hu) ha hb (nomark _) (fun x y H v u r1 r2 Q o => by
    obtain ⟨⟨hx, hy⟩, o⟩ := o.chk
    obtain ⟨h1, h2, h3, h4⟩ := eq_read hd hx hy r1 r2
    exact ⟨_, _, h1, h2, h3, h4, by rw [V.eqv]; exact o⟩) fun _ _ _ z => by unfold chk at z; split at z <;> cases z
theorem ve_neD [DecidableEq α] [V : Eqv α] [LayT α] {m1 m2 : M α} (hu : X.A.units + 64 < cLine) (ha : VX true X Γ a m1) (hb : VX true X Γ b m2) (hd : V.dep ≤ 64 := by decide) : VX w X Γ (.Compare a [.NotEq] [b] pos) (m1 >>= fun x => m2 >>= fun y => M.ok (!decide (x = y))) := ve_cmp (op_neD hu) ha hb (nomark _) (fun x y H v u r1 r2 Q o => by
    obtain ⟨h1, h2, h3, h4⟩ := eq_read hd (LayT.lt x) (LayT.lt y) r1 r2
    exact ⟨_, _, h1, h2, h3, h4, by rw [V.eqv]; exact o⟩) fun _ _ _ z => nomatch z
theorem ve_neDc [DecidableEq α] [V : Eqv α] {m1 m2 : M α} (hu : X.A.units + 64 < cLine) (ha : VX true X Γ a m1) (hb : VX true X Γ b m2) (hd : V.dep ≤ 64 := by decide) : VX w X Γ (.Compare a [.NotEq] [b] pos) (m1 >>= fun x => m2 >>= fun y => chk (V.lay x = true ∧ V.lay y = true) >>= fun _ => M.ok (!decide (x = y))) := ve_cmp (op_neD hu) ha hb (nomark _) (fun x y H v u r1 r2 Q o => by
    obtain ⟨⟨hx, hy⟩, o⟩ := o.chk
    obtain ⟨h1, h2, h3, h4⟩ := eq_read hd hx hy r1 r2
    exact ⟨_, _, h1, h2, h3, h4, by rw [V.eqv]; exact o⟩) fun _ _ _ z => by unfold chk at z; split at z <;> cases z
theorem vt_neD [DecidableEq α] [V : Eqv α] [LayT α] {m1 m2 : M α} (hu : X.A.units + 64 < cLine) (ha : VX true X Γ a m1) (hb : VX true X Γ b m2) (hd : V.dep ≤ 64 := by decide) : VT X Γ (.Compare a [.NotEq] [b] pos) (m1 >>= fun x => m2 >>= fun y => M.ok (!decide (x = y))) := vt_cmp (op_neD hu) ha hb (nomark _) (fun x y H v u r1 r2 Q o => by
    obtain ⟨h1, h2, h3, h4⟩ := eq_read hd (LayT.lt x) (LayT.lt y) r1 r2
    exact ⟨_, _, h1, h2, h3, h4, by rw [V.eqv]; exact o⟩) fun _ _ _ z => nomatch z
theorem vt_neDc [DecidableEq α] [V : Eqv α] {m1 m2 : M α} (hu : X.A.units + 64 < cLine) (ha : VX true X Γ a m1) (hb : VX true X Γ b m2) (hd : V.dep ≤ 64 := by decide) : VT X Γ (.Compare a [.NotEq] [b] pos) (m1 >>= fun x => m2 >>= fun y => chk (V.lay x = true ∧ V.lay y = true) >>= fun _ => M.ok (!decide (x = y))) := vt_cmp (op_neD hu) ha hb (nomark _) (fun x y H v u r1 r2 Q o => by
    obtain ⟨⟨hx, hy⟩, o⟩ := o.chk
    obtain ⟨h1, h2, h3, h4⟩ := eq_read hd hx hy r1 r2
    exact ⟨_, _, h1, h2, h3, h4, by rw [V.eqv]; exact o⟩) fun _ _ _ z => by unfold chk at z; split at z <;> cases z
/-! ### divisors that are written -/
theorem ve_modK {m : M Int} {k : Int} (ha : VX true X Γ a m) (hb : VX true X Γ b (M.ok k)) (hk : 0 < k := by decide) : VX w X Γ (.BinOp a .Mod b pos) (m >>= fun x => M.ok (x % k)) := by
  have h := ve_binC (w := w) (pos := pos) (C := fun _ j => 0 < j) (g := fun i j => i % j) op_mod ha hb
  refine h.congr ?_
  congr 1
  funext x
  show (chk (0 < k) >>= fun _ => M.ok (x % k)) = _
  rw [chk_ok hk]; rfl
instance (i j : Int) : Decidable (CDiv i j) := by unfold CDiv; infer_instance
instance (i j : Int) : Decidable (CMul i j) := by unfold CMul; infer_instance
instance (i j : Int) : Decidable (CPow i j) := by unfold CPow; infer_instance
theorem ve_divK {m : M Int} {k : Int} (ha : VX true X Γ a m) (hb : VX true X Γ b (M.ok k)) (hk : CDiv 0 k := by decide) : VX w X Γ (.BinOp a .FloorDiv b pos) (m >>= fun x => M.ok (x / k)) := by
  have h := ve_binC (w := w) (pos := pos) (C := CDiv) (g := fun i j => i / j) op_fdiv ha hb
  refine h.congr ?_
  congr 1
  funext x
  show (chk (CDiv x k) >>= fun _ => M.ok (x / k)) = _
  rw [chk_ok (show CDiv x k from hk)]; rfl
theorem ve_mulR {m : M Int} {k : Int} (ha : VX true X Γ a m) (hb : VX true X Γ b (M.ok k)) (hk : -(2 ^ 64) < k ∧ k < 2 ^ 64 := by decide) : VX w X Γ (.BinOp a .Mult b pos) (m >>= fun x => M.ok (x * k)) := by
  have h := ve_binC (w := w) (pos := pos) (C := CMul) (g := fun i j => i * j) op_mul ha hb
  refine h.congr ?_
  congr 1
  funext x
  show (chk (CMul x k) >>= fun _ => M.ok (x * k)) = _
  rw [chk_ok (show CMul x k from .inr hk)]; rfl
theorem ve_mulL {m : M Int} {k : Int} (ha : VX true X Γ a (M.ok k)) (hb : VX true X Γ b m) (hk : -(2 ^ 64) < k ∧ k < 2 ^ 64 := by decide) : VX w X Γ (.BinOp a .Mult b pos) (m >>= fun x => M.ok (k * x)) := by
  have h := ve_binC (w := w) (pos := pos) (C := CMul) (g := fun i j => i * j) op_mul ha hb
  refine h.congr ?_
  show (m >>= fun x => chk (CMul k x) >>= fun _ => M.ok (k * x)) = _
  congr 1
  funext x
  rw [chk_ok (show CMul k x from .inl hk)]; rfl
theorem ve_shrK {m : M Int} {k : Int} (ha : VX true X Γ a m) (hb : VX true X Γ b (M.ok k)) (hk : 0 ≤ k := by decide) : VX w X Γ (.BinOp a .RShift b pos) (m >>= fun x => M.ok (x / 2 ^ k.toNat)) := by
  have h := ve_binC (w := w) (pos := pos) (C := fun _ j => 0 ≤ j) (g := fun i j => i / 2 ^ j.toNat) op_shr ha hb
  refine h.congr ?_
  congr 1
  funext x
  show (chk (0 ≤ k) >>= fun _ => M.ok (x / 2 ^ k.toNat)) = _
  rw [chk_ok hk]; rfl
theorem ve_mul {m1 m2 : M Int} (ha : VX true X Γ a m1) (hb : VX true X Γ b m2) : VX w X Γ (.BinOp a .Mult b pos) (m1 >>= fun x => m2 >>= fun y => chk (CMul x y) >>= fun _ => M.ok (x * y)) := ve_binC op_mul ha hb
theorem ve_mod {m1 m2 : M Int} (ha : VX true X Γ a m1) (hb : VX true X Γ b m2) : VX w X Γ (.BinOp a .Mod b pos) (m1 >>= fun x => m2 >>= fun y => chk (0 < y) >>= fun _ => M.ok (x % y)) := ve_binC (C := fun _ y => 0 < y) op_mod ha hb
theorem ve_div {m1 m2 : M Int} (ha : VX true X Γ a m1) (hb : VX true X Γ b m2) : VX w X Γ (.BinOp a .FloorDiv b pos) (m1 >>= fun x => m2 >>= fun y => chk (CDiv x y) >>= fun _ => M.ok (x / y)) := ve_binC op_fdiv ha hb
theorem ve_shl {m1 m2 : M Int} (ha : VX true X Γ a m1) (hb : VX true X Γ b m2) : VX w X Γ (.BinOp a .LShift b pos) (m1 >>= fun x => m2 >>= fun y => chk (CPow x y) >>= fun _ => M.ok (x * 2 ^ y.toNat)) := ve_binC op_shl ha hb
theorem ve_shr {m1 m2 : M Int} (ha : VX true X Γ a m1) (hb : VX true X Γ b m2) : VX w X Γ (.BinOp a .RShift b pos) (m1 >>= fun x => m2 >>= fun y => chk (0 ≤ y) >>= fun _ => M.ok (x / 2 ^ y.toNat)) := ve_binC (C := fun _ y => 0 ≤ y) op_shr ha hb
theorem ve_pow {m1 m2 : M Int} (ha : VX true X Γ a m1) (hb : VX true X Γ b m2) : VX w X Γ (.BinOp a .Pow b pos) (m1 >>= fun x => m2 >>= fun y => chk (CPow x y) >>= fun _ => M.ok (x ^ y.toNat)) := ve_binC op_pow ha hb
/-! plain tests -/
theorem vw_and_p {x y : Bool} (h : VT X Γ a (.ok x)) {rs : List Expr} (h2 : VW X Γ (.BoolOp .And (b :: rs) pos) (.ok y)) : VW X Γ (.BoolOp .And (a :: b :: rs) pos) (.ok (x && y)) := by
  have q := vw_and h h2
  rw [bAnd_ok] at q
  exact q
theorem vw_or_p {x y : Bool} (h : VT X Γ a (.ok x)) {rs : List Expr} (h2 : VW X Γ (.BoolOp .Or (b :: rs) pos) (.ok y)) : VW X Γ (.BoolOp .Or (a :: b :: rs) pos) (.ok (x || y)) := by
  have q := vw_or h h2
  rw [bOr_ok] at q
  exact q
theorem ve_and_p {x y : Bool} (h : VX true X Γ a (.ok x)) {rs : List Expr} (h2 : VX true X Γ (.BoolOp .And (b :: rs) pos) (.ok y)) : VX w X Γ (.BoolOp .And (a :: b :: rs) pos) (.ok (x && y)) := by
  have q := ve_and (w := w) h h2
  rw [bAnd_ok] at q
  exact q
theorem ve_or_p {x y : Bool} (h : VX true X Γ a (.ok x)) {rs : List Expr} (h2 : VX true X Γ (.BoolOp .Or (b :: rs) pos) (.ok y)) : VX w X Γ (.BoolOp .Or (a :: b :: rs) pos) (.ok (x || y)) := by
  have q := ve_or (w := w) h h2
  rw [bOr_ok] at q
  exact q
theorem ve_ite_p {x : Bool} {y z : α} (h : VT X Γ c (.ok x)) (h1 : VX w X Γ a (.ok y)) (h2 : VX w X Γ b (.ok z)) : VX w X Γ (.IfExp c a b pos) (.ok (if x then y else z)) := by
  have q := ve_ite h h1 h2 (pos := pos)
  cases x
  · exact q
  · exact q
/-- a < b < c -/
theorem ve_chain {op op' : CmpOp} {p1 p2 : Int → Int → Bool} {m1 m2 m3 : M Int} (ho : OpR X (compareOp op) (rI0 fun i j => .bl (p1 i j))) (ho' : OpR X (compareOp op') (rI0 fun i j => .bl (p2 i j))) (ha : VX true X Γ a m1) (hb : VX true X Γ b m2) (hc : VX true X Γ c m3)
    (h1 : lastMarks [op, op'] [b, c] = false) : VX w X Γ (.Compare a [op, op'] [b, c] pos) (m1 >>= fun x => m2 >>= fun y => bAnd (M.ok (p1 x y)) (m3 >>= fun z => M.ok (p2 y z))) := fun W tk σ I H T mw Q o => by
  refine to_t (pe_chain ho ho' pe_of pe_of pe_of h1) ?_
  refine ha.ap tk mw o.bind (fun x _ o1 v I1 H1 g1 r1 => ?_) fun _ z => z
  refine hb.ap tk (mw.gr g1) o1.bind (fun y _ o2 u I2 H2 g2 r2 => ?_) fun _ z => z.gr g1
  cases r1; cases r2
  refine ⟨x, y, rfl, rfl, p1 x y, rfl, ?_⟩
  cases q : p1 x y with
  | true =>
    rw [q] at o2
    refine iteT ?_
    refine hc.ap tk ((mw.gr g1).gr g2) (show Out (m3 >>= fun z => M.ok (p2 y z)) _ _ from o2).bind (fun z _ o3 t I3 H3 g3 r3 => ?_) fun _ z => (z.gr g1).gr g2
    cases r3
    exact ⟨y, z, rfl, rfl, o3 _ I3 H3 ((g1.trans g2).trans g3) (.bl _)⟩
  | false =>
    rw [q] at o2
    exact iteF (o2 _ I2 H2 (g1.trans g2) (.bl _))

/-! ### None -/
class NN (α : Type) [Enc α] : Prop where
  nn : ∀ (K : PySem.W.Frag) (mg : Str → Option Value) (H : Hp) (v : V) (a : α), R K mg H v (enc a) → v ≠ .non
instance : NN Int := ⟨fun K mg H v a r => by cases r; intro h; cases h⟩
instance : NN Bool := ⟨fun K mg H v a r => by cases r; intro h; cases h⟩
instance : NN Str := ⟨fun K mg H v a r => by cases r; intro h; cases h⟩
instance {α : Type} [Enc α] : NN (List α) := ⟨fun K mg H v a r => by cases r; intro h; cases h⟩
instance {α : Type} [Enc α] : NN (Tup α) := ⟨fun K mg H v a r => by cases r; intro h; cases h⟩
instance {α β : Type} [Enc α] [Enc β] : NN (α × β) := ⟨fun K mg H v a r => by cases r; intro h; cases h⟩
instance {α β γ : Type} [Enc α] [Enc β] [Enc γ] : NN (T3 α β γ) := ⟨fun K mg H v a r => by cases r; intro h; cases h⟩
instance {α β γ δ : Type} [Enc α] [Enc β] [Enc γ] [Enc δ] : NN (T4 α β γ δ) := ⟨fun K mg H v a r => by cases r; intro h; cases h⟩
instance {α β γ δ ε : Type} [Enc α] [Enc β] [Enc γ] [Enc δ] [Enc ε] : NN (T5 α β γ δ ε) := ⟨fun K mg H v a r => by cases r; intro h; cases h⟩
theorem opt_non [NN α] {K : PySem.W.Frag} {mg : Str → Option Value} {H : Hp} {v : V} {o : Option α} (r : R K mg H v (enc o)) : decide (v = .non) = o.isNone := by
  cases o with
  | none => cases r; rfl
  | some a =>
    have h := NN.nn K mg H v a r
    simp [h]
theorem ve_isN [NN α] {j : Nat} {pc : Pos} {m : M (Option α)} (ha : VX true X Γ a m) : VX w X Γ (.Compare a [.Is] [.Constant .none j pc] pos) (m >>= fun o => M.ok o.isNone) :=
  (ve_cmp (β := Unit) (w := w) (f := fun (o : Option α) (_ : Unit) => M.ok o.isNone) op_isN ha ve_non (nomark _) (fun x y H v u r1 r2 Q o => by
    cases r2
    exact ⟨rfl, by rw [opt_non r1]; exact o⟩) fun _ _ _ z => nomatch z).congr (by cases m <;> rfl)
theorem ve_isNN [NN α] {j : Nat} {pc : Pos} {m : M (Option α)} (ha : VX true X Γ a m) : VX w X Γ (.Compare a [.IsNot] [.Constant .none j pc] pos) (m >>= fun o => M.ok o.isSome) :=
  (ve_cmp (β := Unit) (w := w) (f := fun (o : Option α) (_ : Unit) => M.ok o.isSome) op_notN ha ve_non (nomark _) (fun x y H v u r1 r2 Q o => by
    cases r2
    refine ⟨rfl, ?_⟩
    rw [opt_non r1]
    cases x
    · exact o
    · exact o) fun _ _ _ z => nomatch z).congr (by cases m <;> rfl)

/-! ### isinstance -/
class PyT (α : Type) [Enc α] where
  nm : α → String
  ty : ∀ (K : PySem.W.Frag) (mg : Str → Option Value) (H : Hp) (v : V) (a : α), R K mg H v (enc a) → TyX K H v (.type (nm a))
instance : PyT Int := ⟨fun _ => "int", fun K mg H v a r => by cases r; exact .base (.int _)⟩
instance : PyT Bool := ⟨fun _ => "bool", fun K mg H v a r => by cases r; exact .base (.bl _)⟩
instance : PyT Str := ⟨fun _ => "str", fun K mg H v a r => by cases r; exact .base (.str _)⟩
instance : PyT Unit := ⟨fun _ => "NoneType", fun K mg H v a r => by cases r; exact .base .non⟩
theorem ty_lst {K : PySem.W.Frag} {mg : Str → Option Value} {H : Hp} {v : V} {l : List D} (r : R K mg H v (.lst l)) : TyX K H v (.type "list") := by
  obtain ⟨p, xs, rfl, h, q⟩ := r.lst_inv
  rcases h with (h | ⟨o, h⟩) | ⟨o, its, n, h, hc, _⟩
  · exact .base (.lst h)
  · exact .base (.frz h)
  · exact .kList h hc
theorem ty_tup {K : PySem.W.Frag} {mg : Str → Option Value} {H : Hp} {v : V} {l : List D} (r : R K mg H v (.tup l)) : TyX K H v (.type "tuple") := by
  obtain ⟨p, xs, rfl, h, q⟩ := r.tup_inv
  rcases h with (h | ⟨o, h⟩) | ⟨o, its, n, h, hc, _⟩
  · exact .base (.tup h)
  · exact .fTuple h
  · exact .kTuple h hc
instance {α : Type} [Enc α] : PyT (List α) := ⟨fun _ => "list", fun K mg H v a r => ty_lst r⟩
instance {α : Type} [Enc α] : PyT (Tup α) := ⟨fun _ => "tuple", fun K mg H v a r => ty_tup r⟩
instance {α β : Type} [Enc α] [Enc β] : PyT (α × β) := ⟨fun _ => "tuple", fun K mg H v a r => ty_tup r⟩
instance {α β γ : Type} [Enc α] [Enc β] [Enc γ] : PyT (T3 α β γ) := ⟨fun _ => "tuple", fun K mg H v a r => ty_tup r⟩
instance {α β γ δ : Type} [Enc α] [Enc β] [Enc γ] [Enc δ] : PyT (T4 α β γ δ) := ⟨fun _ => "tuple", fun K mg H v a r => ty_tup r⟩
instance {α β γ δ ε : Type} [Enc α] [Enc β] [Enc γ] [Enc δ] [Enc ε] : PyT (T5 α β γ δ ε) := ⟨fun _ => "tuple", fun K mg H v a r => ty_tup r⟩
instance {α : Type} [Enc α] [P : PyT α] : PyT (Option α) := ⟨fun o => match o with | none => "NoneType" | some a => P.nm a, fun K mg H v a r => by
  cases a with
  | none => cases r; exact .base .non
  | some a => exact P.ty K mg H v a r⟩
instance {α β : Type} [Enc α] [Enc β] [P : PyT α] [Q : PyT β] : PyT (α ⊕ β) := ⟨fun o => match o with | .inl a => P.nm a | .inr a => Q.nm a, fun K mg H v a r => by
  cases a with
  | inl a => exact P.ty K mg H v a r
  | inr a => exact Q.ty K mg H v a r⟩
theorem ve_isi [P : PyT α] {m : M α} {T : Str} {n : String} {pt : Pos} (f : α → Bool) (hm : X.mg "isinstance" = none) (hT : X.mg T = none) (ha : VX true X Γ a m) (hf : ∀ x : α, kitB (P.nm x) n = some (f x)) (hv : bootBuiltins T = some (.type n) := by decide +kernel) (hg : Gl X "isinstance" := by rfl) (hgT : Gl X T := by rfl) (hnT : T ≠ "__name__" := by decide) (hdT : (T == ("__debug__" : Str)) = false := by decide)
    (hs : starEach [a, .Name T pt] X.env = (false, eval a X.env) :: starEach [.Name T pt] X.env := by rfl) (hs2 : starEach [.Name T pt] X.env = (false, eval (.Name T pt) X.env) :: starEach [] X.env := by rfl) (hpl : (backTo pos (starEach [.Name T pt] X.env)).any (·.1) = false := by rfl) :
    VX w X Γ (.Call (.Name "isinstance" p) [a, .Name T pt] [] pos) (m >>= fun x => M.ok (f x)) := fun W tk σ I H T' mw Q o => by
  refine to_t (pe_callB call_isi hg hm (by decide +kernel) (pa_cons pe_of (pa_cons (pe_bltn (v := .ty n) hgT hT hv rfl hnT hdT) pa_nil hs2) hs) (by decide) (by decide) hs hpl) ?_
  refine ha.ap tk mw o.bind (fun x _ o1 v I1 H1 g1 r1 => ?_) fun _ z => z
  exact ⟨v, .ty n, .type (P.nm x), .type n, f x, rfl, .ty n, P.ty _ _ _ _ _ (r1 : R X.K X.mg H1 v (enc x)), kit_ty (hf x), o1 _ I1 H1 g1 (.bl _)⟩

theorem ve_isiS [P : PyT α] {m : M α} {T : Str} {n : String} {pt : Pos} (n0 : String) (f : Bool) (hm : X.mg "isinstance" = none) (hT : X.mg T = none) (ha : VX true X Γ a m) (hn0 : ∀ x : α, P.nm x = n0) (hf : kitB n0 n = some f) (hv : bootBuiltins T = some (.type n) := by decide +kernel) (hg : Gl X "isinstance" := by rfl) (hgT : Gl X T := by rfl) (hnT : T ≠ "__name__" := by decide) (hdT : (T == ("__debug__" : Str)) = false := by decide)
    (hs : starEach [a, .Name T pt] X.env = (false, eval a X.env) :: starEach [.Name T pt] X.env := by rfl) (hs2 : starEach [.Name T pt] X.env = (false, eval (.Name T pt) X.env) :: starEach [] X.env := by rfl) (hpl : (backTo pos (starEach [.Name T pt] X.env)).any (·.1) = false := by rfl) :
    VX w X Γ (.Call (.Name "isinstance" p) [a, .Name T pt] [] pos) (m >>= fun x => M.ok f) := ve_isi (fun _ => f) hm hT ha (fun x => by rw [hn0 x]; exact hf) hv hg hgT hnT hdT hs hs2 hpl

/-! ### plain forms of statements -/
theorem vs_retp {x : α} {t : τ} (he : VE X Γ e (M.ok x)) (hr : E.rt (.imm (enc x)) t) (hs : Sub Γ Γx) : VS X Γ Γx (.Return (some e) pos :: rest) E (.ok t) := fun W tk I0 H0 σ I H T mt D o => by
  refine seq_s (to_s1 (ps_ret pe_of) ?_)
  show tOf X e σ H _
  refine he.ap tk mt.mw (P := fun _ => True) (E := fun _ => False) trivial (fun a q _ v I1 H1 g1 r1 => ?_) fun _ z => z.elim
  cases q
  have mt1 := mt.gr g1
  exact o.rt _ v I1 H1 [] hr (mt1.wd.subl (List.nil_sublist _)) (.imm r1)
theorem vs_ifxp {a : List Stmt} {x : Bool} {m1 m2 : M τ} (hc : VT X Γ c (.ok x)) (ha : VS X Γ Γx a { E with nx := fun _ _ => False } m1) (hb : VS X Γ Γx rest E m2) (hs : Sub Γ Γx) : VS X Γ Γx (.If c a [] pos :: rest) E (if x then m1 else m2) := vs_ifx (b := []) hc ha hb hs
theorem vs_ifxxp {a b : List Stmt} {x : Bool} {m1 m2 : M τ} (hc : VT X Γ c (.ok x)) (ha : VS X Γ Γx a { E with nx := fun _ _ => False } m1) (hb : VS X Γ Γx b { E with nx := fun _ _ => False } m2) (hs : Sub Γ Γx) : VS X Γ Γx (.If c a b pos :: rest) E (if x then m1 else m2) := vs_ifxx hc ha hb hs
theorem vs_iflp {a b : List Stmt} {x : Bool} {m1 m2 : M τ} (hc : VT X Γ c (.ok x)) (ha : VS X Γ Γx a E m1) (hb : VS X Γ Γx b E m2) (hs : Sub Γ Γx) : VS X Γ Γx [.If c a b pos] E (if x then m1 else m2) := vs_ifl hc ha hb hs
theorem vs_ifjp {S : Type} (F : S → List SL) {a b : List Stmt} {x : Bool} {m1 m2 : M S} {k : S → M τ} (hc : VT X Γ c (.ok x)) (ha : VS X Γ Γx a (eNx F) m1) (hb : VS X Γ Γx b (eNx F) m2) (hk : ∀ s, VS X (F s) Γx rest E (k s)) (hs : Sub Γ Γx) :
    VS X Γ Γx (.If c a b pos :: rest) E ((if x then m1 else m2) >>= k) := vs_ifj F hc ha hb hk hs
theorem vs_ifgp {S : Type} (F : S → List SL) {a b : List Stmt} {x : Bool} {m1 m2 : M (Jn S τ)} {k : S → M τ} (hc : VT X Γ c (.ok x)) (ha : VS X Γ Γx a (eJn F E) m1) (hb : VS X Γ Γx b (eJn F E) m2) (hk : ∀ s, VS X (F s) Γx rest E (k s)) (hs : Sub Γ Γx) :
    VS X Γ Γx (.If c a b pos :: rest) E ((if x then m1 else m2) >>= fun j => j.on k) := vs_ifg F hc ha hb hk hs
/-- a test whose answer is known -/
theorem vs_ifT {a b : List Stmt} {m1 : M τ} (hc : VT X Γ c (.ok true)) (ha : VS X Γ Γx a { E with nx := fun _ _ => False } m1) (hs : Sub Γ Γx) : VS X Γ Γx (.If c a b pos :: rest) E m1 := fun W tk I0 H0 σ I H T mt D o => by
  refine seq_s (to_s1 (ps_if pt_of pss_of pss_of) ?_)
  show kOf X c σ H _
  refine hc.ap tk mt.mw (P := fun _ => True) (E := fun _ => False) trivial (fun x q _ I1 H1 g1 => ?_) fun _ z => z.elim
  cases q
  exact iteT (ha W tk I0 H0 σ I1 H1 T (mt.gr g1) _ (o.mono (fun t _ d => ⟨fun _ _ _ _ _ z => z.elim, d.bk, d.ct, d.rt⟩) fun _ _ z => z))
theorem vs_ifF {a : List Stmt} {m1 : M τ} (hc : VT X Γ c (.ok false)) (ha : VS X Γ Γx rest E m1) (hs : Sub Γ Γx) : VS X Γ Γx (.If c a [] pos :: rest) E m1 := fun W tk I0 H0 σ I H T mt D o => by
  refine seq_s (to_s1 (ps_if pt_of pss_of pss_of) ?_)
  show kOf X c σ H _
  refine hc.ap tk mt.mw (P := fun _ => True) (E := fun _ => False) trivial (fun x q _ I1 H1 g1 => ?_) fun _ z => z.elim
  cases q
  exact iteF (to_s pss_nil (rest_s ha tk (mt.gr g1) o))
end

/-! ### facts of the text -/
/-- a def as the top has left it -/
structure DefAt (K : PySem.W.Frag) (mg : Str → Option Value) (x : Str) (st : Stmt) (f : Addr) (fd : FuncData) (ps : List Str) : Prop where
  F : Fun K x x st f fd
  g : mg x = some (.ref f)
  b : Binds K fd ps []
/-- an own class of errors without __init__ -/
structure ExcCls (K : PySem.W.Frag) (mg : Str → Option Value) (x : Str) : Prop where
  ex : ∃ C, mg x = some (.ref C) ∧ PySem.W.excIn K C [.type "ValueError", .type "Exception", .type "BaseException", .type "object"] "ValueError.__new__" = true ∧ PySem.W.keepIn K (.ref C) = true ∧ PySem.W.subIn K (.ref C) (.type "BaseException") = some true ∧ PySem.W.typeIn K (.ref C) = some (.type "type")
theorem vs_raiseT {X : Cx} {Γ Γx : List SL} {rest : List Stmt} {τ : Type} {E : Eds τ} {x : Str} {msg : Str} {j : Nat} {p pc p2 pos : Pos} (T : ExcCls X.K X.mg x) (hc : X.calm = true) (hs : Sub Γ Γx) (hg : Gl X x := by rfl) (hdb : (x == ("__debug__" : Str)) = false := by decide) :
    VS X Γ Γx (.Raise (some (.Call (.Name x p) [.Constant (.str msg) j p2] [] pc)) none pos :: rest) E (.exc ⟨x, []⟩) := by
  obtain ⟨C, h1, h2, h3, h4, h5⟩ := T.ex
  exact vs_raise PySem.F.excBase_ValueError h2 h1 h3 (raises_own h4 h5) hc hs hg hdb
/-- the law's promise -/
theorem law_sp {K : PySem.W.Frag} {mg : Str → Option Value} {m : List Int × Unit → M Bool} (h : ∀ ns : List Int, ns.length ≤ 63 → m (ns, ()) = .ok true) {H : Hp} {a : Addr} {ns : List Int} (hl : ns.length ≤ 63) (hS : SqL K H a (ns.map V.int)) :
    spF K mg e1 (fun r : Bool => O.imm (enc r)) m [.ref a] H (fun v _ => v = .bl true) fun _ _ _ => False := by
  refine ⟨H, (ns, ()), .refl _, .cons (.lst hS ?_) .nil, ?_⟩
  · exact Rs.of_ints
  · rw [h ns hl]
    intro v I' H' T wd q
    cases q with
    | imm r => cases r; rfl
theorem cx_no {P : Program} {w : World} {H : Hp} {s : Shared} {e : Value} {s' : Shared} (h : L2N.CX P w [] H s (fun _ _ _ => False) e s') : False := by
  obtain ⟨_, _, _, _, _, _, _, _, _, _, _, _, z⟩ := h
  exact z
end Vc

set_option Elab.async false
set_option linter.all false
set_option maxRecDepth 100000
namespace Vc
open PySem PySem.Spec PyProof.Rows L2
open Enc (enc)
section
variable {X : Cx} {Γ Γx : List SL} {e a b c : Expr} {es : List Expr} {rest : List Stmt} {pos p : Pos} {α β γ : Type} [Enc α] [Enc β] [Enc γ] {w w' : Bool} {τ : Type} {E : Eds τ} {x : Str}
theorem ve_gint {n : Int} (h : ∃ t, X.mg x = some (.int n t)) (hg : Gl X x) (hd : (x == ("__debug__" : Str)) = false := by decide) : VX w X Γ (.Name x p) (M.ok n) := by
  obtain ⟨t, h⟩ := h
  exact ve_glob hg h (v := .int n) ⟨t, rfl⟩ (fun H => .int n) hd
theorem ve_gdat {k : α} (h : ∃ q, X.mg x = some (.ref q) ∧ ∀ H, R X.K X.mg H (.ref q) (enc k)) (hg : Gl X x) (hd : (x == ("__debug__" : Str)) = false := by decide) : VX w X Γ (.Name x p) (.ok k) := by
  obtain ⟨q, h, r⟩ := h
  exact ve_glob hg h (v := .ref q) rfl r hd
theorem ve_chainp {op op' : CmpOp} {p1 p2 : Int → Int → Bool} {x y z : Int} (ho : OpR X (compareOp op) (rI0 fun i j => .bl (p1 i j))) (ho' : OpR X (compareOp op') (rI0 fun i j => .bl (p2 i j))) (ha : VX true X Γ a (.ok x)) (hb : VX true X Γ b (.ok y)) (hc : VX true X Γ c (.ok z))
    (h1 : lastMarks [op, op'] [b, c] = false := by with_unfolding_all rfl) : VX w X Γ (.Compare a [op, op'] [b, c] pos) (M.ok (p1 x y && p2 y z)) := by
  have h := ve_chain (w := w) (pos := pos) ho ho' ha hb hc h1
  refine h.congr ?_
  show bAnd (M.ok (p1 x y)) (M.ok (p2 y z)) = _
  exact bAnd_ok _ _
theorem VX.some {m : M α} (h : VX w X Γ e m) : VX w X Γ e (m >>= fun x => M.ok (some x : Option α)) := fun W tk σ I H T mw Q o => h W tk σ I H T mw Q (o.bind.mono (fun a _ k v I' H' g r => k v I' H' g r) fun _ _ z => z)
theorem VX.none_ {m : M Unit} (h : VX w X Γ e m) : VX w X Γ e (m >>= fun _ => M.ok (Option.none : Option α)) := fun W tk σ I H T mw Q o => h W tk σ I H T mw Q (o.bind.mono (fun a _ k v I' H' g r => k v I' H' g r) fun _ _ z => z)
theorem VX.inl {m : M α} (h : VX w X Γ e m) : VX w X Γ e (m >>= fun x => M.ok (.inl x : α ⊕ β)) := fun W tk σ I H T mw Q o => h W tk σ I H T mw Q (o.bind.mono (fun a _ k v I' H' g r => k v I' H' g r) fun _ _ z => z)
theorem VX.inr {m : M β} (h : VX w X Γ e m) : VX w X Γ e (m >>= fun x => M.ok (.inr x : α ⊕ β)) := fun W tk σ I H T mw Q o => h W tk σ I H T mw Q (o.bind.mono (fun a _ k v I' H' g r => k v I' H' g r) fun _ _ z => z)
theorem vs_stuck {sts : List Stmt} : VS X Γ Γx sts E (M.stuck : M τ) := fun W tk I0 H0 σ I H T mt D o => o.elim
theorem VS.chk {sts : List Stmt} {P : Prop} [Decidable P] {k : Unit → M τ} (h : P → VS X Γ Γx sts E (k ())) : VS X Γ Γx sts E (Vc.chk P >>= k) := fun W tk I0 H0 σ I H T mt D o => by
  obtain ⟨hp, o⟩ := o.chk
  exact h hp W tk I0 H0 σ I H T mt D o

/-- written ints -/
inductive CInts : List Expr → List Int → Prop
  | nil : CInts [] []
  | cons {i : Int} {j : Nat} {pos : Pos} {es : List Expr} {l : List Int} : CInts es l → CInts (.Constant (.int i) j pos :: es) (i :: l)
theorem va_ints {l : List Int} (h : CInts es l) : VA w X Γ es (fun _ : Unit => l.map D.int) (M.ok ()) := by
  induction h with
  | nil => exact fun W tk σ I H T mw Q o => to_a pa_nil (o [] I H (.refl mw.ih) .nil)
  | cons h ih =>
    intro W tk σ I H T mw Q o
    refine to_a (pa_cons pe_of pa_of) (VX.ap (w := w) ve_int tk mw (P := fun _ => True) (E := fun _ => False) trivial (fun x q _ v I1 H1 g1 r1 => ?_) fun _ z => z.elim)
    cases q
    refine ih W tk σ I1 H1 T (mw.gr g1) _ ?_
    intro vs I2 H2 g2 r2
    exact o (v :: vs) I2 H2 (g1.trans g2) (.cons (r1.mono (wsel_same g2)) r2)
def rdInts : List Expr → Option (List Int)
  | [] => some []
  | .Constant (.int i) _ _ :: es => match rdInts es with | some l => some (i :: l) | none => none
  | _ => none
theorem rdInts_ok : ∀ (es : List Expr) (l : List Int), rdInts es = some l → CInts es l := by
  intro es
  induction es with
  | nil => intro l h; cases h; exact .nil
  | cons e es ih =>
    intro l h
    unfold rdInts at h
    split at h
    · rename_i h1; cases h1
    · rename_i i j p es' h1
      cases h1
      split at h
      · rename_i l' h2
        cases h
        exact .cons (ih l' h2)
      · cases h
    · cases h
theorem ve_tupK {l : List Int} {k : Nat} (h0 : rdInts es = some l := by decide +kernel) (hz : Nat.ble l.length sizeLine = true := by decide +kernel) : VX w X Γ (.Tuple es k pos) (M.ok (⟨l⟩ : Tup Int)) := VX.le fun W tk σ I H T mw Q o => by
  have h := rdInts_ok _ _ h0
  refine to_t (pe_tup pa_of) (VA.ap (w := false) (va_ints h) tk mw (P := fun _ => True) (E := fun _ => False) trivial (fun x q _ vs I1 H1 g1 r1 => ⟨by rw [r1.length, List.length_map]; exact Nat.le_of_ble_eq_true hz, fun p hp => ?_⟩) fun _ z => z.elim)
  refine o _ _ _ (g1.trans (Gr.new g1.ih hp)) ?_
  exact .tup (.of upd_same) (r1.mono (Gr.new g1.ih hp).i0)

/-! ### walks -/
theorem vi_rangeK {tg : Expr} {n : Int} (hm : X.mg "range" = none) (h : VX true X Γ a (M.ok n)) (hn : rOk n) (hg : Gl X "range" := by rfl) (hs : starEach [a] X.env = [(false, eval a X.env)] := by rfl) : VI X Γ tg (.Call (.Name "range" p) [a] [] pos) (M.ok (rng 0 n)) := by
  have h2 := vi_range1 (tg := tg) (p := p) (pos := pos) hm h hg hs
  refine h2.congr ?_
  show (Vc.chk (rOk n) >>= fun _ => M.ok (rng 0 n)) = _
  rw [chk_ok hn]; rfl
/-- range(a, b, -1) -/
def rngD (a b : Int) : List Int := (List.range (a - b).toNat).map fun i : Nat => a - (i : Int)
theorem rngD_get {a b : Int} {i : Nat} {x : Int} (h : (rngD a b)[i]? = some x) : i < (a - b).toNat ∧ x = a - (i : Int) := by
  unfold rngD at h
  rw [List.getElem?_map] at h
  by_cases hi : i < (a - b).toNat
  · rw [List.getElem?_range hi] at h
    exact ⟨hi, (Option.some.inj h).symm⟩
  · rw [List.getElem?_eq_none (by rw [List.length_range]; omega)] at h
    cases h
theorem rngD_length (a b : Int) : (rngD a b).length = (a - b).toNat := by unfold rngD; rw [List.length_map, List.length_range]
theorem vi_rangeD {tg : Expr} {m1 m2 : M Int} (hm : X.mg "range" = none) (h : VX true X Γ a m1) (h2 : VX true X Γ b m2) (h3 : VX true X Γ c (M.ok (-1 : Int))) (hg : Gl X "range" := by rfl)
    (hs : starEach [a, b, c] X.env = (false, eval a X.env) :: starEach [b, c] X.env := by rfl) (hs2 : starEach [b, c] X.env = (false, eval b X.env) :: starEach [c] X.env := by rfl) (hs3 : starEach [c] X.env = (false, eval c X.env) :: starEach [] X.env := by rfl) (hpl : (backTo pos (starEach [b, c] X.env)).any (·.1) = false := by rfl) :
    VI X Γ tg (.Call (.Name "range" p) [a, b, c] [] pos) (m1 >>= fun x => m2 >>= fun y => Vc.chk (rOk x ∧ rOk y) >>= fun _ => M.ok (rngD x y)) := fun W tk σ I H T mw R o => by
  refine to_i (pi_range3 hg hm (pa_cons pe_of (pa_cons pe_of (pa_cons pe_of pa_nil hs3) hs2) hs) hs hpl) (h.ap tk mw o.bind (fun x _ o1 v I1 H1 g1 r1 => ?_) fun _ z => z)
  refine h2.ap tk (mw.gr g1) o1.bind (fun y _ o2 u I2 H2 g2 r2 => ?_) fun _ z => z.gr g1
  refine h3.ap tk ((mw.gr g1).gr g2) (P := fun _ => True) (E := fun _ => False) trivial (fun z q _ t I3 H3 g3 r3 => ?_) fun _ z => z.elim
  cases q
  cases r1; cases r2; cases r3
  obtain ⟨⟨⟨h1, h2⟩, h3, h4⟩, o3⟩ := o2.chk
  refine ⟨x, y, -1, (x - y).toNat, rfl, RgC.neg h1 h2 h3 h4, o3 _ I3 H3 ((g1.trans g2).trans g3) fun i I4 H4 s1 s2 => ⟨fun z hz => ?_, fun h => by rw [rngD_length] at h; exact h⟩⟩
  obtain ⟨hi, rfl⟩ := rngD_get hz
  refine ⟨hi, fun v H5 q => ?_⟩
  obtain ⟨rfl, rfl⟩ := q
  refine ⟨I4, .refl s2, ?_⟩
  rw [show x + (i : Int) * (-1) = x - (i : Int) by omega]
  exact .int _
def enumL {α : Type} (l : List α) : List (Int × α) := l.zipIdx.map fun p => ((p.2 : Int), p.1)
theorem enumL_get {l : List α} {i : Nat} {q : Int × α} (h : (enumL l)[i]? = some q) : l[i]? = some q.2 ∧ q.1 = (i : Int) := by
  unfold enumL at h
  rw [List.getElem?_map, List.getElem?_zipIdx] at h
  cases e : l[i]? with
  | none => rw [e] at h; cases h
  | some a =>
    rw [e] at h
    have h : (((0 + i : Nat) : Int), a) = q := Option.some.inj h
    subst h
    exact ⟨rfl, by simp⟩
theorem enumL_length (l : List α) : (enumL l).length = l.length := by unfold enumL; rw [List.length_map, List.length_zipIdx]
theorem vi_enum {elts : List Expr} {kk : Nat} {tpos : Pos} {m : M (List α)} (hm : X.mg "enumerate" = none) (h : VX false X Γ e m) (hg : Gl X "enumerate" := by rfl) (hs : starEach [e] X.env = [(false, eval e X.env)] := by rfl) : VI X Γ (.Tuple elts kk tpos) (.Call (.Name "enumerate" p) [e] [] pos) (m >>= fun l => M.ok (enumL l)) := fun W tk σ I H T mw R o => by
  refine to_i (pi_enum hg hm (pa_cons pe_of pa_nil hs) hs) (h.ap tk mw o.bind (fun l _ k v I1 H1 g1 r1 => ?_) fun _ z => z)
  obtain ⟨p, xs, rfl, hq, rs⟩ := Vc.R.lst_inv r1
  refine ⟨p, xs, rfl, g1.ih.seq hq, k _ I1 H1 g1 fun i I2 H2 s1 s2 => ⟨fun a ha => ?_, fun hi => ⟨xs, (s1.trans s2).seq hq, by rw [rs.length, List.length_map]; rw [enumL_length] at hi; exact hi⟩⟩⟩
  obtain ⟨h1, h2⟩ := enumL_get ha
  obtain ⟨v, e1, r2⟩ := (rs.mono s1).get (i := i) (x := enc a.2) (by rw [List.getElem?_map, h1]; rfl)
  refine ⟨⟨xs, v, (s1.trans s2).seq hq, e1⟩, fun x H3 y => ?_⟩
  obtain ⟨T2, z, rfl, hT, rfl, y⟩ := y
  rw [y xs ((s1.trans s2).seq hq)] at e1
  cases e1
  refine ⟨_, Gr.new s2 hT, ?_⟩
  refine .tup (.of upd_same) (.cons ?_ (.cons (r2.mono (Gr.new s2 hT).i0) .nil))
  rw [h2]
  exact .int _
theorem vi_zip {elts : List Expr} {kk : Nat} {tpos : Pos} {m1 : M (List α)} {m2 : M (List β)} (hm : X.mg "zip" = none) (h : VX false X Γ a m1) (h2 : VX false X Γ b m2) (hg : Gl X "zip" := by rfl) (hs : starEach [a, b] X.env = (false, eval a X.env) :: starEach [b] X.env := by rfl) (hs2 : starEach [b] X.env = (false, eval b X.env) :: starEach [] X.env := by rfl) (hpl : (backTo pos (starEach [b] X.env)).any (·.1) = false := by rfl) :
    VI X Γ (.Tuple elts kk tpos) (.Call (.Name "zip" p) [a, b] [] pos) (m1 >>= fun x => m2 >>= fun y => M.ok (x.zip y)) := fun W tk σ I H T mw R o => by
  refine to_i (pi_zip hg hm (pa_cons pe_of (pa_cons pe_of pa_nil hs2) hs) hs hpl) (h.ap tk mw o.bind (fun l _ o1 v I1 H1 g1 r1 => ?_) fun _ z => z)
  refine h2.ap tk (mw.gr g1) o1.bind (fun l2 _ k u I2 H2 g2 r2 => ?_) fun _ z => z.gr g1
  obtain ⟨p, xs, rfl, hq, rs⟩ := Vc.R.lst_inv (r1.mono g2.i0)
  obtain ⟨p2, ys, rfl, hq2, rs2⟩ := Vc.R.lst_inv r2
  refine ⟨p, p2, xs, ys, rfl, g2.ih.seq hq, g2.ih.seq hq2, k _ I2 H2 (g1.trans g2) fun i I3 H3 s1 s2 => ⟨fun a ha => ?_, fun hi => ⟨xs, ys, (s1.trans s2).seq hq, (s1.trans s2).seq hq2, by rw [rs.length, rs2.length, List.length_map, List.length_map]; rw [List.length_zip] at hi; omega⟩⟩⟩
  have ⟨h1, h3⟩ : l[i]? = some a.1 ∧ l2[i]? = some a.2 := by
    rw [List.getElem?_zip_eq_some] at ha
    exact ha
  obtain ⟨v, e1, r3⟩ := (rs.mono s1).get (i := i) (x := enc a.1) (by rw [List.getElem?_map, h1]; rfl)
  obtain ⟨v2, e2, r4⟩ := (rs2.mono s1).get (i := i) (x := enc a.2) (by rw [List.getElem?_map, h3]; rfl)
  refine ⟨⟨xs, ys, v, v2, (s1.trans s2).seq hq, (s1.trans s2).seq hq2, e1, e2⟩, fun x H4 y => ?_⟩
  obtain ⟨T2, z, z2, rfl, hT, rfl, y1, y2⟩ := y
  rw [y1 xs ((s1.trans s2).seq hq)] at e1
  rw [y2 ys ((s1.trans s2).seq hq2)] at e2
  cases e1; cases e2
  exact ⟨_, Gr.new s2 hT, .tup (.of upd_same) (.cons (r3.mono (Gr.new s2 hT).i0) (.cons (r4.mono (Gr.new s2 hT).i0) .nil))⟩
theorem vi_rev {tg : Expr} {m : M (List α)} (hm : X.mg "reversed" = none) (h : VX false X Γ e m) (hg : Gl X "reversed" := by rfl) (hs : starEach [e] X.env = [(false, eval e X.env)] := by rfl) : VI X Γ tg (.Call (.Name "reversed" p) [e] [] pos) (m >>= fun l => M.ok l.reverse) := fun W tk σ I H T mw R o => by
  refine to_i (pi_reversed hg hm (pa_cons pe_of pa_nil hs) hs) (h.ap tk mw o.bind (fun l _ k v I1 H1 g1 r1 => ?_) fun _ z => z)
  obtain ⟨p, xs, rfl, hq, rs⟩ := Vc.R.lst_inv r1
  have hl : xs.length = l.length := by rw [rs.length, List.length_map]
  refine ⟨p, xs, rfl, g1.ih.seq hq, k _ I1 H1 g1 fun i I2 H2 s1 s2 => ⟨fun a ha => ?_, fun hi => by rw [List.length_reverse] at hi; rw [← hl] at hi; exact hi⟩⟩
  have hi : i < l.length := by
    have := (List.getElem?_eq_some_iff.mp ha).1
    rwa [List.length_reverse] at this
  have ha' : l[l.length - 1 - i]? = some a := by rw [← List.getElem?_reverse hi]; exact ha
  obtain ⟨v, e1, r2⟩ := (rs.mono s1).get (i := l.length - 1 - i) (x := enc a) (by rw [List.getElem?_map, ha']; rfl)
  rw [← hl] at e1
  refine ⟨⟨by rw [hl]; exact hi, xs, v, (s1.trans s2).seq hq, e1⟩, fun x H3 y => ?_⟩
  obtain ⟨rfl, y⟩ := y
  rw [y xs ((s1.trans s2).seq hq)] at e1
  cases e1
  exact ⟨I2, .refl s2, r2⟩

theorem ve_lenP {k : Int} {m : M α} (hm : X.mg "len" = none) (h : VX true X Γ e m) (hk : ∀ x : α, ∃ ds, enc x = .tup ds ∧ (ds.length : Int) = k := by exact fun _ => ⟨_, rfl, rfl⟩) (hg : Gl X "len" := by rfl) (hs : starEach [e] X.env = (false, eval e X.env) :: starEach [] X.env := by rfl) : VX w X Γ (.Call (.Name "len" p) [e] [] pos) (m >>= fun _ => M.ok k) := by
  have q := ve_bcall (w := w) (f := fun a : α × Unit => M.ok k) (p := p) (pos := pos) call_len_seq hg hm boot_len (va_cons h va_nil hs) (fun a vs I H s rs Q o => by
    obtain ⟨v, rfl, r⟩ := rs.one
    obtain ⟨ds, e1, e2⟩ := hk a.1
    rw [e1] at r
    obtain ⟨p, xs, rfl, hq, rs⟩ := r.tup_inv
    refine ⟨p, xs, rfl, .inr hq, ?_⟩
    rw [rs.length, e2]
    exact o _ I H (.refl s) (.int _)) (fun _ _ z => nomatch z) (he := hs)
  refine q.congr ?_
  cases m <;> rfl

/-! ### more lists -/
theorem vo_rev {j : Nat} {p1 p2 p3 : Pos} {m : M (List α)} (h : VX false X Γ e m) : VO X Γ (.Subscript e (.Slice none none (some (.UnaryOp .USub (.Constant (.int 1) j p1) p2)) p3) pos) ow1 (m >>= fun l => M.ok l.reverse) := fun W tk σ I H T mw Q o => by
  refine to_t (pe_revL pe_of) (h.ap tk mw o.bind (fun l _ o1 v I1 H1 g1 r1 => ?_) fun _ z => z)
  obtain ⟨p, xs, rfl, hq, rs⟩ := r1.lst_inv
  refine ⟨p, xs, rfl, g1.ih.seq hq, fun q hq => o1 _ I1 _ [q] (by have := Wd.ow g1 (fun _ z => nomatch z) (Wd.new (o := .lst xs.reverse) g1.ih hq); simpa using this) (ow1_new ?_)⟩
  rw [List.map_reverse]
  exact rs.reverse
theorem vo_revB [Atm α] {j : Nat} {p1 p2 p3 : Pos} {m : M (List α)} (h : VX true X Γ e m) : VO X Γ (.Subscript e (.Slice none none (some (.UnaryOp .USub (.Constant (.int 1) j p1) p2)) p3) pos) ow1 (m >>= fun l => M.ok l.reverse) := fun W tk σ I H T mw Q o => by
  refine to_t (pe_revL pe_of) (h.ap tk mw o.bind (fun l _ o1 v I1 H1 g1 r1 => ?_) fun _ z => z)
  obtain ⟨p, xs, rfl, hq, rs⟩ := r1.lst_inv
  refine ⟨p, xs, rfl, hq, fun q hq => o1 _ I1 _ [q] (by have := Wd.ow g1 (fun _ z => nomatch z) (Wd.new (o := .lst xs.reverse) g1.ih hq); simpa using this) (ow1_new ?_)⟩
  have h2 := rs.reverse
  rw [← List.map_reverse] at h2
  exact h2.atoms
theorem ve_tuple {m : M (List α)} (hm : X.mg "tuple" = none) (h : VX false X Γ e m) (hg : Gl X "tuple" := by rfl) (hs : starEach [e] X.env = (false, eval e X.env) :: starEach [] X.env := by rfl) : VX w X Γ (.Call (.Name "tuple" p) [e] [] pos) (m >>= fun l => M.ok (⟨l⟩ : Tup α)) := VX.le fun W tk σ I H T mw Q o => by
  refine to_t (pe_callTy call_tuple_of hg hm (by decide +kernel) (pa_cons pe_of pa_nil hs) (by decide) (by decide) hs (by rfl)) ?_
  refine h.ap tk mw o.bind (fun l _ o1 v I1 H1 g1 r1 => ?_) fun _ z => z
  obtain ⟨p, xs, rfl, hq, rs⟩ := Vc.R.lst_inv r1
  refine ⟨p, xs, rfl, .inl ⟨g1.ih.seq hq, fun q hq => o1 _ _ _ (g1.trans (Gr.new g1.ih hq)) ?_⟩⟩
  exact .tup (.of upd_same) (Rs.mono (Gr.new g1.ih hq).i0 rs)
theorem ve_tupleB [Atm α] {m : M (List α)} (hm : X.mg "tuple" = none) (h : VX true X Γ e m) (hg : Gl X "tuple" := by rfl) (hs : starEach [e] X.env = (false, eval e X.env) :: starEach [] X.env := by rfl) : VX w X Γ (.Call (.Name "tuple" p) [e] [] pos) (m >>= fun l => M.ok (⟨l⟩ : Tup α)) := VX.le fun W tk σ I H T mw Q o => by
  refine to_t (pe_callTy call_tuple_of hg hm (by decide +kernel) (pa_cons pe_of pa_nil hs) (by decide) (by decide) hs (by rfl)) ?_
  refine h.ap tk mw o.bind (fun l _ o1 v I1 H1 g1 r1 => ?_) fun _ z => z
  obtain ⟨p, xs, rfl, hq, rs⟩ := Vc.R.lst_inv r1
  refine ⟨p, xs, rfl, .inl ⟨hq, fun q hq => o1 _ _ _ (g1.trans (Gr.new g1.ih hq)) ?_⟩⟩
  exact .tup (.of upd_same) rs.atoms
theorem vo_listT {m : M (Tup α)} (hm : X.mg "list" = none) (h : VX false X Γ e m) (hg : Gl X "list" := by rfl) (hs : starEach [e] X.env = (false, eval e X.env) :: starEach [] X.env := by rfl) : VO X Γ (.Call (.Name "list" p) [e] [] pos) ow1 (m >>= fun t => M.ok t.l) := by
  have q := vo_tcall (w := false) (ow := ow1) (f := fun a : Tup α × Unit => M.ok a.1.l) (p := p) (pos := pos) call_list_of hg hm (by decide +kernel) (va_cons h va_nil hs) (fun a vs I H s rs Q o => by
    obtain ⟨v, rfl, r⟩ := rs.one
    obtain ⟨p, xs, rfl, hq, rs⟩ := r.tup_inv
    exact ⟨p, xs, rfl, .inr (Same.seqT s hq), fun l hl => o _ I _ [l] (Wd.new s hl) (ow1_new rs)⟩) (fun _ _ z => nomatch z) (he := hs)
  have e : (m >>= fun x => M.ok () >>= fun y => M.ok (x, y)) >>= (fun a : Tup α × Unit => M.ok a.1.l) = (m >>= fun t => M.ok t.l) := by cases m <;> rfl
  rw [← e]
  exact q
theorem ve_sum {m : M (List Int)} (hc : X.calm = true) (hm : X.mg "sum" = none) (h : VX true X Γ e m) (hg : Gl X "sum" := by rfl) (hs : starEach [e] X.env = (false, eval e X.env) :: starEach [] X.env := by rfl) : VX w X Γ (.Call (.Name "sum" p) [e] [] pos) (m >>= fun l => M.ok l.sum) := by
  have q := ve_bcall (w := w) (f := fun a : List Int × Unit => M.ok a.1.sum) (p := p) (pos := pos) (cr_sum hc) hg hm (by decide +kernel) (va_cons h va_nil hs) (fun a vs I H s rs Q o => by
    obtain ⟨v, rfl, r⟩ := rs.one
    obtain ⟨p, xs, rfl, hq, rs⟩ := r.lst_inv
    have e := rs.ints
    subst e
    exact ⟨p, a.1, rfl, hq, o _ I H (.refl s) (.int _)⟩) (fun _ _ z => nomatch z) (he := hs)
  refine q.congr ?_
  cases m <;> rfl
theorem ve_all {m : M (List Bool)} (hc : X.calm = true) (hm : X.mg "all" = none) (h : VX true X Γ e m) (hg : Gl X "all" := by rfl) (hs : starEach [e] X.env = (false, eval e X.env) :: starEach [] X.env := by rfl) : VX w X Γ (.Call (.Name "all" p) [e] [] pos) (m >>= fun l => M.ok (l.all id)) := by
  have q := ve_bcall (w := w) (f := fun a : List Bool × Unit => M.ok (a.1.all id)) (p := p) (pos := pos) (cr_all hc) hg hm (by decide +kernel) (va_cons h va_nil hs) (fun a vs I H s rs Q o => by
    obtain ⟨v, rfl, r⟩ := rs.one
    obtain ⟨p, xs, rfl, hq, rs⟩ := r.lst_inv
    have e := rs.bools
    subst e
    exact ⟨p, a.1, rfl, hq, o _ I H (.refl s) (.bl _)⟩) (fun _ _ z => nomatch z) (he := hs)
  refine q.congr ?_
  cases m <;> rfl
theorem ve_any {m : M (List Bool)} (hc : X.calm = true) (hm : X.mg "any" = none) (h : VX true X Γ e m) (hg : Gl X "any" := by rfl) (hs : starEach [e] X.env = (false, eval e X.env) :: starEach [] X.env := by rfl) : VX w X Γ (.Call (.Name "any" p) [e] [] pos) (m >>= fun l => M.ok (l.any id)) := by
  have q := ve_bcall (w := w) (f := fun a : List Bool × Unit => M.ok (a.1.any id)) (p := p) (pos := pos) (cr_any hc) hg hm (by decide +kernel) (va_cons h va_nil hs) (fun a vs I H s rs Q o => by
    obtain ⟨v, rfl, r⟩ := rs.one
    obtain ⟨p, xs, rfl, hq, rs⟩ := r.lst_inv
    have e := rs.bools
    subst e
    exact ⟨p, a.1, rfl, hq, o _ I H (.refl s) (.bl _)⟩) (fun _ _ z => nomatch z) (he := hs)
  refine q.congr ?_
  cases m <;> rfl
/-- list(range(..)): over the range as a value -/
theorem rgV_eq (a b : Int) : rgV a b = (rng a b).map V.int := by unfold rgV rng; rw [List.map_map]; rfl
def VR (X : Cx) (Γ : List SL) (e : Expr) (m : M (Int × Int)) : Prop :=
  ∀ (W : WX), L2N.Takes X W → ∀ σ I H T, Mw X.K X.mg Γ σ I H T → ∀ Q : Int → Int → Hp → Prop,
    Out m (fun a => ∀ I' H', Gr I H I' H' → Q a.1 a.2 H') (XO X W σ I H) → ∃ t, PRg X e t ∧ t σ H Q
theorem vr_1 {m : M Int} (hm : X.mg "range" = none) (h : VX true X Γ a m) (hg : Gl X "range" := by rfl) (na : starEach [a] X.env = (false, eval a X.env) :: starEach [] X.env := by rfl) : VR X Γ (.Call (.Name "range" p) [a] [] pos) (m >>= fun n => M.ok ((0 : Int), n)) := fun W tk σ I H T mw Q o =>
  ⟨_, prg_1 hg hm pe_of na, h.ap tk mw o.bind (fun n _ o1 v I1 H1 g1 r1 => by cases r1; exact ⟨n, rfl, o1 I1 H1 g1⟩) fun _ z => z⟩
theorem vr_2 {m1 m2 : M Int} (hm : X.mg "range" = none) (h : VX true X Γ a m1) (h2 : VX true X Γ b m2) (hg : Gl X "range" := by rfl) (na : starEach [a, b] X.env = (false, eval a X.env) :: starEach [b] X.env := by rfl) (nb : starEach [b] X.env = (false, eval b X.env) :: starEach [] X.env := by rfl) (hpl : (backTo pos (starEach [b] X.env)).any (·.1) = false := by rfl) : VR X Γ (.Call (.Name "range" p) [a, b] [] pos) (m1 >>= fun x => m2 >>= fun y => M.ok (x, y)) := fun W tk σ I H T mw Q o =>
  ⟨_, prg_2 hg hm pe_of pe_of na nb hpl, h.ap tk mw o.bind (fun x _ o1 v I1 H1 g1 r1 => h2.ap tk (mw.gr g1) o1.bind (fun y _ o2 u I2 H2 g2 r2 => by cases r1; cases r2; exact ⟨x, y, rfl, rfl, o2 I2 H2 (g1.trans g2)⟩) fun _ z => z.gr g1) fun _ z => z⟩
instance (a b : Int) : Decidable (RgOk a b) := by unfold RgOk; infer_instance
def rOf (X : Cx) (e : Expr) : L2.St → Hp → (Int → Int → Hp → Prop) → Prop := fun σ H Q => ∃ t, PRg X e t ∧ t σ H Q
theorem prg_of : PRg X e (rOf X e) := fun pins s σ H Q I h => by
  obtain ⟨t, p, q⟩ := h
  exact p pins s σ H Q I q
theorem vo_listR {m : M (Int × Int)} (hc : X.calm = true) (hm : X.mg "list" = none) (h : VR X Γ e m) (hg : Gl X "list" := by rfl) (na : starEach [e] X.env = (false, eval e X.env) :: starEach [] X.env := by rfl) : VO X Γ (.Call (.Name "list" p) [e] [] pos) ow1 (m >>= fun r => Vc.chk (RgOk r.1 r.2) >>= fun _ => M.ok (rng r.1 r.2)) := fun W tk σ I H T mw Q o => by
  refine to_t (pe_listRg hc hg hm prg_of na) (h W tk σ I H T mw _ (o.bind.mono (fun r _ o1 I1 H1 g1 => ?_) fun _ _ z => z))
  obtain ⟨hr, o2⟩ := o1.chk
  refine ⟨hr, fun q hq => o2 _ I1 _ [q] (by have := Wd.ow g1 (fun _ z => nomatch z) (Wd.new (o := .lst (rgV r.1 r.2)) g1.ih hq); simpa using this) ?_⟩
  have : rgV r.1 r.2 = (rng r.1 r.2).map V.int := rgV_eq _ _
  rw [this]
  exact ow1_new Rs.of_ints
end

/-! ### the errors of the text -/
/-- the class n, named in an except clause -/
structure EEx (K : PySem.W.Frag) (mg : Str → Option Value) (tb : ETab) (n : Str) : Prop where
  ex : ∃ C, mg n = some (.ref C) ∧ EOk K mg tb n (.ref C)
structure IEx (K : PySem.W.Frag) (mg : Str → Option Value) (tb : ETab) (n : Str) : Prop where
  ex : ∃ C, mg n = some (.ref C) ∧ IOk K mg tb n (.ref C)
section
variable {X : Cx} {Γ Γx : List SL} {e a b c : Expr} {es : List Expr} {rest : List Stmt} {pos p : Pos} {α β γ : Type} [Enc α] [Enc β] [Enc γ] {w w' : Bool} {τ : Type} {E : Eds τ} {x : Str}
theorem vs_tryT {S : Type} (F : S → List SL) (i : Nat) (tb : ETab) {xc n : Str} {body suite : List Stmt} {b₀ : Stmt} {np pos' : Pos} {mb : M (Jn S τ)} {mh : Exn → M (Jn S τ)} {kk : S → M τ} (Γt : List SL) (hX : X.stack = X.env :: X.outer) (hf : X.env.frame = some X.env.locals) (hN : X.N.Nodup) (hE : EEx X.K X.mg tb xc)
    (hb : ∀ (pn : List (Addr × Obj)) (xe : Value → Shared → Prop), PassesOwn (model X.prog X.w) X.A X.env xe → VS (X.tr pn xe) Γ Γt body (eJn F E) mb)
    (hsu : ∀ ex, ex.fs = [] → ∀ (a : Addr) (oe : Obj) (cls : Value) (pn : List (Addr × Obj)), L2N.Zn cls none oe → (∃ vs, oe.data = .fields vs) → X.mg ex.nm = some cls → VS (X.suite a ((a, oe) :: pn)) (Γt.set i (.val (.imm (.adr a)))) (anys Γt.length) (b₀ :: suite) (eSu i (eJn F E)) (mh ex))
    (hk : ∀ s, VS X (F s) Γx rest E (kk s)) (hs : Sub Γt Γx) (hg : Gl X xc := by rfl) (hdb : (xc == ("__debug__" : Str)) = false := by decide) (hi : X.N[i]? = some n := by rfl) (hl : Nat.blt i Γt.length = true := by rfl) (hln : X.env.kindOf n = some .local := by rfl) :
    VS X Γ Γx (.Try body [.ExceptHandler (some (.Name xc np)) (some n) (b₀ :: suite) pos'] [] [] pos :: rest) E (tryM tb xc mb (fun ex => nox (Vc.chk (ex.fs.isEmpty = true) >>= fun _ => mh ex)) >>= fun j => j.on kk) := by
  obtain ⟨C, h1, h2⟩ := hE.ex
  refine vs_try (mh := fun ex => Vc.chk (ex.fs.isEmpty = true) >>= fun _ => mh ex) F i tb Γt hX hf hN ⟨hg, hdb, .inl h1⟩ h2 hb (fun ex a oe cls d pn hz hfl hm h0 _ => VS.chk fun hfs => ?_) hk hs hi hl hln
  have hfs' : ex.fs = [] := by simpa using hfs
  have hd := h0 hfs'
  subst hd
  exact hsu ex hfs' a oe cls pn hz hfl hm
theorem ve_isEo (i : Nat) {tb : ETab} {xe n : Str} {a : Addr} {oe : Obj} {cls : Value} {pn : List (Addr × Obj)} {ex : Exn} {px pt : Pos} (hz : L2N.Zn cls none oe) (hfl : ∃ vs, oe.data = .fields vs) (hm : X.mg ex.nm = some cls) (hI : IEx X.K X.mg tb n) (hmi : X.mg "isinstance" = none)
    (hΓ : Γ[i]? = some (.val (.imm (.adr a))) := by rfl) (hN : X.N[i]? = some xe := by rfl) (hv : Vis X.env.scope xe := by first | exact Or.inl rfl | exact Or.inr (Or.inl rfl) | exact Or.inr (Or.inr rfl)) (hg : Gl X "isinstance" := by rfl) (hgn : Gl X n := by rfl)
    (hd : (xe == ("__debug__" : Str)) = false := by decide) (hdn : (n == ("__debug__" : Str)) = false := by decide) (hcd : (xe == ("__classdict__" : Str)) = false := by decide) (hst : starEach [.Name xe px, .Name n pt] X.env = (false, eval (.Name xe px) X.env) :: starEach [.Name n pt] X.env := by rfl) (hst2 : starEach [.Name n pt] X.env = (false, eval (.Name n pt) X.env) :: starEach [] X.env := by rfl) (hpl : (backTo pos (starEach [.Name n pt] X.env)).any (·.1) = false := by rfl) :
    VX w (X.suite a ((a, oe) :: pn)) Γ (.Call (.Name "isinstance" p) [.Name xe px, .Name n pt] [] pos) (isE tb ex n) := by
  obtain ⟨C, h1, h2⟩ := hI.ex
  exact ve_isE (c := .ref C) i tb hz hfl hm h2 (fun u r => r) (pe_glob (X := X.suite a ((a, oe) :: pn)) hgn h1 rfl hdn) hΓ hN hv hmi hg hd hcd hst hst2 hpl
theorem ve_isEb (i : Nat) {tb : ETab} {xe n : Str} {t : String} {a : Addr} {oe : Obj} {cls : Value} {pn : List (Addr × Obj)} {ex : Exn} {px pt : Pos} (hz : L2N.Zn cls none oe) (hfl : ∃ vs, oe.data = .fields vs) (hm : X.mg ex.nm = some cls) (hI : IOk X.K X.mg tb n (.type t)) (hmn : X.mg n = none) (hmi : X.mg "isinstance" = none) (hvn : bootBuiltins n = some (.type t) := by decide +kernel)
    (hΓ : Γ[i]? = some (.val (.imm (.adr a))) := by rfl) (hN : X.N[i]? = some xe := by rfl) (hv : Vis X.env.scope xe := by first | exact Or.inl rfl | exact Or.inr (Or.inl rfl) | exact Or.inr (Or.inr rfl)) (hg : Gl X "isinstance" := by rfl) (hgn : Gl X n := by rfl)
    (hnn : n ≠ "__name__" := by decide) (hd : (xe == ("__debug__" : Str)) = false := by decide) (hdn : (n == ("__debug__" : Str)) = false := by decide) (hcd : (xe == ("__classdict__" : Str)) = false := by decide) (hst : starEach [.Name xe px, .Name n pt] X.env = (false, eval (.Name xe px) X.env) :: starEach [.Name n pt] X.env := by rfl) (hst2 : starEach [.Name n pt] X.env = (false, eval (.Name n pt) X.env) :: starEach [] X.env := by rfl) (hpl : (backTo pos (starEach [.Name n pt] X.env)).any (·.1) = false := by rfl) :
    VX w (X.suite a ((a, oe) :: pn)) Γ (.Call (.Name "isinstance" p) [.Name xe px, .Name n pt] [] pos) (isE tb ex n) :=
  ve_isE (c := .ty t) i tb hz hfl hm hI (fun u r => r) (pe_bltn (X := X.suite a ((a, oe) :: pn)) hgn hmn hvn rfl hnn hdn) hΓ hN hv hmi hg hd hcd hst hst2 hpl
end
/-! facts, from the written part -/
theorem exm_in {K : PySem.W.Frag} {C S : Addr} {b : Bool} (h1 : PySem.W.subIn K (.ref C) (.type "BaseException") = some true) (h2 : PySem.W.hasDictIn K C = true) (h3 : PySem.W.typeIn K (.ref C) = some (.type "type")) (h4 : PySem.W.subIn K (.ref S) (.ref C) = some b) : PySem.W.exmOne K (.ref S) (.ref C) = some b := PySem.W.exm_ref h1 h2 h3 h4
theorem lookup_mem {β : Type} : ∀ {l : List (Str × β)} {m : Str} {up : β}, l.lookup m = some up → (m, up) ∈ l
  | [], _, _, h => by cases h
  | (n, v) :: l, m, up, h => by
    rw [List.lookup_cons] at h
    cases q : m == n with
    | true =>
      rw [q] at h
      cases h
      have e : m = n := by simpa using q
      subst e
      exact List.mem_cons_self
    | false => rw [q] at h; exact List.mem_cons_of_mem _ (lookup_mem h)
end Vc

set_option Elab.async false
set_option linter.all false
set_option maxRecDepth 100000
namespace Vc
open PySem PySem.Spec PyProof.Rows L2
open Enc (enc)

structure iOfH (X : Cx) (tg e : Expr) (σ : L2.St) (H : Hp) (R : It → Hp → Prop) : Prop where
  run : ∀ pins s, Inv X pins σ H s → wpAny (model X.prog X.w) X.A (eval e X.env) (fun v s1 => wpAny (model X.prog X.w) X.A (pyIter v) (L2H.PIEH X pins σ tg R) X.xe s1) X.xe s
theorem pi_ofH {X : Cx} {tg e : Expr} : L2H.PIH X tg e (iOfH X tg e) := ⟨fun pins s σ H R I h => h.run pins s I⟩
theorem to_iH {X : Cx} {tg e : Expr} {t : TI} {σ : L2.St} {H : Hp} {R : It → Hp → Prop} (p : L2H.PIH X tg e t) (h : t σ H R) : iOfH X tg e σ H R := ⟨fun pins s I => p.run pins s σ H R I h⟩
section
variable {X : Cx} {Γ Γx : List SL} {e a b c : Expr} {es : List Expr} {rest : List Stmt} {pos p : Pos} {α β γ : Type} [Enc α] [Enc β] [Enc γ] {w w' : Bool} {τ : Type} {E : Eds τ}
def VIH (X : Cx) (Γ : List SL) (tg e : Expr) {α : Type} [Enc α] (m : M (List α)) : Prop :=
  ∀ (W : WX), L2N.Takes X W → ∀ σ I H T, Mw X.K X.mg Γ σ I H T → ∀ R : It → Hp → Prop,
    Out m (fun l => ∀ J I' H', Gr I H I' H' → Yl X.K X.mg J I' H' l → R J H') (XO X W σ I H) → iOfH X tg e σ H R
theorem VIH.ap {tg : Expr} {m : M (List α)} (h : VIH X Γ tg e m) {W : WX} (tk : L2N.Takes X W) {σ : L2.St} {I H : Hp} {T : List Addr} (mw : Mw X.K X.mg Γ σ I H T) {R : It → Hp → Prop} {P : List α → Prop} {E : Exn → Prop} (o : Out m P E)
    (hP : ∀ a, m = .ok a → P a → ∀ J I' H', Gr I H I' H' → Yl X.K X.mg J I' H' a → R J H') (hE : ∀ ex, E ex → XO X W σ I H ex) : iOfH X tg e σ H R := h W tk σ I H T mw R (o.mono hP fun ex _ k => hE ex k)
theorem VIH.congr {tg : Expr} {m m' : M (List α)} (h : VIH X Γ tg e m) (q : m = m') : VIH X Γ tg e m' := q ▸ h
theorem vih_range1 {tg : Expr} {m : M Int} (hm : X.mg "range" = none) (h : VX true X Γ a m) (hg : Gl X "range" := by rfl) (hs : starEach [a] X.env = [(false, eval a X.env)] := by rfl) : VIH X Γ tg (.Call (.Name "range" p) [a] [] pos) (m >>= fun n => chk (rOk n) >>= fun _ => M.ok (rng 0 n)) := fun W tk σ I H T mw R o => by
  refine to_iH (L2H.pi_range1H hg hm (pa_cons pe_of pa_nil hs) hs) (h.ap tk mw o.bind (fun n _ o1 v I1 H1 g1 r1 => ?_) fun _ z => z)
  cases r1
  obtain ⟨⟨h1, h2⟩, o2⟩ := o1.chk
  refine ⟨n, rfl, h1, h2, o2 _ I1 H1 g1 ?_⟩
  have := yl_rng (K := X.K) (mg := X.mg) (I := I1) (H := H1) (a := 0) (b := n)
  rw [Int.sub_zero] at this
  exact this
/-- the core of a for: a loop function whose turn is f, given by its unfolding -/
theorem for_coreH {S R : Type} {n : Nat} (F : S → List SL) (s0 : S) {tg : Expr} {vs : List Nat} {u : α → List SL → List SL} {m : M (List α)} {body : List Stmt} {EB : Eds R} {b : S → α → M R} {lp : List α → S → M τ} (hp : PassesOwn (model X.prog X.w) X.A X.env X.xe) (hc : L2H.HotC X) (hi : VIH X Γ tg e m) (hg : VG X n tg vs u)
    (hb : ∀ s a, VS X (u a (F s)) Γx body EB (b s a))
    (hk : ∀ s, VS X (F s) Γx rest E (lp [] s)) (fin : R → List α → M τ) (hlp : ∀ s a l, lp (a :: l) s = b s a >>= fun r => fin r l)
    (hnx : ∀ r l Γ', EB.nx Γ' r → ∃ s, Sub Γ' (F s) ∧ fin r l = lp l s) (hct : ∀ r l Γ', EB.ct Γ' r → ∃ s, Sub Γ' (F s) ∧ fin r l = lp l s)
    (hbk : ∀ r l Γ', EB.bk Γ' r → ∃ s, Sub Γ' (F s) ∧ fin r l = lp [] s) (hrt : ∀ r l o, EB.rt o r → ∃ t, fin r l = .ok t ∧ E.rt o t)
    (h0 : Sub Γ (F s0)) (hs : Sub Γ Γx) (hn : ∀ s, (F s).length = n) (hf : ∀ x, foldedSetIterable e X.env x = pure x) :
    VS X Γ Γx (.For tg e body [] pos :: rest) E (m >>= fun l => lp l s0) := fun W tk I0 H0 σ I H T mt D o => by
  refine seq_s (to_s1 (L2H.ps_forH hp hc pi_ofH pg_of pss_of hf) ?_)
  refine hi.ap tk mt.mw o.bind (fun l _ o1 J I1 H1 g1 yl => ?_) fun _ z => z.xo mt hs
  obtain ⟨T1, mt1⟩ := (mt.gr g1).sub h0
  refine ⟨fun i m σ' H' => m = l.length - i ∧ i ≤ l.length ∧ ∃ s I' T', Mt X.K X.mg I0 H0 (F s) σ' I' H' T' ∧ Same I1 I' ∧ Out (lp (l.drop i) s) (DO X I0 H0 E D) (XS X W I0 H0 Γx), ⟨l.length, rfl, Nat.zero_le _, s0, I1, T1, mt1, .refl _, o1⟩, ?_⟩
  rintro i _ σ' H' ⟨rfl, hi, s, I', T', mt', s1, o'⟩
  obtain ⟨go, stop⟩ := yl i I' H' s1 mt'.wd.ih
  by_cases hlt : i < l.length
  · obtain ⟨g2, y2⟩ := go l[i] (List.getElem?_eq_getElem hlt)
    rw [List.drop_eq_getElem_cons hlt, hlp] at o'
    refine .inr ⟨g2, fun σ2 H2 => ∃ s I' T', Mt X.K X.mg I0 H0 (F s) σ2 I' H2 T' ∧ Same I1 I' ∧ Out (lp (l.drop (i + 1)) s) (DO X I0 H0 E D) (XS X W I0 H0 Γx), fun σ2 H2 h => ⟨l.length - (i + 1), by omega, rfl, hlt, h⟩, fun x H2 y => ?_⟩
    obtain ⟨I2, g3, r3⟩ := y2 x H2 y
    have mt2 := mt'.gr g3
    refine hg (F s) (hn s) x l[i] σ' I2 H2 T' mt2.mw r3 _ fun σ3 T3 _ _ s3 c3 d3 => ?_
    have mt4 : Mt X.K X.mg I0 H0 (u l[i] (F s)) σ3 I2 H2 T3 := ⟨⟨mt2.wd.ih, mt2.wd.i0, mt2.wd.h0, fun p hp => mt2.wd.fr p (c3 p hp), d3, mt2.wd.sep⟩, s3⟩
    have w0 := mt4.wd
    refine hb s l[i] W tk I2 H0 σ3 I2 H2 T3 mt4.root _ (o'.bind.mono (fun r _ o2 => ?_) fun ex _ z => z.re w0)
    refine ⟨fun Γ' σ4 I4 H4 T4 z mt5 => ?_, fun Γ' σ4 I4 H4 T4 z mt5 => ?_, fun Γ' σ4 I4 H4 T4 z mt5 => ?_, fun ow v I4 H4 T4 z wd5 q => ?_⟩
    · obtain ⟨s', hsub, e⟩ := hnx r (l.drop (i + 1)) Γ' z
      rw [e] at o2
      obtain ⟨T5, mt6⟩ := (Mt.re w0 mt5).sub hsub
      exact ⟨s', I4, T5, mt6, (s1.trans g3.i0).trans mt5.wd.i0, o2⟩
    · obtain ⟨s', hsub, e⟩ := hbk r (l.drop (i + 1)) Γ' z
      rw [e] at o2
      obtain ⟨T5, mt6⟩ := (Mt.re w0 mt5).sub hsub
      exact rest_s (hk s') tk mt6 o2
    · obtain ⟨s', hsub, e⟩ := hct r (l.drop (i + 1)) Γ' z
      rw [e] at o2
      obtain ⟨T5, mt6⟩ := (Mt.re w0 mt5).sub hsub
      exact ⟨s', I4, T5, mt6, (s1.trans g3.i0).trans mt5.wd.i0, o2⟩
    · obtain ⟨t, e, ht⟩ := hrt r (l.drop (i + 1)) ow z
      rw [e] at o2
      exact DO.rt (E := E) o2 ow v I4 H4 T4 ht (w0.re wd5) q
  · have e : i = l.length := by omega
    subst e
    rw [List.drop_length] at o'
    exact .inl ⟨stop (Nat.le_refl _), rest_s (hk s) tk mt' o'⟩
/-- a for with break, return -/
theorem vs_forH {S : Type} {n : Nat} (F : S → List SL) (s0 : S) {tg : Expr} {vs : List Nat} {u : α → List SL → List SL} {m : M (List α)} {body : List Stmt} {b : S → α → M (Stp S τ)} {k : S → M τ} (hp : PassesOwn (model X.prog X.w) X.A X.env X.xe) (hc : L2H.HotC X) (hi : VIH X Γ tg e m) (hg : VG X n tg vs u)
    (hb : ∀ s a, VS X (u a (F s)) Γx body (eSt F E) (b s a)) (hk : ∀ s, VS X (F s) Γx rest E (k s)) (h0 : Sub Γ (F s0)) (hs : Sub Γ Γx) (hn : ∀ s, (F s).length = n := by exact fun _ => rfl) (hf : ∀ x, foldedSetIterable e X.env x = pure x := by intro _; rfl) :
    VS X Γ Γx (.For tg e body [] pos :: rest) E (m >>= fun l => loopM b l s0 >>= fun r => r.on k) :=
  for_coreH (lp := fun l s => loopM b l s >>= fun r => r.on k) F s0 hp hc hi hg hb hk (fun r l => match r with | .nx s => loopM b l s >>= fun r => r.on k | .bk s => k s | .rt t => .ok t)
    (fun s a l => by
      rw [loopM_cons, M.bind_assoc]
      congr 1
      funext r
      cases r <;> rfl)
    (fun r l Γ' ⟨s, e, h⟩ => ⟨s, h, by rw [e]⟩) (fun r l Γ' ⟨s, e, h⟩ => ⟨s, h, by rw [e]⟩) (fun r l Γ' ⟨s, e, h⟩ => ⟨s, h, by rw [e]; rfl⟩) (fun r l o ⟨t, e, h⟩ => ⟨t, by rw [e], h⟩) h0 hs hn hf
/-- a for that is never left -/
theorem vs_forSH {S : Type} {n : Nat} (F : S → List SL) (s0 : S) {tg : Expr} {vs : List Nat} {u : α → List SL → List SL} {m : M (List α)} {body : List Stmt} {b : S → α → M S} {k : S → M τ} (hp : PassesOwn (model X.prog X.w) X.A X.env X.xe) (hc : L2H.HotC X) (hi : VIH X Γ tg e m) (hg : VG X n tg vs u)
    (hb : ∀ s a, VS X (u a (F s)) Γx body (eLp F) (b s a)) (hk : ∀ s, VS X (F s) Γx rest E (k s)) (h0 : Sub Γ (F s0)) (hs : Sub Γ Γx) (hn : ∀ s, (F s).length = n := by exact fun _ => rfl) (hf : ∀ x, foldedSetIterable e X.env x = pure x := by intro _; rfl) :
    VS X Γ Γx (.For tg e body [] pos :: rest) E (m >>= fun l => loopS b l s0 >>= k) :=
  for_coreH (lp := fun l s => loopS b l s >>= k) F s0 hp hc hi hg hb hk (fun r l => loopS b l r >>= k)
    (fun s a l => by rw [loopS_cons, M.bind_assoc])
    (fun r l Γ' h => ⟨r, h, rfl⟩) (fun r l Γ' h => ⟨r, h, rfl⟩) (fun r l Γ' h => h.elim) (fun r l o h => h.elim) h0 hs hn hf

end

/-! ### a def called while an error is handled -/
section
variable {P : Program} {w : World} {K : PySem.W.Frag} {mg : Str → Option Value} {base : Heap}
theorem fn_okH {x qual : Str} {st : Stmt} {f : Addr} {fd : FuncData} {N ps : List Str} {k : Nat} {A ρ : Type} {ea : A → List D} {eo : ρ → O} {m : A → M ρ} (F : Fun K x qual st f fd) (S : FnScope N ps (defScope st)) (hl : ∀ a, (ea a).length = ps.length)
    (body : ∀ (cdv : Value) (Ar : Around) (outer : List Env) (s : Shared) (H : Hp) (E : XK) (p : Addr × Obj), L2H.RoomH k (Ar.deeper (envOfC qual (defScope st) s.heap.objs.size f cdv)) →
      ∀ X, X = L2H.cxH (L2N.CX P w) P w K mg base N qual (defScope st) f cdv Ar outer s H E p → L2H.HotC X → ∀ a, VS X (ent N (ea a)) (anys N.length) (defBody st) (eFn eo) (m a)) :
    L2H.FnH P w K mg base (L2N.CX P w) (k + 1) f fd ps (spF K mg ea eo m) := by
  obtain ⟨oc, od, kV, doc, pm, an, cdv, ct, osl, rfl, lk, hcd⟩ := F.ex
  refine L2H.fn_ofH lk hcd S (fun vs H Q E h => ?_) (fun Ar outer s H vs Q E p hp hr h => ?_)
  · obtain ⟨I, x, _, r, _⟩ := h
    rw [r.length, hl]
  · obtain ⟨I, x, hs, r, o⟩ := h
    refine ⟨_, pss_of, ?_⟩
    refine body cdv Ar outer s H E p hr _ rfl ⟨p, hp, List.mem_singleton.mpr rfl⟩ x (fun cls d _ H' => E cls d H') (L2N.takes_of rfl rfl rfl rfl) I H _ I H [] (Mt.start hs r) _ ?_
    refine o.mono (fun r _ k => ?_) fun ex _ k cl d σ' I' H' T' mt a => ?_
    · exact ⟨fun Γ' σ' I' H' T' z mt => k .non I' H' [] (mt.wd.subl (List.nil_sublist _)) (by rw [show eo r = .imm .non from z]; exact .imm .non), fun _ _ _ _ _ z => z.elim, fun _ _ _ _ _ z => z.elim, fun o v I' H' T' z wd q => k v I' H' T' wd (by rw [← show o = eo r from z]; exact q)⟩
    · exact k cl d I' H' (mt.wd.subl (List.nil_sublist _)) a
end
theorem hotc_suite {X : Cx} {a : Addr} {oe : Obj} {cls : Value} {d : Option Addr} {pn : List (Addr × Obj)} (hz : L2N.Zn cls d oe) (hf : ∃ vs, oe.data = .fields vs) : L2H.HotC (X.suite a ((a, oe) :: pn)) := by
  obtain ⟨vs, h⟩ := hf
  exact ⟨(a, oe), ⟨rfl, vs, h, hz.2.2 vs h⟩, List.mem_cons_self⟩
theorem roomh_suite {X : Cx} {k : Nat} {a : Addr} {pn : List (Addr × Obj)} (r : Room k X.A) : L2H.RoomH k (X.suite a pn).A := ⟨r.dp, r.un⟩
section
variable {X : Cx} {Γ Γx : List SL} {e a b c : Expr} {es : List Expr} {rest : List Stmt} {pos p : Pos} {α β γ : Type} [Enc α] [Enc β] [Enc γ] {w w' : Bool} {τ : Type} {E : Eds τ}
  {k : Nat} {f : Addr} {fd : FuncData} {ps : List Str} {x : Str} {A ρ : Type} {ea : A → List D} {m : A → M ρ} {ma : M A}
/-- f(e, ..): the result is new or plain -/
theorem vo_callH {eo : ρ → O} (F : L2H.FnH X.prog X.w X.K X.mg X.base (L2N.CX X.prog X.w) k f fd ps (spF X.K X.mg ea eo m)) (hr : L2H.RoomH k X.A) (hc : L2H.HotC X) (hm : X.mg x = some (.ref f)) (hk : PySem.W.keepIn X.K (.ref f) = true) (hb : Binds X.K fd ps []) (h : VA false X Γ (e :: es) ea ma) (hg : Gl X x := by rfl)
    (hdb : (x == ("__debug__" : Str)) = false := by decide) (he : starEach (e :: es) X.env = (false, eval e X.env) :: starEach es X.env := by rfl) (hpl : (backTo pos (starEach es X.env)).any (·.1) = false := by rfl) : VO X Γ (.Call (.Name x p) (e :: es) [] pos) eo (ma >>= m) := fun W tk σ I H T mw Q o => by
  refine to_t (L2H.pe_callH (E := WE W) F hr hc hg hm hk hb (fun σ => L2N.passAt tk σ) pa_of hdb he hpl) (h.ap tk mw o.bind (fun a _ o1 vs I1 H1 g1 r1 => ?_) fun _ z => z)
  refine ⟨I1, a, g1.ih, r1, o1.mono (fun r _ k v I' H' T' wd q => k v I' H' T' (by have := Wd.ow g1 (fun _ z => nomatch z) wd; simpa using this) q) fun ex _ k cl d I' H' g at' => k cl d I' H' (g1.trans g) at'⟩
theorem ve_callH [Enc ρ] (F : L2H.FnH X.prog X.w X.K X.mg X.base (L2N.CX X.prog X.w) k f fd ps (spF X.K X.mg ea (fun r : ρ => .imm (enc r)) m)) (hr : L2H.RoomH k X.A) (hc : L2H.HotC X) (hm : X.mg x = some (.ref f)) (hk : PySem.W.keepIn X.K (.ref f) = true) (hb : Binds X.K fd ps []) (h : VA false X Γ (e :: es) ea ma) (hg : Gl X x := by rfl)
    (hdb : (x == ("__debug__" : Str)) = false := by decide) (he : starEach (e :: es) X.env = (false, eval e X.env) :: starEach es X.env := by rfl) (hpl : (backTo pos (starEach es X.env)).any (·.1) = false := by rfl) : VX w X Γ (.Call (.Name x p) (e :: es) [] pos) (ma >>= m) := (vo_callH F hr hc hm hk hb h hg hdb he hpl).ve fun r => O.toD_imm _
end
end Vc
namespace Vc
open PySem PySem.Spec PyProof.Rows L2
open Enc (enc)
/-! ### what the top has written, read off -/
theorem def_mk {K : PySem.W.Frag} {h : Heap} {mg : Str → Option Value} {x : Str} {st : Stmt} {f : Addr} {oc : Value} {od an : Option Addr} {osl : Array (Option Value)} {kV doc pm cdv ct : Value} {ps : List Str} (X : K.In h) (G : h.Ns mainGlobals mg)
    (hb : ∀ (kV doc pm : Value) (an : Option Addr) (cdv ct : Value) (us : List Value), us.length = ps.length → bindArgs (PySem.W.fnOf x x (defArgs st) (defBody st) (defScope st) .none kV doc pm an cdv ct) ⟨us, []⟩ = pure (ps.zip us))
    (a : PySem.W.nsIn K mainGlobals x = some (some (.ref f))) (l : K.lookup f = some ⟨oc, od, .func (PySem.W.fnOf x x (defArgs st) (defBody st) (defScope st) .none kV doc pm an cdv ct), osl⟩) (c : PySem.W.codeIn K cdv x = true) (k : PySem.W.keepIn K (.ref f) = true) :
    DefAt K mg x st f (PySem.W.fnOf x x (defArgs st) (defBody st) (defScope st) .none kV doc pm an cdv ct) ps :=
  ⟨fun_mk l c k, PySem.W.mg_of X G a, (fun_mk l c k).binds hb⟩

theorem ExcCls.mk' {K : PySem.W.Frag} {h : Heap} {mg : Str → Option Value} {x : Str} {C : Addr} (X : K.In h) (G : h.Ns mainGlobals mg) (a : PySem.W.nsIn K mainGlobals x = some (some (.ref C)))
    (q : PySem.W.excIn K C [.type "ValueError", .type "Exception", .type "BaseException", .type "object"] "ValueError.__new__" = true) (k : PySem.W.keepIn K (.ref C) = true) (b : PySem.W.subIn K (.ref C) (.type "BaseException") = some true) (t : PySem.W.typeIn K (.ref C) = some (.type "type")) : ExcCls K mg x :=
  ⟨C, PySem.W.mg_of X G a, q, k, b, t⟩
/-- tables of what is caught -/
def excTab (K : PySem.W.Frag) (tb : ETab) (f : Value → Option Bool) (n : Str) : Bool := tb.all fun e => match PySem.W.nsIn K mainGlobals e.1 with
  | some (some cl) => f cl == some (e.2.contains n)
  | _ => false
theorem excTab_ok {K : PySem.W.Frag} {h : Heap} {mg : Str → Option Value} {tb : ETab} {f : Value → Option Bool} {n : Str} (X : K.In h) (G : h.Ns mainGlobals mg) (q : excTab K tb f n = true) {m : Str} {up : List Str} (hl : tb.lookup m = some up) :
    ∃ cl, PySem.W.nsIn K mainGlobals m = some (some cl) ∧ mg m = some cl ∧ f cl = some (up.contains n) := by
  have := List.all_eq_true.mp q _ (lookup_mem hl)
  dsimp only at this
  split at this
  · rename_i cl e
    exact ⟨cl, e, PySem.W.mg_of X G e, by simpa using this⟩
  · cases this
theorem eex_mk {K : PySem.W.Frag} {h : Heap} {mg : Str → Option Value} {tb : ETab} {n : Str} {C : Addr} (X : K.In h) (G : h.Ns mainGlobals mg) (a : PySem.W.nsIn K mainGlobals n = some (some (.ref C))) (q : excTab K tb (fun cl => PySem.W.exmOne K cl (.ref C)) n = true) : EEx K mg tb n :=
  ⟨C, PySem.W.mg_of X G a, ⟨fun m up hl cl hm => by
    obtain ⟨cl', _, e1, e2⟩ := excTab_ok X G q hl
    rw [hm] at e1
    cases e1
    exact e2⟩⟩
def excCB (K : PySem.W.Frag) (v : Value) : Bool := match v with
  | .ref D => PySem.W.findIn K (.ref D) "__getattribute__" == some (some (.builtin "BaseException.__getattribute__")) && PySem.W.findIn K (.ref D) "__getattr__" == some none && PySem.W.subIn K (.ref D) (.type "BaseException") == some true && PySem.W.hasDictIn K D && PySem.W.findIn K (.ref D) "__class__" == some (some (.builtin "object.__class__")) &&
      PySem.W.specialIn K (.builtin "object.__class__") "__get__" == some (some (.builtin "getset_descriptor.__get__")) && PySem.W.takesIn K (.builtin "object.__class__") == some true && PySem.W.mroIn K D (.type "object") == some true
  | _ => false
theorem excCB_ok {K : PySem.W.Frag} {v : Value} (h : excCB K v = true) : ∃ D, v = .ref D ∧ ExcC K D := by
  cases v with
  | ref D =>
    unfold excCB at h
    simp only [Bool.and_eq_true] at h
    obtain ⟨⟨⟨⟨⟨⟨⟨h1, h2⟩, h3⟩, h4⟩, h5⟩, h6⟩, h7⟩, h8⟩ := h
    exact ⟨D, rfl, ⟨by simpa using h1, by simpa using h2, by simpa using h3, h4, by simpa using h5, by simpa using h6, by simpa using h7, by simpa using h8⟩⟩
  | _ => cases h
def iTab (K : PySem.W.Frag) (tb : ETab) (cv : Value) (n : Str) : Bool := excTab K tb (fun cl => if excCB K cl then PySem.W.kitOne K cl cv else none) n
theorem iok_mk {K : PySem.W.Frag} {h : Heap} {mg : Str → Option Value} {tb : ETab} {n : Str} {cv : Value} (X : K.In h) (G : h.Ns mainGlobals mg) (q : iTab K tb cv n = true) : IOk K mg tb n cv := ⟨fun m up hl => by
    obtain ⟨cl, _, e1, e2⟩ := excTab_ok X G q hl
    split at e2
    · rename_i h2
      obtain ⟨D, rfl, h3⟩ := excCB_ok h2
      exact ⟨D, e1, h3, e2⟩
    · cases e2⟩
theorem iex_mk {K : PySem.W.Frag} {h : Heap} {mg : Str → Option Value} {tb : ETab} {n : Str} {C : Addr} (X : K.In h) (G : h.Ns mainGlobals mg) (a : PySem.W.nsIn K mainGlobals n = some (some (.ref C))) (q : iTab K tb (.ref C) n = true) : IEx K mg tb n := ⟨C, PySem.W.mg_of X G a, iok_mk X G q⟩
/-- a written value read off -/
def rdK (K : PySem.W.Frag) : Nat → Value → Option (V × D)
  | _, .none => some (.non, .non)
  | _, .bool b => some (.bl b, .bl b)
  | _, .int i _ => some (.int i, .int i)
  | _, .str x _ => some (.str x, .str x)
  | 0, _ => none
  | n + 1, .ref a => match K.lookup a with
    | some ⟨.type "tuple", _, .seq its _, _⟩ => if its.size ≤ sizeLine then match (its.toList.map (rdK K n)).foldr (fun x r => match x, r with | some (v, d), some (vs, ds) => some (v :: vs, d :: ds) | _, _ => none) (some ([], [])) with
        | some (_, ds) => some (.ref a, .tup ds)
        | none => none
      else none
    | some ⟨.type "list", none, .seq its _, _⟩ => if its.size ≤ sizeLine then match (its.toList.map (rdK K n)).foldr (fun x r => match x, r with | some (v, d), some (vs, ds) => some (v :: vs, d :: ds) | _, _ => none) (some ([], [])) with
        | some (_, ds) => some (.ref a, .lst ds)
        | none => none
      else none
    | _ => none
  | _, _ => none
theorem rdK_list {K : PySem.W.Frag} {mg : Str → Option Value} {f : Value → Option (V × D)} (hf : ∀ u v d, f u = some (v, d) → RelV v u ∧ ∀ H, R K mg H v d) : ∀ (us : List Value) (vs : List V) (ds : List D), (us.map f).foldr (fun x r => match x, r with | some (v, d), some (vs, ds) => some (v :: vs, d :: ds) | _, _ => none) (some ([], [])) = some (vs, ds) → Vals vs us ∧ ∀ H, Rs K mg H vs ds := by
  intro us
  induction us with
  | nil => intro vs ds h; cases h; exact ⟨.nil, fun _ => .nil⟩
  | cons u us ih =>
    intro vs ds h
    rw [List.map_cons, List.foldr_cons] at h
    split at h
    · rename_i v d vs' ds' e1 e2
      cases h
      obtain ⟨h1, h2⟩ := hf u v d e1
      obtain ⟨h3, h4⟩ := ih _ _ e2
      exact ⟨.cons h1 h3, fun H => .cons (h2 H) (h4 H)⟩
    · cases h
theorem rdK_ok {K : PySem.W.Frag} {mg : Str → Option Value} : ∀ (n : Nat) (u : Value) (v : V) (d : D), rdK K n u = some (v, d) → RelV v u ∧ ∀ H, R K mg H v d := by
  intro n
  induction n with
  | zero =>
    intro u v d h
    cases u <;> first | (cases h; done) | (cases h; exact ⟨by first | rfl | exact ⟨_, rfl⟩, fun H => by constructor⟩)
  | succ n ih =>
    intro u v d h
    cases u with
    | ref a =>
      unfold rdK at h
      split at h
      · rename_i dd its k sl e
        split at h
        · rename_i hz
          split at h
          · rename_i vs ds e2
            cases h
            obtain ⟨h1, h2⟩ := rdK_list ih _ _ _ e2
            exact ⟨rfl, fun H => .tup (.inr ⟨_, its, k, e, rfl, rfl, hz, h1⟩) (h2 H)⟩
          · cases h
        · cases h
      · rename_i its k sl e
        split at h
        · rename_i hz
          split at h
          · rename_i vs ds e2
            cases h
            obtain ⟨h1, h2⟩ := rdK_list ih _ _ _ e2
            exact ⟨rfl, fun H => .lst (.inr ⟨_, its, k, e, rfl, rfl, rfl, hz, h1⟩) (h2 H)⟩
          · cases h
        · cases h
      · cases h
    | _ => first | (cases h; done) | (cases h; exact ⟨by first | rfl | exact ⟨_, rfl⟩, fun H => by constructor⟩)
theorem const_mk {K : PySem.W.Frag} {h : Heap} {mg : Str → Option Value} {x : Str} {q : Addr} {d : D} (X : K.In h) (G : h.Ns mainGlobals mg) (a : PySem.W.nsIn K mainGlobals x = some (some (.ref q))) (r : rdK K 8 (.ref q) = some (.ref q, d)) : ∃ q, mg x = some (.ref q) ∧ ∀ H, R K mg H (.ref q) d :=
  ⟨q, PySem.W.mg_of X G a, (rdK_ok 8 _ _ _ r).2⟩
theorem int_mk {K : PySem.W.Frag} {h : Heap} {mg : Str → Option Value} {x : Str} {i : Int} {t : Tok} (X : K.In h) (G : h.Ns mainGlobals mg) (a : PySem.W.nsIn K mainGlobals x = some (some (.int i t))) : ∃ t, mg x = some (.int i t) := ⟨t, PySem.W.mg_of X G a⟩

/-! ### the law's head -/
def spLaw (K : PySem.W.Frag) : Sp := fun vs H Q E => ∃ (a : Addr) (ns : List Int), vs = [.ref a] ∧ ns.length ≤ 63 ∧ SqL K H a (ns.map V.int) ∧ (Q = fun v _ => v = .bl true) ∧ E = fun _ _ _ => False
theorem law_walk {l : PySem.W.OpenLaw} {q : Program} {loose : List Str} {XP : (Str → Option Value) → Heap → Prop} {YP : World → Heap → Prop} {d : DefRec} {K : Params → PySem.W.Frag} {k : Nat} {m : List Int × Unit → M Bool} (hn : l.most = some 63) (hdf : d.params.defaults = []) (hdn : d.name = "law") (hr : Room k callerA)
    (hY : ∀ (w : World) (h : Heap), YP w h → (K w.params).In h) (hm : ∀ ns : List Int, ns.length ≤ 63 → m (ns, ()) = .ok true)
    (F : ∀ (w : World) (mg : Str → Option Value) (h : Heap), (K w.params).In h → h.Ns mainGlobals mg →
      ∃ (f : Addr) (fd : FuncData), mg "law" = some (.ref f) ∧ (∀ (s : Shared) (u : Value), BindsTo s fd ⟨[u], []⟩ [("script", u)]) ∧ ∀ base : Heap, FnOk l.prog w (K w.params) mg base (L2N.CX l.prog w) k f fd ["script"] (spF (K w.params) mg (eCons eNil) (fun r : Bool => O.imm (enc r)) m)) :
    PySem.W.WalkO q loose XP YP l.row.toRowW d [] (fun f vs => PySem.call f vs) :=
  L2.walk_of (n := 63) (k := k) (x := "script") (CX := fun w => L2N.CX l.prog w) (sp := fun w => spLaw (K w.params)) hn (by decide) hdf hr hY (fun w mg fa h KX G hmg => by
    obtain ⟨f, fd, h1, h2, h3⟩ := F w mg h KX G
    rw [hdn, h1] at hmg
    cases hmg
    refine ⟨fd, h2, fun base _ _ => ⟨fun vs H Q E ⟨a, ns, e, _⟩ => by rw [e]; rfl, fun A outer s H args us vs Q E hr e0 hb hv hs => ?_⟩⟩
    obtain ⟨a, ns, rfl, hl, hS, rfl, rfl⟩ := hs
    exact (h3 base).run A outer s H args us _ _ _ hr e0 hb hv (law_sp hm hl hS)) (fun w H a ns hl _ hS => ⟨a, ns, rfl, hl, hS, rfl, rfl⟩) fun w H s e s' z => cx_no z
end Vc

set_option Elab.async false
set_option linter.all false
set_option maxRecDepth 100000
set_option maxHeartbeats 4000000
namespace Q
open PySem PySem.Spec PyProof.Rows L2 Vc
open Vc.Enc (enc)
def top (i : Nat) : Stmt := PySem.Challenge.pw_paperark_k25_field_and_polynomial_divisi.main.body.getD i (.Pass ⟨0, 0, 0, 0⟩)
def k_tab : ETab := [("ArchiveError", ["ArchiveError", "ValueError", "Exception", "BaseException"]), ("InvalidSymbol", ["InvalidSymbol", "ArchiveError", "ValueError", "Exception", "BaseException"])]
def k_INVERSES : (Tup Int) := (⟨[(0 : Int), (1 : Int), (9 : Int), (14 : Int), (13 : Int), (11 : Int), (7 : Int), (6 : Int), (15 : Int), (2 : Int), (12 : Int), (5 : Int), (10 : Int), (4 : Int), (3 : Int), (8 : Int)]⟩ : (Tup Int))
def k_PRODUCTS : (Tup (Tup Int)) := (⟨[(⟨[(0 : Int), (0 : Int), (0 : Int), (0 : Int), (0 : Int), (0 : Int), (0 : Int), (0 : Int), (0 : Int), (0 : Int), (0 : Int), (0 : Int), (0 : Int), (0 : Int), (0 : Int), (0 : Int)]⟩ : (Tup Int)), (⟨[(0 : Int), (1 : Int), (2 : Int), (3 : Int), (4 : Int), (5 : Int), (6 : Int), (7 : Int), (8 : Int), (9 : Int), (10 : Int), (11 : Int), (12 : Int), (13 : Int), (14 : Int), (15 : Int)]⟩ : (Tup Int)), (⟨[(0 : Int), (2 : Int), (4 : Int), (6 : Int), (8 : Int), (10 : Int), (12 : Int), (14 : Int), (3 : Int), (1 : Int), (7 : Int), (5 : Int), (11 : Int), (9 : Int), (15 : Int), (13 : Int)]⟩ : (Tup Int)), (⟨[(0 : Int), (3 : Int), (6 : Int), (5 : Int), (12 : Int), (15 : Int), (10 : Int), (9 : Int), (11 : Int), (8 : Int), (13 : Int), (14 : Int), (7 : Int), (4 : Int), (1 : Int), (2 : Int)]⟩ : (Tup Int)), (⟨[(0 : Int), (4 : Int), (8 : Int), (12 : Int), (3 : Int), (7 : Int), (11 : Int), (15 : Int), (6 : Int), (2 : Int), (14 : Int), (10 : Int), (5 : Int), (1 : Int), (13 : Int), (9 : Int)]⟩ : (Tup Int)), (⟨[(0 : Int), (5 : Int), (10 : Int), (15 : Int), (7 : Int), (2 : Int), (13 : Int), (8 : Int), (14 : Int), (11 : Int), (4 : Int), (1 : Int), (9 : Int), (12 : Int), (3 : Int), (6 : Int)]⟩ : (Tup Int)), (⟨[(0 : Int), (6 : Int), (12 : Int), (10 : Int), (11 : Int), (13 : Int), (7 : Int), (1 : Int), (5 : Int), (3 : Int), (9 : Int), (15 : Int), (14 : Int), (8 : Int), (2 : Int), (4 : Int)]⟩ : (Tup Int)), (⟨[(0 : Int), (7 : Int), (14 : Int), (9 : Int), (15 : Int), (8 : Int), (1 : Int), (6 : Int), (13 : Int), (10 : Int), (3 : Int), (4 : Int), (2 : Int), (5 : Int), (12 : Int), (11 : Int)]⟩ : (Tup Int)), (⟨[(0 : Int), (8 : Int), (3 : Int), (11 : Int), (6 : Int), (14 : Int), (5 : Int), (13 : Int), (12 : Int), (4 : Int), (15 : Int), (7 : Int), (10 : Int), (2 : Int), (9 : Int), (1 : Int)]⟩ : (Tup Int)), (⟨[(0 : Int), (9 : Int), (1 : Int), (8 : Int), (2 : Int), (11 : Int), (3 : Int), (10 : Int), (4 : Int), (13 : Int), (5 : Int), (12 : Int), (6 : Int), (15 : Int), (7 : Int), (14 : Int)]⟩ : (Tup Int)), (⟨[(0 : Int), (10 : Int), (7 : Int), (13 : Int), (14 : Int), (4 : Int), (9 : Int), (3 : Int), (15 : Int), (5 : Int), (8 : Int), (2 : Int), (1 : Int), (11 : Int), (6 : Int), (12 : Int)]⟩ : (Tup Int)), (⟨[(0 : Int), (11 : Int), (5 : Int), (14 : Int), (10 : Int), (1 : Int), (15 : Int), (4 : Int), (7 : Int), (12 : Int), (2 : Int), (9 : Int), (13 : Int), (6 : Int), (8 : Int), (3 : Int)]⟩ : (Tup Int)), (⟨[(0 : Int), (12 : Int), (11 : Int), (7 : Int), (5 : Int), (9 : Int), (14 : Int), (2 : Int), (10 : Int), (6 : Int), (1 : Int), (13 : Int), (15 : Int), (3 : Int), (4 : Int), (8 : Int)]⟩ : (Tup Int)), (⟨[(0 : Int), (13 : Int), (9 : Int), (4 : Int), (1 : Int), (12 : Int), (8 : Int), (5 : Int), (2 : Int), (15 : Int), (11 : Int), (6 : Int), (3 : Int), (14 : Int), (10 : Int), (7 : Int)]⟩ : (Tup Int)), (⟨[(0 : Int), (14 : Int), (15 : Int), (1 : Int), (13 : Int), (3 : Int), (2 : Int), (12 : Int), (9 : Int), (7 : Int), (6 : Int), (8 : Int), (4 : Int), (10 : Int), (11 : Int), (5 : Int)]⟩ : (Tup Int)), (⟨[(0 : Int), (15 : Int), (13 : Int), (2 : Int), (9 : Int), (6 : Int), (4 : Int), (11 : Int), (1 : Int), (14 : Int), (12 : Int), (3 : Int), (8 : Int), (7 : Int), (5 : Int), (10 : Int)]⟩ : (Tup Int))]⟩ : (Tup (Tup Int)))
instance : Eqv (Int ⊕ (Str × Bool)) := eqvSum _ _ (by decide)
def m_check_symbols (p_symbols : (Tup Int)) : M Unit :=
  (loopS (fun (s1 : Unit) (a2 : Int) => (if ((decide (a2 < (0 : Int))) || (decide (a2 ≥ (16 : Int)))) then (M.exc ⟨"InvalidSymbol", []⟩) else (M.ok ()))) ((p_symbols).l) () >>= (fun s1 : Unit => (M.ok ())))
def m_reduced (p_poly : (List Int)) : M (List Int) :=
  ((M.ok (p_poly.length : Int)) >>= fun size_3 => (whileM (fun s4 : Int => (bAnd (M.ok (decide (s4 > (0 : Int)))) ((getI p_poly (s4 - (1 : Int))) >>= fun x5 => M.ok (decide (x5 = (0 : Int)))))) (fun s4 : Int => ((fun size_6 : Int => (M.ok size_6)) (s4 - (1 : Int)))) (p_poly.length + 1) size_3 >>= (fun s4 : Int => ((M.ok (cutL p_poly none (some s4))) >>= fun r => M.ok r))))
def m_evaluate (p_poly : (List Int)) (p_point : Int) : M Int :=
  ((M.ok (0 : Int)) >>= fun value_8 => (loopS (fun (s9 : Int) (a10 : Int) => ((((getI (k_PRODUCTS).l s9) >>= fun x11 => getI (x11).l p_point) >>= fun x12 => M.ok (Builtin.bitXor x12 a10)) >>= fun value_13 => (M.ok value_13))) ((p_poly).reverse) value_8 >>= (fun s9 : Int => (M.ok s9))))
def m__law_cell (p_script : (List Int)) (p_k : Int) : M Int :=
  (if (decide (p_k < (p_script.length : Int))) then ((getI p_script p_k) >>= fun r => M.ok r) else (M.ok (0 : Int)))
def m__law_is_int (p_value : Int) : M Bool :=
  (M.ok (true && (!false)))
def m__law_times (p_a : Int) (p_b : Int) : M Int :=
  ((M.ok (0 : Int)) >>= fun total_14 => ((M.ok p_a) >>= fun factor_15 => (loopS (fun (s16 : Int × Int) (a17 : Int) => ((((chk (0 ≤ a17) >>= fun _ => M.ok (p_b / 2 ^ (a17).toNat)) >>= fun x18 => M.ok (Builtin.bitAnd x18 (1 : Int))) >>= fun x19 => M.ok (decide (x19 = (1 : Int)))) >>= fun c24 => (if c24 then ((M.ok (Builtin.bitXor s16.1 s16.2)) >>= fun total_21 => (M.ok total_21)) else (M.ok s16.1) : (M (Int))) >>= (fun s20 : Int => ((M.ok (s16.2 * (2 : Int))) >>= fun factor_22 => (if (decide (factor_22 > (15 : Int))) then ((M.ok (Builtin.bitXor factor_22 (19 : Int))) >>= fun factor_23 => (M.ok (s20, factor_23))) else (M.ok (s20, factor_22))))))) (rng 0 (4 : Int)) (total_14, factor_15) >>= (fun s16 : Int × Int => (M.ok s16.1)))))
def m__law_mix (p_cell : Int) (p_k : Int) : M Int :=
  ((M.ok ((((p_cell * (48271 : Int)) + (p_k * (69621 : Int))) + (12345 : Int)) % (2147483647 : Int))) >>= fun number_25 => ((M.ok ((((number_25 * (16807 : Int)) + (p_k * (40692 : Int))) + (777 : Int)) % (2147483629 : Int))) >>= fun number_26 => (M.ok (number_26 / (997 : Int)))))
def m__law_times_too (p_a : Int) (p_b : Int) : M Int :=
  (if ((decide (p_a = (0 : Int))) || (decide (p_b = (0 : Int)))) then (M.ok (0 : Int)) else ((M.ok (⟨[(0 : Int), (0 : Int), (1 : Int), (4 : Int), (2 : Int), (8 : Int), (5 : Int), (10 : Int), (3 : Int), (14 : Int), (9 : Int), (7 : Int), (6 : Int), (13 : Int), (11 : Int), (12 : Int)]⟩ : Tup Int)) >>= fun logs_27 => (((((getI (logs_27).l p_a) >>= fun x28 => (getI (logs_27).l p_b) >>= fun x29 => M.ok (x28 + x29)) >>= fun x30 => M.ok (x30 % (15 : Int))) >>= fun x31 => getI ((⟨[(1 : Int), (2 : Int), (4 : Int), (8 : Int), (3 : Int), (6 : Int), (12 : Int), (11 : Int), (5 : Int), (10 : Int), (7 : Int), (14 : Int), (15 : Int), (13 : Int), (9 : Int)]⟩ : Tup Int)).l x31) >>= fun r => M.ok r)))
def m__law_reduced (p_poly : (List Int)) : M (List Int) :=
  ((M.ok (p_poly.length : Int)) >>= fun size_32 => ((chk (rOk (p_poly.length : Int)) >>= fun _ => M.ok (rng 0 (p_poly.length : Int))) >>= fun x38 => loopS (fun (s33 : Int) (a34 : Int) => ((bAnd (M.ok (decide (s33 > (0 : Int)))) ((getI p_poly (s33 - (1 : Int))) >>= fun x35 => M.ok (decide (x35 = (0 : Int))))) >>= fun c37 => if c37 then ((M.ok (s33 - (1 : Int))) >>= fun size_36 => (M.ok size_36)) else (M.ok s33))) x38 size_32 >>= (fun s33 : Int => ((M.ok (cutL p_poly none (some s33))) >>= fun r => M.ok r))))
def m_add (p_a : Int) (p_b : Int) : M Int :=
  ((m_check_symbols (⟨[p_a, p_b]⟩ : (Tup Int))) >>= fun _ => (M.ok (Builtin.bitXor p_a p_b)))
def m_multiply (p_a : Int) (p_b : Int) : M Int :=
  ((m_check_symbols (⟨[p_a, p_b]⟩ : (Tup Int))) >>= fun _ => (((getI (k_PRODUCTS).l p_a) >>= fun x39 => getI (x39).l p_b) >>= fun r => M.ok r))
def m_inverse (p_a : Int) : M Int :=
  ((m_check_symbols (⟨[p_a]⟩ : (Tup Int))) >>= fun _ => (if (decide (p_a = (0 : Int))) then (M.exc ⟨"InvalidSymbol", []⟩) else ((getI (k_INVERSES).l p_a) >>= fun r => M.ok r)))
def m_add_polynomials (p_first : (List Int)) (p_second : (List Int)) : M (List Int) :=
  ((M.ok (if (p_second.length : Int) > (p_first.length : Int) then (p_second.length : Int) else (p_first.length : Int))) >>= fun size_40 => (((repM ([(0 : Int)] : List Int) (size_40 - (p_first.length : Int))) >>= fun x41 => catM p_first x41) >>= fun left_42 => (((repM ([(0 : Int)] : List Int) (size_40 - (p_second.length : Int))) >>= fun x43 => catM p_second x43) >>= fun right_44 => (((lcM (fun (a45 : (Int × Int)) => M.ok true) (fun (a45 : (Int × Int)) => (M.ok (Builtin.bitXor a45.1 a45.2))) ((left_42).zip right_44)) >>= fun x46 => m_reduced x46) >>= fun r => M.ok r))))
def m_multiply_polynomials (p_first : (List Int)) (p_second : (List Int)) : M (List Int) :=
  ((repM ([(0 : Int)] : List Int) ((p_first.length : Int) + (p_second.length : Int))) >>= fun result_47 => (loopS (fun (s48 : (List Int)) (a49 : (Int × Int)) => (loopS (fun (s50 : (List Int)) (a51 : (Int × Int)) => (getI s50 (a49.1 + a51.1) >>= fun x54 => ((getI (k_PRODUCTS).l a49.2) >>= fun x52 => getI (x52).l a51.2) >>= fun x55 => setL s50 (a49.1 + a51.1) (Builtin.bitXor x54 x55) >>= fun result_53 => (M.ok result_53))) (enumL p_second) s48 >>= (fun s50 : (List Int) => (M.ok s50)))) (enumL p_first) result_47 >>= (fun s48 : (List Int) => ((m_reduced s48) >>= fun r => M.ok r))))
def m_divide (p_poly : (List Int)) (p_divisor : (List Int)) : M ((List Int) × (List Int)) :=
  ((m_reduced p_divisor) >>= fun small_57 => (if (decide ((small_57.length : Int) = (0 : Int))) then (M.exc ⟨"InvalidSymbol", []⟩) else ((m_reduced p_poly) >>= fun rest_58 => ((repM ([(0 : Int)] : List Int) (if (((rest_58.length : Int) - (small_57.length : Int)) + (1 : Int)) > (0 : Int) then (((rest_58.length : Int) - (small_57.length : Int)) + (1 : Int)) else (0 : Int))) >>= fun quotient_59 => (((getI small_57 (-(1 : Int))) >>= fun x60 => getI (k_INVERSES).l x60) >>= fun scale_61 => ((chk (rOk ((quotient_59.length : Int) - (1 : Int)) ∧ rOk (-(1 : Int))) >>= fun _ => M.ok (rngD ((quotient_59.length : Int) - (1 : Int)) (-(1 : Int)))) >>= fun x77 => loopS (fun (s62 : (List Int) × (List Int)) (a63 : Int) => ((((getI s62.1 ((a63 + (small_57.length : Int)) - (1 : Int))) >>= fun x64 => getI (k_PRODUCTS).l x64) >>= fun x65 => getI (x65).l scale_61) >>= fun factor_66 => (setL s62.2 a63 factor_66 >>= fun quotient_67 => (loopS (fun (s68 : (List Int)) (a69 : (Int × Int)) => (getI s68 (a63 + a69.1) >>= fun x72 => ((getI (k_PRODUCTS).l factor_66) >>= fun x70 => getI (x70).l a69.2) >>= fun x73 => setL s68 (a63 + a69.1) (Builtin.bitXor x72 x73) >>= fun rest_71 => (M.ok rest_71))) (enumL small_57) s62.1 >>= (fun s68 : (List Int) => (M.ok (s68, quotient_67))))))) x77 (rest_58, quotient_59) >>= (fun s62 : (List Int) × (List Int) => (((m_reduced s62.2) >>= fun x75 => (m_reduced s62.1) >>= fun x76 => M.ok (x75, x76)) >>= fun r => M.ok r))))))))
def m__law_row (p_cell : Int) (p_count : Int) (p_bound : Int) : M (List Int) :=
  ((M.ok ([] : List Int)) >>= fun found_78 => ((M.ok (if p_cell < 0 then -p_cell else p_cell)) >>= fun rest_79 => ((chk (rOk p_count) >>= fun _ => M.ok (rng 0 p_count)) >>= fun x88 => loopS (fun (s80 : (List Int) × Int) (a81 : Int) => (if (decide ((if p_cell < 0 then -p_cell else p_cell) ≥ (1000000000000000000 : Int))) then ((chk (0 < p_bound) >>= fun _ => M.ok (s80.2 % p_bound)) >>= fun x84 => chk (s80.1.length < sizeLine) >>= fun _ => (fun found_82 => ((chk (CDiv s80.2 p_bound) >>= fun _ => M.ok (s80.2 / p_bound)) >>= fun rest_83 => (M.ok (found_82, rest_83)))) (s80.1 ++ [x84])) else (((m__law_mix p_cell a81) >>= fun x85 => chk (0 < p_bound) >>= fun _ => M.ok (x85 % p_bound)) >>= fun x87 => chk (s80.1.length < sizeLine) >>= fun _ => (fun found_86 => (M.ok (found_86, s80.2))) (s80.1 ++ [x87])))) x88 (found_78, rest_79) >>= (fun s80 : (List Int) × Int => (M.ok s80.1)))))
def m__law_is_list (p_value : (List Int)) (p_least : Int) (p_greatest : Int) : M Bool :=
  (if (!true) then (M.ok false) else ((loopM (fun (s89 : Unit) (a90 : Int) => ((bOr ((m__law_is_int a90) >>= fun x91 => M.ok (!x91)) (M.ok ((decide (a90 < p_least)) || (decide (a90 > p_greatest))))) >>= fun c92 => if c92 then (M.ok (Stp.rt false : (Stp (Unit) Bool))) else (M.ok (Stp.nx () : (Stp (Unit) Bool))))) p_value () : (M (Stp (Unit) Bool))) >>= fun r => r.on (fun s89 : Unit => (M.ok true))))
def m__law_value_at (p_poly : (List Int)) (p_point : Int) : M Int :=
  ((M.ok (0 : Int)) >>= fun value_93 => (loopS (fun (s94 : Int) (a95 : Int) => (((m__law_times_too s94 p_point) >>= fun x96 => M.ok (Builtin.bitXor x96 a95)) >>= fun value_97 => (M.ok value_97))) ((p_poly).reverse) value_93 >>= (fun s94 : Int => (M.ok s94))))
def m__law_product (p_first : (List Int)) (p_second : (List Int)) : M (List Int) :=
  ((repM ([(0 : Int)] : List Int) ((p_first.length : Int) + (p_second.length : Int))) >>= fun result_98 => ((chk (rOk (p_first.length : Int)) >>= fun _ => M.ok (rng 0 (p_first.length : Int))) >>= fun x110 => loopS (fun (s99 : (List Int)) (a100 : Int) => ((chk (rOk (p_second.length : Int)) >>= fun _ => M.ok (rng 0 (p_second.length : Int))) >>= fun x109 => loopS (fun (s101 : (List Int)) (a102 : Int) => (((getI s101 (a100 + a102)) >>= fun x105 => ((getI p_first a100) >>= fun x103 => (getI p_second a102) >>= fun x104 => m__law_times_too x103 x104) >>= fun x106 => M.ok (Builtin.bitXor x105 x106)) >>= fun x108 => setL s101 (a100 + a102) x108 >>= fun result_107 => (M.ok result_107))) x109 s99 >>= (fun s101 : (List Int) => (M.ok s101)))) x110 result_98 >>= (fun s99 : (List Int) => ((m__law_reduced s99) >>= fun r => M.ok r))))
def m__law_sum (p_first : (List Int)) (p_second : (List Int)) : M (List Int) :=
  ((M.ok ([] : List Int)) >>= fun result_111 => ((chk (rOk (if (p_second.length : Int) > (p_first.length : Int) then (p_second.length : Int) else (p_first.length : Int))) >>= fun _ => M.ok (rng 0 (if (p_second.length : Int) > (p_first.length : Int) then (p_second.length : Int) else (p_first.length : Int)))) >>= fun x122 => loopS (fun (s112 : (List Int)) (a113 : Int) => ((M.ok (0 : Int)) >>= fun total_114 => ((if (decide (a113 < (p_first.length : Int))) then ((getI p_first a113) >>= fun total_116 => (M.ok total_116)) else (M.ok total_114) : (M (Int))) >>= (fun s115 : Int => ((if (decide (a113 < (p_second.length : Int))) then (((getI p_second a113) >>= fun x118 => M.ok (Builtin.bitXor s115 x118)) >>= fun total_119 => (M.ok total_119)) else (M.ok s115) : (M (Int))) >>= (fun s117 : Int => (chk (s112.length < sizeLine) >>= fun _ => (fun result_120 => (M.ok result_120)) (s112 ++ [s117])))))))) x122 result_111 >>= (fun s112 : (List Int) => ((m__law_reduced s112) >>= fun r => M.ok r))))
def m__law_tried (p_question : Int) (p_a : Int) (p_b : Int) : M (Int ⊕ (Str × Bool)) :=
  (tryM k_tab "ArchiveError" ((if (decide (p_question = (0 : Int))) then (((m_add p_a p_b) >>= fun x124 => M.ok (.inl x124 : (Int ⊕ (Str × Bool)))) >>= fun r => M.ok (Jn.out r : (Jn (Unit) (Int ⊕ (Str × Bool))))) else (if (decide (p_question = (1 : Int))) then (((m_multiply p_a p_b) >>= fun x125 => M.ok (.inl x125 : (Int ⊕ (Str × Bool)))) >>= fun r => M.ok (Jn.out r : (Jn (Unit) (Int ⊕ (Str × Bool))))) else (((m_inverse p_a) >>= fun x126 => M.ok (.inl x126 : (Int ⊕ (Str × Bool)))) >>= fun r => M.ok (Jn.out r : (Jn (Unit) (Int ⊕ (Str × Bool))))))) : M (Jn (Unit) (Int ⊕ (Str × Bool)))) (fun e127 : Exn => nox (chk (e127.fs.isEmpty = true) >>= fun _ => (((((isE k_tab e127 "InvalidSymbol") >>= fun x128 => M.ok (("refused" : Str), x128)) >>= fun x129 => M.ok (.inr x129 : (Int ⊕ (Str × Bool)))) >>= fun r => M.ok (Jn.out r : (Jn (Unit) (Int ⊕ (Str × Bool))))) : M (Jn (Unit) (Int ⊕ (Str × Bool)))))) >>= fun j => j.on (fun s123 : Unit => M.stuck))
def m__law_second_part (p_script : (List Int)) : M Bool :=
  ((((m__law_cell p_script (0 : Int)) >>= fun x131 => ((m__law_cell p_script (1 : Int)) >>= fun x130 => M.ok (x130 % (13 : Int))) >>= fun x132 => m__law_row x131 x132 (16 : Int)) >>= fun x136 => ((((m__law_cell p_script (1 : Int)) >>= fun x133 => M.ok (x133 / (13 : Int))) >>= fun x134 => M.ok (x134 % (3 : Int))) >>= fun x135 => repM ([(0 : Int)] : List Int) x135) >>= fun x137 => catM x136 x137) >>= fun p_138 => ((((m__law_cell p_script (2 : Int)) >>= fun x140 => ((m__law_cell p_script (3 : Int)) >>= fun x139 => M.ok (x139 % (13 : Int))) >>= fun x141 => m__law_row x140 x141 (16 : Int)) >>= fun x145 => ((((m__law_cell p_script (3 : Int)) >>= fun x142 => M.ok (x142 / (13 : Int))) >>= fun x143 => M.ok (x143 % (3 : Int))) >>= fun x144 => repM ([(0 : Int)] : List Int) x144) >>= fun x146 => catM x145 x146) >>= fun d_147 => (((((m__law_cell p_script (3 : Int)) >>= fun x148 => M.ok (x148 / (39 : Int))) >>= fun x149 => M.ok (x149 % (3 : Int))) >>= fun x150 => M.ok (decide (x150 = (1 : Int)))) >>= fun c189 => (if c189 then ((M.ok (cutL d_147 none (some (3 : Int)))) >>= fun d_152 => (M.ok d_152)) else (M.ok d_147) : (M ((List Int)))) >>= (fun s151 : (List Int) => (((m__law_cell p_script (4 : Int)) >>= fun x153 => M.ok (x153 % (16 : Int))) >>= fun x_154 => ((M.ok (p_138, s151)) >>= fun copies_155 => ((m_add_polynomials copies_155.1 copies_155.2) >>= fun total_156 => ((m_multiply_polynomials copies_155.1 copies_155.2) >>= fun product_157 => ((bOr ((m__law_is_list total_156 (0 : Int) (15 : Int)) >>= fun x158 => M.ok (!x158)) (bOr ((m__law_sum p_138 s151) >>= fun x159 => M.ok (!decide (total_156 = x159))) ((m_reduced copies_155.1) >>= fun x160 => (m__law_reduced p_138) >>= fun x161 => M.ok (!decide (x160 = x161))))) >>= fun c188 => if c188 then (M.ok false) else ((bOr ((m__law_is_list product_157 (0 : Int) (15 : Int)) >>= fun x162 => M.ok (!x162)) ((m__law_product p_138 s151) >>= fun x163 => M.ok (!decide (product_157 = x163)))) >>= fun c187 => if c187 then (M.ok false) else ((bOr ((m_evaluate copies_155.1 x_154) >>= fun x164 => (m__law_value_at p_138 x_154) >>= fun x165 => M.ok (!decide (x164 = x165))) ((m_evaluate product_157 x_154) >>= fun x168 => ((m__law_value_at p_138 x_154) >>= fun x166 => (m__law_value_at s151 x_154) >>= fun x167 => m__law_times_too x166 x167) >>= fun x169 => M.ok (!decide (x168 = x169)))) >>= fun c186 => if c186 then (M.ok false) else (tryM k_tab "ArchiveError" (((m_divide copies_155.1 copies_155.2) >>= fun actual_171 => (M.ok (Jn.go actual_171 : (Jn (((List Int) × (List Int))) Bool)))) : M (Jn (((List Int) × (List Int))) Bool)) (fun e172 : Exn => nox (chk (e172.fs.isEmpty = true) >>= fun _ => (((bAnd (isE k_tab e172 "InvalidSymbol") (((m__law_reduced s151) >>= fun x173 => M.ok (x173.length : Int)) >>= fun x174 => M.ok (decide (x174 = (0 : Int))))) >>= fun r => M.ok (Jn.out r : (Jn (((List Int) × (List Int))) Bool))) : M (Jn (((List Int) × (List Int))) Bool)))) >>= fun j => j.on (fun s170 : ((List Int) × (List Int)) => (if ((!true) || ((!decide ((2 : Int) = (2 : Int))) || (!decide (copies_155 = (p_138, s151))))) then (M.ok false) else ((M.ok s170) >>= fun t175 => ((bOr ((m__law_is_list t175.1 (0 : Int) (15 : Int)) >>= fun x176 => M.ok (!x176)) (bOr ((m__law_is_list t175.2 (0 : Int) (15 : Int)) >>= fun x177 => M.ok (!x177)) (bOr ((m__law_reduced t175.1) >>= fun x178 => M.ok (!decide (x178 = t175.1))) ((m__law_reduced t175.2) >>= fun x179 => M.ok (!decide (x179 = t175.2)))))) >>= fun c185 => if c185 then (M.ok false) else ((bAnd (((m__law_reduced s151) >>= fun x180 => M.ok (x180.length : Int)) >>= fun x181 => M.ok (decide ((t175.2.length : Int) < x181))) (((m__law_product t175.1 s151) >>= fun x182 => m__law_sum x182 t175.2) >>= fun x183 => (m__law_reduced p_138) >>= fun x184 => M.ok (decide (x183 = x184)))) >>= fun r => M.ok r)))))))))))))))))
def m__law_first_part (p_script : (List Int)) : M Bool :=
  (((m__law_cell p_script (0 : Int)) >>= fun x190 => M.ok (x190 % (16 : Int))) >>= fun a_191 => (((m__law_cell p_script (1 : Int)) >>= fun x192 => M.ok (x192 % (16 : Int))) >>= fun b_193 => (((m__law_cell p_script (2 : Int)) >>= fun x194 => M.ok (x194 % (16 : Int))) >>= fun c_195 => ((((m__law_cell p_script (3 : Int)) >>= fun x196 => M.ok (x196 % (23 : Int))) >>= fun x197 => M.ok (x197 - (3 : Int))) >>= fun odd_198 => (((((m__law_cell p_script (3 : Int)) >>= fun x199 => M.ok (x199 / (23 : Int))) >>= fun x200 => M.ok (x200 % (5 : Int))) >>= fun x201 => M.ok (decide (x201 = (1 : Int)))) >>= fun c245 => (if c245 then ((M.ok ((odd_198 * (1000003 : Int)) + (16 : Int))) >>= fun odd_203 => (M.ok odd_203)) else (M.ok odd_198) : (M (Int))) >>= (fun s202 : Int => ((bOr (((m_multiply a_191 b_193) >>= fun x204 => m__law_is_int x204) >>= fun x205 => M.ok (!x205)) (((m_add a_191 b_193) >>= fun x206 => m__law_is_int x206) >>= fun x207 => M.ok (!x207))) >>= fun c244 => if c244 then (M.ok false) else ((bOr ((m_multiply a_191 b_193) >>= fun x208 => (m__law_times a_191 b_193) >>= fun x209 => M.ok (!decide (x208 = x209))) (bOr ((m_add a_191 b_193) >>= fun x210 => M.ok (!decide (x210 = (Builtin.bitXor a_191 b_193)))) ((m_multiply b_193 a_191) >>= fun x211 => (m_multiply a_191 b_193) >>= fun x212 => M.ok (!decide (x211 = x212))))) >>= fun c243 => if c243 then (M.ok false) else ((((m_multiply b_193 c_195) >>= fun x213 => m_multiply a_191 x213) >>= fun x215 => ((m_multiply a_191 b_193) >>= fun x214 => m_multiply x214 c_195) >>= fun x216 => M.ok (!decide (x215 = x216))) >>= fun c242 => if c242 then (M.ok false) else ((((m_add b_193 c_195) >>= fun x217 => m_multiply a_191 x217) >>= fun x220 => ((m_multiply a_191 b_193) >>= fun x218 => (m_multiply a_191 c_195) >>= fun x219 => m_add x218 x219) >>= fun x221 => M.ok (!decide (x220 = x221))) >>= fun c241 => if c241 then (M.ok false) else ((M.ok (.inr (("refused" : Str), true) : (Int ⊕ (Str × Bool)))) >>= fun due_222 => ((if (decide (a_191 > (0 : Int))) then ((((lcM (fun (a224 : Int) => ((m__law_times a_191 a224) >>= fun x225 => M.ok (decide (x225 = (1 : Int))))) (fun (a224 : Int) => (M.ok a224)) (rng 0 (16 : Int))) >>= fun x226 => getI x226 (0 : Int)) >>= fun x227 => M.ok (.inl x227 : (Int ⊕ (Str × Bool)))) >>= fun due_228 => (M.ok due_228)) else (M.ok due_222) : (M ((Int ⊕ (Str × Bool))))) >>= (fun s223 : (Int ⊕ (Str × Bool)) => (((m__law_tried (2 : Int) a_191 (0 : Int)) >>= fun x229 => chk (Eqv.lay x229 = true ∧ Eqv.lay s223 = true) >>= fun _ => M.ok (!decide (x229 = s223))) >>= fun c240 => if c240 then (M.ok false) else (if ((decide (s202 < (0 : Int))) || (decide (s202 > (15 : Int)))) then (((m__law_tried (0 : Int) s202 a_191) >>= fun x230 => (m__law_tried (0 : Int) a_191 s202) >>= fun x231 => (m__law_tried (1 : Int) s202 a_191) >>= fun x232 => (m__law_tried (1 : Int) a_191 s202) >>= fun x233 => (m__law_tried (2 : Int) s202 (0 : Int)) >>= fun x234 => M.ok ([x230, x231, x232, x233, x234] : List (Int ⊕ (Str × Bool)))) >>= fun bad_235 => (((repM ([(.inr (("refused" : Str), true) : (Int ⊕ (Str × Bool)))] : List (Int ⊕ (Str × Bool))) (5 : Int)) >>= fun x236 => chk (Eqv.lay bad_235 = true ∧ Eqv.lay x236 = true) >>= fun _ => M.ok (decide (bad_235 = x236))) >>= fun r => M.ok r)) else (((m__law_tried (1 : Int) s202 a_191) >>= fun x238 => ((m__law_times s202 a_191) >>= fun x237 => M.ok (.inl x237 : (Int ⊕ (Str × Bool)))) >>= fun x239 => chk (Eqv.lay x238 = true ∧ Eqv.lay x239 = true) >>= fun _ => M.ok (decide (x238 = x239))) >>= fun r => M.ok r))))))))))))))))
def m_law (p_script : (List Int)) : M Bool :=
  ((bAnd (m__law_first_part p_script) (m__law_second_part p_script)) >>= fun r => M.ok r)
abbrev s_check_symbols : Stmt := top 7
abbrev Ncheck_symbols : List Str := ["symbols", "symbol"]
theorem sccheck_symbols : FnScope Ncheck_symbols ["symbols"] (defScope s_check_symbols) := ⟨rfl, rfl, rfl, by decide +kernel, rfl, by decide +kernel, by decide +kernel⟩
abbrev s_reduced : Stmt := top 12
abbrev Nreduced : List Str := ["poly", "size"]
theorem screduced : FnScope Nreduced ["poly"] (defScope s_reduced) := ⟨rfl, rfl, rfl, by decide +kernel, rfl, by decide +kernel, by decide +kernel⟩
abbrev s_evaluate : Stmt := top 15
abbrev Nevaluate : List Str := ["poly", "point", "value", "symbol"]
theorem scevaluate : FnScope Nevaluate ["poly", "point"] (defScope s_evaluate) := ⟨rfl, rfl, rfl, by decide +kernel, rfl, by decide +kernel, by decide +kernel⟩
abbrev s__law_cell : Stmt := top 18
abbrev N_law_cell : List Str := ["script", "k"]
theorem sc_law_cell : FnScope N_law_cell ["script", "k"] (defScope s__law_cell) := ⟨rfl, rfl, rfl, by decide +kernel, rfl, by decide +kernel, by decide +kernel⟩
abbrev s__law_is_int : Stmt := top 19
abbrev N_law_is_int : List Str := ["value"]
theorem sc_law_is_int : FnScope N_law_is_int ["value"] (defScope s__law_is_int) := ⟨rfl, rfl, rfl, by decide +kernel, rfl, by decide +kernel, by decide +kernel⟩
abbrev s__law_times : Stmt := top 20
abbrev N_law_times : List Str := ["a", "b", "total", "factor", "k"]
theorem sc_law_times : FnScope N_law_times ["a", "b"] (defScope s__law_times) := ⟨rfl, rfl, rfl, by decide +kernel, rfl, by decide +kernel, by decide +kernel⟩
abbrev s__law_mix : Stmt := top 23
abbrev N_law_mix : List Str := ["cell", "k", "number"]
theorem sc_law_mix : FnScope N_law_mix ["cell", "k"] (defScope s__law_mix) := ⟨rfl, rfl, rfl, by decide +kernel, rfl, by decide +kernel, by decide +kernel⟩
abbrev s__law_times_too : Stmt := top 26
abbrev N_law_times_too : List Str := ["a", "b", "logs"]
theorem sc_law_times_too : FnScope N_law_times_too ["a", "b"] (defScope s__law_times_too) := ⟨rfl, rfl, rfl, by decide +kernel, rfl, by decide +kernel, by decide +kernel⟩
abbrev s__law_reduced : Stmt := top 28
abbrev N_law_reduced : List Str := ["poly", "size", "k"]
theorem sc_law_reduced : FnScope N_law_reduced ["poly"] (defScope s__law_reduced) := ⟨rfl, rfl, rfl, by decide +kernel, rfl, by decide +kernel, by decide +kernel⟩
abbrev s_add : Stmt := top 8
abbrev Nadd : List Str := ["a", "b"]
theorem scadd : FnScope Nadd ["a", "b"] (defScope s_add) := ⟨rfl, rfl, rfl, by decide +kernel, rfl, by decide +kernel, by decide +kernel⟩
abbrev s_multiply : Stmt := top 9
abbrev Nmultiply : List Str := ["a", "b"]
theorem scmultiply : FnScope Nmultiply ["a", "b"] (defScope s_multiply) := ⟨rfl, rfl, rfl, by decide +kernel, rfl, by decide +kernel, by decide +kernel⟩
abbrev s_inverse : Stmt := top 10
abbrev Ninverse : List Str := ["a"]
theorem scinverse : FnScope Ninverse ["a"] (defScope s_inverse) := ⟨rfl, rfl, rfl, by decide +kernel, rfl, by decide +kernel, by decide +kernel⟩
abbrev s_add_polynomials : Stmt := top 13
abbrev Nadd_polynomials : List Str := ["first", "second", "size", "left", "right", "a", "b"]
theorem scadd_polynomials : FnScope Nadd_polynomials ["first", "second"] (defScope s_add_polynomials) := ⟨rfl, rfl, rfl, by decide +kernel, rfl, by decide +kernel, by decide +kernel⟩
abbrev s_multiply_polynomials : Stmt := top 14
abbrev Nmultiply_polynomials : List Str := ["first", "second", "result", "i", "a", "j", "b"]
theorem scmultiply_polynomials : FnScope Nmultiply_polynomials ["first", "second"] (defScope s_multiply_polynomials) := ⟨rfl, rfl, rfl, by decide +kernel, rfl, by decide +kernel, by decide +kernel⟩
abbrev s_divide : Stmt := top 16
abbrev Ndivide : List Str := ["poly", "divisor", "small", "rest", "quotient", "scale", "at", "factor", "j", "b"]
theorem scdivide : FnScope Ndivide ["poly", "divisor"] (defScope s_divide) := ⟨rfl, rfl, rfl, by decide +kernel, rfl, by decide +kernel, by decide +kernel⟩
abbrev s__law_row : Stmt := top 24
abbrev N_law_row : List Str := ["cell", "count", "bound", "found", "rest", "k"]
theorem sc_law_row : FnScope N_law_row ["cell", "count", "bound"] (defScope s__law_row) := ⟨rfl, rfl, rfl, by decide +kernel, rfl, by decide +kernel, by decide +kernel⟩
abbrev s__law_is_list : Stmt := top 25
abbrev N_law_is_list : List Str := ["value", "least", "greatest", "item"]
theorem sc_law_is_list : FnScope N_law_is_list ["value", "least", "greatest"] (defScope s__law_is_list) := ⟨rfl, rfl, rfl, by decide +kernel, rfl, by decide +kernel, by decide +kernel⟩
abbrev s__law_value_at : Stmt := top 27
abbrev N_law_value_at : List Str := ["poly", "point", "value", "symbol"]
theorem sc_law_value_at : FnScope N_law_value_at ["poly", "point"] (defScope s__law_value_at) := ⟨rfl, rfl, rfl, by decide +kernel, rfl, by decide +kernel, by decide +kernel⟩
abbrev s__law_product : Stmt := top 29
abbrev N_law_product : List Str := ["first", "second", "result", "i", "j"]
theorem sc_law_product : FnScope N_law_product ["first", "second"] (defScope s__law_product) := ⟨rfl, rfl, rfl, by decide +kernel, rfl, by decide +kernel, by decide +kernel⟩
abbrev s__law_sum : Stmt := top 30
abbrev N_law_sum : List Str := ["first", "second", "result", "k", "total"]
theorem sc_law_sum : FnScope N_law_sum ["first", "second"] (defScope s__law_sum) := ⟨rfl, rfl, rfl, by decide +kernel, rfl, by decide +kernel, by decide +kernel⟩
abbrev s__law_tried : Stmt := top 21
abbrev N_law_tried : List Str := ["question", "a", "b", "e"]
theorem sc_law_tried : FnScope N_law_tried ["question", "a", "b"] (defScope s__law_tried) := ⟨rfl, rfl, rfl, by decide +kernel, rfl, by decide +kernel, by decide +kernel⟩
abbrev s__law_second_part : Stmt := top 31
abbrev N_law_second_part : List Str := ["script", "p", "d", "x", "copies", "total", "product", "e", "actual", "q", "r"]
theorem sc_law_second_part : FnScope N_law_second_part ["script"] (defScope s__law_second_part) := ⟨rfl, rfl, rfl, by decide +kernel, rfl, by decide +kernel, by decide +kernel⟩
abbrev s__law_first_part : Stmt := top 22
abbrev N_law_first_part : List Str := ["script", "a", "b", "c", "odd", "due", "bad", "k"]
theorem sc_law_first_part : FnScope N_law_first_part ["script"] (defScope s__law_first_part) := ⟨rfl, rfl, rfl, by decide +kernel, rfl, by decide +kernel, by decide +kernel⟩
abbrev s_law : Stmt := top 32
abbrev Nlaw : List Str := ["script"]
theorem sclaw : FnScope Nlaw ["script"] (defScope s_law) := ⟨rfl, rfl, rfl, by decide +kernel, rfl, by decide +kernel, by decide +kernel⟩
/-- what the top has left -/
structure Txt (K : PySem.W.Frag) (mg : Str → Option Value) (a : Nat → Addr) (d : Nat → FuncData) : Prop where
  d_check_symbols : DefAt K mg "check_symbols" s_check_symbols (a 0) (d 0) ["symbols"]
  d_reduced : DefAt K mg "reduced" s_reduced (a 1) (d 1) ["poly"]
  d_evaluate : DefAt K mg "evaluate" s_evaluate (a 2) (d 2) ["poly", "point"]
  d__law_cell : DefAt K mg "_law_cell" s__law_cell (a 3) (d 3) ["script", "k"]
  d__law_is_int : DefAt K mg "_law_is_int" s__law_is_int (a 4) (d 4) ["value"]
  d__law_times : DefAt K mg "_law_times" s__law_times (a 5) (d 5) ["a", "b"]
  d__law_mix : DefAt K mg "_law_mix" s__law_mix (a 6) (d 6) ["cell", "k"]
  d__law_times_too : DefAt K mg "_law_times_too" s__law_times_too (a 7) (d 7) ["a", "b"]
  d__law_reduced : DefAt K mg "_law_reduced" s__law_reduced (a 8) (d 8) ["poly"]
  d_add : DefAt K mg "add" s_add (a 9) (d 9) ["a", "b"]
  d_multiply : DefAt K mg "multiply" s_multiply (a 10) (d 10) ["a", "b"]
  d_inverse : DefAt K mg "inverse" s_inverse (a 11) (d 11) ["a"]
  d_add_polynomials : DefAt K mg "add_polynomials" s_add_polynomials (a 12) (d 12) ["first", "second"]
  d_multiply_polynomials : DefAt K mg "multiply_polynomials" s_multiply_polynomials (a 13) (d 13) ["first", "second"]
  d_divide : DefAt K mg "divide" s_divide (a 14) (d 14) ["poly", "divisor"]
  d__law_row : DefAt K mg "_law_row" s__law_row (a 15) (d 15) ["cell", "count", "bound"]
  d__law_is_list : DefAt K mg "_law_is_list" s__law_is_list (a 16) (d 16) ["value", "least", "greatest"]
  d__law_value_at : DefAt K mg "_law_value_at" s__law_value_at (a 17) (d 17) ["poly", "point"]
  d__law_product : DefAt K mg "_law_product" s__law_product (a 18) (d 18) ["first", "second"]
  d__law_sum : DefAt K mg "_law_sum" s__law_sum (a 19) (d 19) ["first", "second"]
  d__law_tried : DefAt K mg "_law_tried" s__law_tried (a 20) (d 20) ["question", "a", "b"]
  d__law_second_part : DefAt K mg "_law_second_part" s__law_second_part (a 21) (d 21) ["script"]
  d__law_first_part : DefAt K mg "_law_first_part" s__law_first_part (a 22) (d 22) ["script"]
  d_law : DefAt K mg "law" s_law (a 23) (d 23) ["script"]
  b_abs : mg "abs" = none
  b_bool : mg "bool" = none
  b_enumerate : mg "enumerate" = none
  b_int : mg "int" = none
  b_isinstance : mg "isinstance" = none
  b_len : mg "len" = none
  b_list : mg "list" = none
  b_max : mg "max" = none
  b_range : mg "range" = none
  b_reversed : mg "reversed" = none
  b_tuple : mg "tuple" = none
  b_zip : mg "zip" = none
  c_INVERSES : ∃ q, mg "INVERSES" = some (.ref q) ∧ ∀ H, R K mg H (.ref q) (enc k_INVERSES)
  c_PRODUCTS : ∃ q, mg "PRODUCTS" = some (.ref q) ∧ ∀ H, R K mg H (.ref q) (enc k_PRODUCTS)
  c_SYMBOLS : ∃ t, mg "SYMBOLS" = some (.int 16 t)
  e_InvalidSymbol : ExcCls K mg "InvalidSymbol"
  n_ArchiveError : EEx K mg k_tab "ArchiveError"
  i_InvalidSymbol : IEx K mg k_tab "InvalidSymbol"
section
variable {P : Program} {w : World} {K : PySem.W.Frag} {mg : Str → Option Value} {base : Heap} {a : Nat → Addr} {d : Nat → FuncData}
theorem G_check_symbols (T : Txt K mg a d) : FnOk P w K mg base (L2N.CX P w) 1 (a 0) (d 0) ["symbols"] (spF K mg ((eCons eNil) : (Tup Int) × Unit → List D) (fun r : Unit => O.imm (enc r)) (fun x : (Tup Int) × Unit => m_check_symbols x.1)) := by
  refine fn_ok T.d_check_symbols.F sccheck_symbols (fun _ => rfl) fun cdv Ar outer s H E hr X hX x => ?_
  subst hX
  obtain ⟨p_symbols, _⟩ := x
  show VS _ _ _ _ _ (m_check_symbols p_symbols)
  unfold m_check_symbols
  exact (vs_forS (b := (fun (s1 : Unit) (a2 : Int) => (if ((decide (a2 < (0 : Int))) || (decide (a2 ≥ (16 : Int)))) then (M.exc ⟨"InvalidSymbol", []⟩) else (M.ok ())))) (k := (fun s1 : Unit => (M.ok ()))) (fun s1 : Unit => [sI (p_symbols : (Tup Int)), .any]) () (passes_of rfl) rfl (VI.congr (vi_tup (ve_var (a := p_symbols) 0)) ((by simp only [M.bind_assoc, M.ok_bind]) : _ = M.ok ((p_symbols).l))) (vg_name (α := Int) (n := 2) 1 (sccheck_symbols).nd) (fun s1 a2 => (vs_ifxp (x := ((decide (a2 < (0 : Int))) || (decide (a2 ≥ (16 : Int))))) (VT.congr ((vw_or_p (vt_cmpI op_lt (ve_var (a := a2) 1) ve_int (nomark _)) (vw_or1 (vt_cmpI op_ge (ve_var (a := a2) 1) (ve_gint T.c_SYMBOLS (by rfl)) (nomark _))))).vt (by simp only [M.bind_assoc, M.ok_bind])) (vs_raiseT T.e_InvalidSymbol rfl (sub_anys _)) (vs_nil (t := ()) (by exact (.eq (.any .nil)))) (sub_anys _))) (fun s1 => (vs_nil (t := ()) (by exact rfl))) (by exact (.eq (.any .nil))) (sub_anys _))
theorem G_reduced (T : Txt K mg a d) : FnOk P w K mg base (L2N.CX P w) 1 (a 1) (d 1) ["poly"] (spF K mg ((eCons eNil) : (List Int) × Unit → List D) (ow1 : List Int → O) (fun x : (List Int) × Unit => m_reduced x.1)) := by
  refine fn_ok T.d_reduced.F screduced (fun _ => rfl) fun cdv Ar outer s H E hr X hX x => ?_
  subst hX
  obtain ⟨p_poly, _⟩ := x
  show VS _ _ _ _ _ (m_reduced p_poly)
  unfold m_reduced
  exact (vs_set 1 (screduced).nd (VX.congr (ve_len T.b_len (ve_var (a := p_poly) 0)) (by simp only [M.bind_assoc, M.ok_bind])) (fun size_3 => (vs_whileS (mc := (fun s4 : Int => (bAnd (M.ok (decide (s4 > (0 : Int)))) ((getI p_poly (s4 - (1 : Int))) >>= fun x5 => M.ok (decide (x5 = (0 : Int))))))) (b := (fun s4 : Int => ((fun size_6 : Int => (M.ok size_6)) (s4 - (1 : Int))))) (k := (fun s4 : Int => ((M.ok (cutL p_poly none (some s4))) >>= fun r => M.ok r))) (fun s4 : Int => [sI (p_poly : (List Int)), sI (s4 : Int)]) size_3 (p_poly.length + 1) (passes_of rfl) (fun s4 => VT.congr ((vw_and (vt_cmpI op_gt (ve_var (a := s4) 1) ve_int (nomark _)) (vw_and1 (vt_eq (ve_idx (ve_var (a := p_poly) 0) (ve_binI op_sub (ve_var (a := s4) 1) ve_int)) ve_int)))).vt rfl) (fun s4 => (vs_augI (a := s4) (k := (fun size_6 : Int => (M.ok size_6))) 1 (screduced).nd iop_sub (VX.congr ve_int ((by simp only [M.bind_assoc, M.ok_bind]) : _ = (M.ok (1 : Int)))) (fun size_6 => (vs_nil (t := size_6) (by exact (.eq (.eq .nil))))) (sub_anys _))) (fun s4 => (vs_retO (f := fun r => r) (VO.congr (vo_list T.b_list ((vo_sl (ve_var (a := p_poly) 0) vp_none (vp_some (ve_var (a := s4) 1)))).ve1) (by simp only [M.bind_assoc, M.ok_bind])) (fun r => by exact rfl) (sub_anys _))) (by exact (.eq (.eq .nil))) (fun _ => (sub_anys _)))) (sub_anys _))
theorem G_evaluate (T : Txt K mg a d) : FnOk P w K mg base (L2N.CX P w) 1 (a 2) (d 2) ["poly", "point"] (spF K mg ((eCons (eCons eNil)) : (List Int) × Int × Unit → List D) (fun r : Int => O.imm (enc r)) (fun x : (List Int) × Int × Unit => m_evaluate x.1 x.2.1)) := by
  refine fn_ok T.d_evaluate.F scevaluate (fun _ => rfl) fun cdv Ar outer s H E hr X hX x => ?_
  subst hX
  obtain ⟨p_poly, p_point, _⟩ := x
  show VS _ _ _ _ _ (m_evaluate p_poly p_point)
  unfold m_evaluate
  exact (vs_set 2 (scevaluate).nd (VX.congr ve_int (by simp only [M.bind_assoc, M.ok_bind])) (fun value_8 => (vs_forS (b := (fun (s9 : Int) (a10 : Int) => ((((getI (k_PRODUCTS).l s9) >>= fun x11 => getI (x11).l p_point) >>= fun x12 => M.ok (Builtin.bitXor x12 a10)) >>= fun value_13 => (M.ok value_13)))) (k := (fun s9 : Int => (M.ok s9))) (fun s9 : Int => [sI (p_poly : (List Int)), sI (p_point : Int), sI (s9 : Int), .any]) value_8 (passes_of rfl) rfl (VI.congr (vi_rev T.b_reversed (ve_var (a := p_poly) 0)) ((by simp only [M.bind_assoc, M.ok_bind]) : _ = M.ok ((p_poly).reverse))) (vg_name (α := Int) (n := 4) 3 (scevaluate).nd) (fun s9 a10 => (vs_set 2 (scevaluate).nd (VX.congr (ve_binI op_xor (ve_idxT (ve_idxT (ve_gdat T.c_PRODUCTS (by rfl)) (ve_var (a := s9) 2)) (ve_var (a := p_point) 1)) (ve_var (a := a10) 3)) (by simp only [M.bind_assoc, M.ok_bind])) (fun value_13 => (vs_nil (t := value_13) (by exact (.eq (.eq (.eq (.any .nil))))))) (sub_anys _))) (fun s9 => (vs_retp (x := s9) (t := s9) (VX.congr (ve_var (a := s9) 2) (by simp only [M.bind_assoc, M.ok_bind])) (by exact rfl) (sub_anys _))) (by exact (.eq (.eq (.eq (.any .nil))))) (sub_anys _))) (sub_anys _))
theorem G__law_cell (T : Txt K mg a d) : FnOk P w K mg base (L2N.CX P w) 1 (a 3) (d 3) ["script", "k"] (spF K mg ((eCons (eCons eNil)) : (List Int) × Int × Unit → List D) (fun r : Int => O.imm (enc r)) (fun x : (List Int) × Int × Unit => m__law_cell x.1 x.2.1)) := by
  refine fn_ok T.d__law_cell.F sc_law_cell (fun _ => rfl) fun cdv Ar outer s H E hr X hX x => ?_
  subst hX
  obtain ⟨p_script, p_k, _⟩ := x
  show VS _ _ _ _ _ (m__law_cell p_script p_k)
  unfold m__law_cell
  exact (vs_ifxp (x := (decide (p_k < (p_script.length : Int)))) (VT.congr (vt_cmpI op_lt (ve_var (a := p_k) 1) (ve_len T.b_len (ve_var (a := p_script) 0)) (nomark _)) (by simp only [M.bind_assoc, M.ok_bind])) (vs_ret (f := fun r => r) (VX.congr (ve_toint T.b_int (ve_idx (ve_var (a := p_script) 0) (ve_var (a := p_k) 1))) (by simp only [M.bind_assoc, M.ok_bind])) (fun r => by exact rfl) (sub_anys _)) (vs_retp (x := (0 : Int)) (t := (0 : Int)) (VX.congr ve_int (by simp only [M.bind_assoc, M.ok_bind])) (by exact rfl) (sub_anys _)) (sub_anys _))
theorem G__law_is_int (T : Txt K mg a d) : FnOk P w K mg base (L2N.CX P w) 1 (a 4) (d 4) ["value"] (spF K mg ((eCons eNil) : Int × Unit → List D) (fun r : Bool => O.imm (enc r)) (fun x : Int × Unit => m__law_is_int x.1)) := by
  refine fn_ok T.d__law_is_int.F sc_law_is_int (fun _ => rfl) fun cdv Ar outer s H E hr X hX x => ?_
  subst hX
  obtain ⟨p_value, _⟩ := x
  show VS _ _ _ _ _ (m__law_is_int p_value)
  unfold m__law_is_int
  exact (vs_retp (x := (true && (!false))) (t := (true && (!false))) (VX.congr (ve_and_p (ve_isiS (n := "int") "int" true T.b_isinstance T.b_int (ve_var (a := p_value) 0) (fun _ => rfl) (by decide +kernel)) (ve_one (ve_not (ve_isiS (n := "bool") "int" false T.b_isinstance T.b_bool (ve_var (a := p_value) 0) (fun _ => rfl) (by decide +kernel))))) (by simp only [M.bind_assoc, M.ok_bind])) (by exact rfl) (sub_anys _))
theorem G__law_times (T : Txt K mg a d) : FnOk P w K mg base (L2N.CX P w) 1 (a 5) (d 5) ["a", "b"] (spF K mg ((eCons (eCons eNil)) : Int × Int × Unit → List D) (fun r : Int => O.imm (enc r)) (fun x : Int × Int × Unit => m__law_times x.1 x.2.1)) := by
  refine fn_ok T.d__law_times.F sc_law_times (fun _ => rfl) fun cdv Ar outer s H E hr X hX x => ?_
  subst hX
  obtain ⟨p_a, p_b, _⟩ := x
  show VS _ _ _ _ _ (m__law_times p_a p_b)
  unfold m__law_times
  exact (vs_set 2 (sc_law_times).nd (VX.congr ve_int (by simp only [M.bind_assoc, M.ok_bind])) (fun total_14 => (vs_set 3 (sc_law_times).nd (VX.congr (ve_var (a := p_a) 0) (by simp only [M.bind_assoc, M.ok_bind])) (fun factor_15 => (vs_forS (b := (fun (s16 : Int × Int) (a17 : Int) => ((((chk (0 ≤ a17) >>= fun _ => M.ok (p_b / 2 ^ (a17).toNat)) >>= fun x18 => M.ok (Builtin.bitAnd x18 (1 : Int))) >>= fun x19 => M.ok (decide (x19 = (1 : Int)))) >>= fun c24 => (if c24 then ((M.ok (Builtin.bitXor s16.1 s16.2)) >>= fun total_21 => (M.ok total_21)) else (M.ok s16.1) : (M (Int))) >>= (fun s20 : Int => ((M.ok (s16.2 * (2 : Int))) >>= fun factor_22 => (if (decide (factor_22 > (15 : Int))) then ((M.ok (Builtin.bitXor factor_22 (19 : Int))) >>= fun factor_23 => (M.ok (s20, factor_23))) else (M.ok (s20, factor_22)))))))) (k := (fun s16 : Int × Int => (M.ok s16.1))) (fun s16 : Int × Int => [sI (p_a : Int), sI (p_b : Int), sI (s16.1 : Int), sI (s16.2 : Int), .any]) (total_14, factor_15) (passes_of rfl) rfl (VI.congr (vi_rangeK T.b_range ve_int (by decide)) ((by simp only [M.bind_assoc, M.ok_bind]) : _ = M.ok (rng 0 (4 : Int)))) (vg_name (α := Int) (n := 5) 4 (sc_law_times).nd) (fun s16 a17 => (vs_ifj (fun s20 : Int => [sI (p_a : Int), sI (p_b : Int), sI (s20 : Int), sI (s16.2 : Int), sI (a17 : Int)]) (VT.congr (vt_eq (ve_binI op_and (ve_shr (ve_var (a := p_b) 1) (ve_var (a := a17) 4)) ve_int) ve_int) (by simp only [M.bind_assoc, M.ok_bind])) (vs_set 2 (sc_law_times).nd (VX.congr (ve_binI op_xor (ve_var (a := s16.1) 2) (ve_var (a := s16.2) 3)) (by simp only [M.bind_assoc, M.ok_bind])) (fun total_21 => (vs_nil (t := total_21) (by exact (.eq (.eq (.eq (.eq (.eq .nil)))))))) (sub_anys _)) (vs_nil (t := s16.1) (by exact (.eq (.eq (.eq (.eq (.eq .nil))))))) (fun s20 => (vs_set 3 (sc_law_times).nd (VX.congr (ve_mulR (ve_var (a := s16.2) 3) ve_int) (by simp only [M.bind_assoc, M.ok_bind])) (fun factor_22 => (vs_iflp (x := (decide (factor_22 > (15 : Int)))) (VT.congr (vt_cmpI op_gt (ve_var (a := factor_22) 3) ve_int (nomark _)) (by simp only [M.bind_assoc, M.ok_bind])) (vs_set 3 (sc_law_times).nd (VX.congr (ve_binI op_xor (ve_var (a := factor_22) 3) ve_int) (by simp only [M.bind_assoc, M.ok_bind])) (fun factor_23 => (vs_nil (t := (s20, factor_23)) (by exact (.eq (.eq (.eq (.eq (.any .nil)))))))) (sub_anys _)) (vs_nil (t := (s20, factor_22)) (by exact (.eq (.eq (.eq (.eq (.any .nil))))))) (sub_anys _))) (sub_anys _))) (sub_anys _))) (fun s16 => (vs_retp (x := s16.1) (t := s16.1) (VX.congr (ve_var (a := s16.1) 2) (by simp only [M.bind_assoc, M.ok_bind])) (by exact rfl) (sub_anys _))) (by exact (.eq (.eq (.eq (.eq (.any .nil)))))) (sub_anys _))) (sub_anys _))) (sub_anys _))
theorem G__law_mix (T : Txt K mg a d) : FnOk P w K mg base (L2N.CX P w) 1 (a 6) (d 6) ["cell", "k"] (spF K mg ((eCons (eCons eNil)) : Int × Int × Unit → List D) (fun r : Int => O.imm (enc r)) (fun x : Int × Int × Unit => m__law_mix x.1 x.2.1)) := by
  refine fn_ok T.d__law_mix.F sc_law_mix (fun _ => rfl) fun cdv Ar outer s H E hr X hX x => ?_
  subst hX
  obtain ⟨p_cell, p_k, _⟩ := x
  show VS _ _ _ _ _ (m__law_mix p_cell p_k)
  unfold m__law_mix
  exact (vs_set 2 (sc_law_mix).nd (VX.congr (ve_modK (ve_toint T.b_int (ve_binI op_add (ve_binI op_add (ve_mulR (ve_var (a := p_cell) 0) ve_int) (ve_mulR (ve_var (a := p_k) 1) ve_int)) ve_int)) ve_int) (by simp only [M.bind_assoc, M.ok_bind])) (fun number_25 => (vs_set 2 (sc_law_mix).nd (VX.congr (ve_modK (ve_toint T.b_int (ve_binI op_add (ve_binI op_add (ve_mulR (ve_var (a := number_25) 2) ve_int) (ve_mulR (ve_var (a := p_k) 1) ve_int)) ve_int)) ve_int) (by simp only [M.bind_assoc, M.ok_bind])) (fun number_26 => (vs_retp (x := (number_26 / (997 : Int))) (t := (number_26 / (997 : Int))) (VX.congr (ve_divK (ve_var (a := number_26) 2) ve_int) (by simp only [M.bind_assoc, M.ok_bind])) (by exact rfl) (sub_anys _))) (sub_anys _))) (sub_anys _))
theorem G__law_times_too (T : Txt K mg a d) : FnOk P w K mg base (L2N.CX P w) 1 (a 7) (d 7) ["a", "b"] (spF K mg ((eCons (eCons eNil)) : Int × Int × Unit → List D) (fun r : Int => O.imm (enc r)) (fun x : Int × Int × Unit => m__law_times_too x.1 x.2.1)) := by
  refine fn_ok T.d__law_times_too.F sc_law_times_too (fun _ => rfl) fun cdv Ar outer s H E hr X hX x => ?_
  subst hX
  obtain ⟨p_a, p_b, _⟩ := x
  show VS _ _ _ _ _ (m__law_times_too p_a p_b)
  unfold m__law_times_too
  exact (vs_ifxp (x := ((decide (p_a = (0 : Int))) || (decide (p_b = (0 : Int))))) (VT.congr ((vw_or_p (vt_eq (ve_var (a := p_a) 0) ve_int) (vw_or1 (vt_eq (ve_var (a := p_b) 1) ve_int)))).vt (by simp only [M.bind_assoc, M.ok_bind])) (vs_retp (x := (0 : Int)) (t := (0 : Int)) (VX.congr ve_int (by simp only [M.bind_assoc, M.ok_bind])) (by exact rfl) (sub_anys _)) (vs_set 2 (sc_law_times_too).nd (VX.congr (ve_tupK (l := [(0 : Int), (0 : Int), (1 : Int), (4 : Int), (2 : Int), (8 : Int), (5 : Int), (10 : Int), (3 : Int), (14 : Int), (9 : Int), (7 : Int), (6 : Int), (13 : Int), (11 : Int), (12 : Int)])) (by simp only [M.bind_assoc, M.ok_bind])) (fun logs_27 => (vs_ret (f := fun r => r) (VX.congr (ve_idxT (ve_tupK (l := [(1 : Int), (2 : Int), (4 : Int), (8 : Int), (3 : Int), (6 : Int), (12 : Int), (11 : Int), (5 : Int), (10 : Int), (7 : Int), (14 : Int), (15 : Int), (13 : Int), (9 : Int)])) (ve_modK (ve_binI op_add (ve_idxT (ve_var (a := logs_27) 2) (ve_var (a := p_a) 0)) (ve_idxT (ve_var (a := logs_27) 2) (ve_var (a := p_b) 1))) ve_int)) (by simp only [M.bind_assoc, M.ok_bind])) (fun r => by exact rfl) (sub_anys _))) (sub_anys _)) (sub_anys _))
theorem G__law_reduced (T : Txt K mg a d) : FnOk P w K mg base (L2N.CX P w) 1 (a 8) (d 8) ["poly"] (spF K mg ((eCons eNil) : (List Int) × Unit → List D) (ow1 : List Int → O) (fun x : (List Int) × Unit => m__law_reduced x.1)) := by
  refine fn_ok T.d__law_reduced.F sc_law_reduced (fun _ => rfl) fun cdv Ar outer s H E hr X hX x => ?_
  subst hX
  obtain ⟨p_poly, _⟩ := x
  show VS _ _ _ _ _ (m__law_reduced p_poly)
  unfold m__law_reduced
  exact (vs_set 1 (sc_law_reduced).nd (VX.congr (ve_len T.b_len (ve_var (a := p_poly) 0)) (by simp only [M.bind_assoc, M.ok_bind])) (fun size_32 => (vs_forS (b := (fun (s33 : Int) (a34 : Int) => ((bAnd (M.ok (decide (s33 > (0 : Int)))) ((getI p_poly (s33 - (1 : Int))) >>= fun x35 => M.ok (decide (x35 = (0 : Int))))) >>= fun c37 => if c37 then ((M.ok (s33 - (1 : Int))) >>= fun size_36 => (M.ok size_36)) else (M.ok s33)))) (k := (fun s33 : Int => ((M.ok (cutL p_poly none (some s33))) >>= fun r => M.ok r))) (fun s33 : Int => [sI (p_poly : (List Int)), sI (s33 : Int), .any]) size_32 (passes_of rfl) rfl (VI.congr (vi_range1 T.b_range (ve_len T.b_len (ve_var (a := p_poly) 0))) ((by simp only [M.bind_assoc, M.ok_bind]) : _ = (chk (rOk (p_poly.length : Int)) >>= fun _ => M.ok (rng 0 (p_poly.length : Int))))) (vg_name (α := Int) (n := 3) 2 (sc_law_reduced).nd) (fun s33 a34 => (vs_ifl (VT.congr ((vw_and (vt_cmpI op_gt (ve_var (a := s33) 1) ve_int (nomark _)) (vw_and1 (vt_eq (ve_idx (ve_var (a := p_poly) 0) (ve_binI op_sub (ve_var (a := s33) 1) ve_int)) ve_int)))).vt (by simp only [M.bind_assoc, M.ok_bind])) (vs_set 1 (sc_law_reduced).nd (VX.congr (ve_binI op_sub (ve_var (a := s33) 1) ve_int) (by simp only [M.bind_assoc, M.ok_bind])) (fun size_36 => (vs_nil (t := size_36) (by exact (.eq (.eq (.any .nil)))))) (sub_anys _)) (vs_nil (t := s33) (by exact (.eq (.eq (.any .nil))))) (sub_anys _))) (fun s33 => (vs_retO (f := fun r => r) (VO.congr (vo_sl (ve_var (a := p_poly) 0) vp_none (vp_some (ve_var (a := s33) 1))) (by simp only [M.bind_assoc, M.ok_bind])) (fun r => by exact rfl) (sub_anys _))) (by exact (.eq (.eq (.any .nil)))) (sub_anys _))) (sub_anys _))
theorem H__law_reduced (T : Txt K mg a d) : L2H.FnH P w K mg base (L2N.CX P w) 1 (a 8) (d 8) ["poly"] (spF K mg ((eCons eNil) : (List Int) × Unit → List D) (ow1 : List Int → O) (fun x : (List Int) × Unit => m__law_reduced x.1)) := by
  refine fn_okH T.d__law_reduced.F sc_law_reduced (fun _ => rfl) fun cdv Ar outer s H E p hr X hX hc x => ?_
  subst hX
  obtain ⟨p_poly, _⟩ := x
  show VS _ _ _ _ _ (m__law_reduced p_poly)
  unfold m__law_reduced
  exact (vs_set 1 (sc_law_reduced).nd (VX.congr (ve_len T.b_len (ve_var (a := p_poly) 0)) (by simp only [M.bind_assoc, M.ok_bind])) (fun size_246 => (vs_forSH (b := (fun (s247 : Int) (a248 : Int) => ((bAnd (M.ok (decide (s247 > (0 : Int)))) ((getI p_poly (s247 - (1 : Int))) >>= fun x249 => M.ok (decide (x249 = (0 : Int))))) >>= fun c251 => if c251 then ((M.ok (s247 - (1 : Int))) >>= fun size_250 => (M.ok size_250)) else (M.ok s247)))) (k := (fun s247 : Int => ((M.ok (cutL p_poly none (some s247))) >>= fun r => M.ok r))) (fun s247 : Int => [sI (p_poly : (List Int)), sI (s247 : Int), .any]) size_246 (passes_of rfl) hc (VIH.congr (vih_range1 T.b_range (ve_len T.b_len (ve_var (a := p_poly) 0))) ((by simp only [M.bind_assoc, M.ok_bind]) : _ = (chk (rOk (p_poly.length : Int)) >>= fun _ => M.ok (rng 0 (p_poly.length : Int))))) (vg_name (α := Int) (n := 3) 2 (sc_law_reduced).nd) (fun s247 a248 => (vs_ifl (VT.congr ((vw_and (vt_cmpI op_gt (ve_var (a := s247) 1) ve_int (nomark _)) (vw_and1 (vt_eq (ve_idx (ve_var (a := p_poly) 0) (ve_binI op_sub (ve_var (a := s247) 1) ve_int)) ve_int)))).vt (by simp only [M.bind_assoc, M.ok_bind])) (vs_set 1 (sc_law_reduced).nd (VX.congr (ve_binI op_sub (ve_var (a := s247) 1) ve_int) (by simp only [M.bind_assoc, M.ok_bind])) (fun size_250 => (vs_nil (t := size_250) (by exact (.eq (.eq (.any .nil)))))) (sub_anys _)) (vs_nil (t := s247) (by exact (.eq (.eq (.any .nil))))) (sub_anys _))) (fun s247 => (vs_retO (f := fun r => r) (VO.congr (vo_sl (ve_var (a := p_poly) 0) vp_none (vp_some (ve_var (a := s247) 1))) (by simp only [M.bind_assoc, M.ok_bind])) (fun r => by exact rfl) (sub_anys _))) (by exact (.eq (.eq (.any .nil)))) (sub_anys _))) (sub_anys _))
theorem G_add (T : Txt K mg a d) : FnOk P w K mg base (L2N.CX P w) 2 (a 9) (d 9) ["a", "b"] (spF K mg ((eCons (eCons eNil)) : Int × Int × Unit → List D) (fun r : Int => O.imm (enc r)) (fun x : Int × Int × Unit => m_add x.1 x.2.1)) := by
  refine fn_ok T.d_add.F scadd (fun _ => rfl) fun cdv Ar outer s H E hr X hX x => ?_
  subst hX
  obtain ⟨p_a, p_b, _⟩ := x
  show VS _ _ _ _ _ (m_add p_a p_b)
  unfold m_add
  exact (vs_expr (VX.congr (ve_call (G_check_symbols T) hr T.d_check_symbols.g T.d_check_symbols.F.kp T.d_check_symbols.b (va_cons (ve_tup (fun x : Int × Int × Unit => (⟨[x.1, x.2.1]⟩ : (Tup Int))) (va_cons (ve_var (a := p_a) 0) (va_cons (ve_var (a := p_b) 1) va_nil))) va_nil)) (by simp only [M.bind_assoc, M.ok_bind])) (vs_retp (x := (Builtin.bitXor p_a p_b)) (t := (Builtin.bitXor p_a p_b)) (VX.congr (ve_binI op_xor (ve_var (a := p_a) 0) (ve_var (a := p_b) 1)) (by simp only [M.bind_assoc, M.ok_bind])) (by exact rfl) (sub_anys _)) (sub_anys _))
theorem G_multiply (T : Txt K mg a d) : FnOk P w K mg base (L2N.CX P w) 2 (a 10) (d 10) ["a", "b"] (spF K mg ((eCons (eCons eNil)) : Int × Int × Unit → List D) (fun r : Int => O.imm (enc r)) (fun x : Int × Int × Unit => m_multiply x.1 x.2.1)) := by
  refine fn_ok T.d_multiply.F scmultiply (fun _ => rfl) fun cdv Ar outer s H E hr X hX x => ?_
  subst hX
  obtain ⟨p_a, p_b, _⟩ := x
  show VS _ _ _ _ _ (m_multiply p_a p_b)
  unfold m_multiply
  exact (vs_expr (VX.congr (ve_call (G_check_symbols T) hr T.d_check_symbols.g T.d_check_symbols.F.kp T.d_check_symbols.b (va_cons (ve_tup (fun x : Int × Int × Unit => (⟨[x.1, x.2.1]⟩ : (Tup Int))) (va_cons (ve_var (a := p_a) 0) (va_cons (ve_var (a := p_b) 1) va_nil))) va_nil)) (by simp only [M.bind_assoc, M.ok_bind])) (vs_ret (f := fun r => r) (VX.congr (ve_idxT (ve_idxT (ve_gdat T.c_PRODUCTS (by rfl)) (ve_var (a := p_a) 0)) (ve_var (a := p_b) 1)) (by simp only [M.bind_assoc, M.ok_bind])) (fun r => by exact rfl) (sub_anys _)) (sub_anys _))
theorem G_inverse (T : Txt K mg a d) : FnOk P w K mg base (L2N.CX P w) 2 (a 11) (d 11) ["a"] (spF K mg ((eCons eNil) : Int × Unit → List D) (fun r : Int => O.imm (enc r)) (fun x : Int × Unit => m_inverse x.1)) := by
  refine fn_ok T.d_inverse.F scinverse (fun _ => rfl) fun cdv Ar outer s H E hr X hX x => ?_
  subst hX
  obtain ⟨p_a, _⟩ := x
  show VS _ _ _ _ _ (m_inverse p_a)
  unfold m_inverse
  exact (vs_expr (VX.congr (ve_call (G_check_symbols T) hr T.d_check_symbols.g T.d_check_symbols.F.kp T.d_check_symbols.b (va_cons (ve_tup (fun x : Int × Unit => (⟨[x.1]⟩ : (Tup Int))) (va_cons (ve_var (a := p_a) 0) va_nil)) va_nil)) (by simp only [M.bind_assoc, M.ok_bind])) (vs_ifxp (x := (decide (p_a = (0 : Int)))) (VT.congr (vt_eq (ve_var (a := p_a) 0) ve_int) (by simp only [M.bind_assoc, M.ok_bind])) (vs_raiseT T.e_InvalidSymbol rfl (sub_anys _)) (vs_ret (f := fun r => r) (VX.congr (ve_idxT (ve_gdat T.c_INVERSES (by rfl)) (ve_var (a := p_a) 0)) (by simp only [M.bind_assoc, M.ok_bind])) (fun r => by exact rfl) (sub_anys _)) (sub_anys _)) (sub_anys _))
theorem G_add_polynomials (T : Txt K mg a d) : FnOk P w K mg base (L2N.CX P w) 2 (a 12) (d 12) ["first", "second"] (spF K mg ((eCons (eCons eNil)) : (List Int) × (List Int) × Unit → List D) (ow1 : List Int → O) (fun x : (List Int) × (List Int) × Unit => m_add_polynomials x.1 x.2.1)) := by
  refine fn_ok T.d_add_polynomials.F scadd_polynomials (fun _ => rfl) fun cdv Ar outer s H E hr X hX x => ?_
  subst hX
  obtain ⟨p_first, p_second, _⟩ := x
  show VS _ _ _ _ _ (m_add_polynomials p_first p_second)
  unfold m_add_polynomials
  exact (vs_set 2 (scadd_polynomials).nd (VX.congr (ve_max2 rfl T.b_max (ve_len T.b_len (ve_var (a := p_first) 0)) (ve_len T.b_len (ve_var (a := p_second) 1))) (by simp only [M.bind_assoc, M.ok_bind])) (fun size_40 => (vs_set 3 (scadd_polynomials).nd (VX.congr ((vo_cat ((vo_list T.b_list (ve_var (a := p_first) 0))).ve1 ((vo_rep ((vo_lst (fun x : Int × Unit => ([x.1] : List Int)) (va_cons ve_int va_nil))).ve1 (ve_binI op_sub (ve_var (a := size_40) 2) (ve_len T.b_len (ve_var (a := p_first) 0))))).ve1)).ve1 (by simp only [M.bind_assoc, M.ok_bind])) (fun left_42 => (vs_set 4 (scadd_polynomials).nd (VX.congr ((vo_cat ((vo_list T.b_list (ve_var (a := p_second) 1))).ve1 ((vo_rep ((vo_lst (fun x : Int × Unit => ([x.1] : List Int)) (va_cons ve_int va_nil))).ve1 (ve_binI op_sub (ve_var (a := size_40) 2) (ve_len T.b_len (ve_var (a := p_second) 1))))).ve1)).ve1 (by simp only [M.bind_assoc, M.ok_bind])) (fun right_44 => (vs_retO (f := fun r => r) (VO.congr (vo_call (G_reduced T) hr T.d_reduced.g T.d_reduced.F.kp T.d_reduced.b (va_cons ((vo_lc [("a", 5), ("b", 6)] rfl (scadd_polynomials).nd (vi_zip T.b_zip (ve_var (a := left_42) 3) (ve_var (a := right_44) 4)) (blkOk_by (N := Nadd_polynomials) (sc := defScope s_add_polynomials) (by decide +kernel)) (fun _ _ _ _ _ => (vg_tup (fun x : (Int × Int) => (x.1, x.2, ())) rfl (vgs_cons (vg_name (α := Int) (n := 7) 5 (scadd_polynomials).nd) (vgs_cons (vg_name (α := Int) (n := 7) 6 (scadd_polynomials).nd) vgs_nil)) (fun _ => rfl) (fun _ => rfl))) (fun (a45 : (Int × Int)) _ _ _ _ _ => (vk_nil : VK _ _ _ (M.ok true))) (fun (a45 : (Int × Int)) _ _ _ _ _ => (VX.congr (ve_binI op_xor (ve_var (a := a45.1) 5) (ve_var (a := a45.2) 6)) (by simp only [M.bind_assoc, M.ok_bind]) : VE _ _ _ (M.ok (Builtin.bitXor a45.1 a45.2)))))).ve1 va_nil)) (by simp only [M.bind_assoc, M.ok_bind])) (fun r => by exact rfl) (sub_anys _))) (sub_anys _))) (sub_anys _))) (sub_anys _))
theorem G_multiply_polynomials (T : Txt K mg a d) : FnOk P w K mg base (L2N.CX P w) 2 (a 13) (d 13) ["first", "second"] (spF K mg ((eCons (eCons eNil)) : (List Int) × (List Int) × Unit → List D) (ow1 : List Int → O) (fun x : (List Int) × (List Int) × Unit => m_multiply_polynomials x.1 x.2.1)) := by
  refine fn_ok T.d_multiply_polynomials.F scmultiply_polynomials (fun _ => rfl) fun cdv Ar outer s H E hr X hX x => ?_
  subst hX
  obtain ⟨p_first, p_second, _⟩ := x
  show VS _ _ _ _ _ (m_multiply_polynomials p_first p_second)
  unfold m_multiply_polynomials
  exact (vs_setO 2 (scmultiply_polynomials).nd (VO.congr (vo_rep ((vo_lst (fun x : Int × Unit => ([x.1] : List Int)) (va_cons ve_int va_nil))).ve1 (ve_binI op_add (ve_len T.b_len (ve_var (a := p_first) 0)) (ve_len T.b_len (ve_var (a := p_second) 1)))) (by simp only [M.bind_assoc, M.ok_bind])) (fun result_47 => (vs_forS (b := (fun (s48 : (List Int)) (a49 : (Int × Int)) => (loopS (fun (s50 : (List Int)) (a51 : (Int × Int)) => (getI s50 (a49.1 + a51.1) >>= fun x54 => ((getI (k_PRODUCTS).l a49.2) >>= fun x52 => getI (x52).l a51.2) >>= fun x55 => setL s50 (a49.1 + a51.1) (Builtin.bitXor x54 x55) >>= fun result_53 => (M.ok result_53))) (enumL p_second) s48 >>= (fun s50 : (List Int) => (M.ok s50))))) (k := (fun s48 : (List Int) => ((m_reduced s48) >>= fun r => M.ok r))) (fun s48 : (List Int) => [sI (p_first : (List Int)), sI (p_second : (List Int)), sO (s48 : List Int), .any, .any, .any, .any]) result_47 (passes_of rfl) rfl (VI.congr (vi_enum T.b_enumerate (ve_var (a := p_first) 0)) ((by simp only [M.bind_assoc, M.ok_bind]) : _ = M.ok (enumL p_first))) (vg_tup (fun x : (Int × Int) => (x.1, x.2, ())) rfl (vgs_cons (vg_name (α := Int) (n := 7) 3 (scmultiply_polynomials).nd) (vgs_cons (vg_name (α := Int) (n := 7) 4 (scmultiply_polynomials).nd) vgs_nil)) (fun _ => rfl) (fun _ => rfl)) (fun s48 a49 => (vs_forS (b := (fun (s50 : (List Int)) (a51 : (Int × Int)) => (getI s50 (a49.1 + a51.1) >>= fun x54 => ((getI (k_PRODUCTS).l a49.2) >>= fun x52 => getI (x52).l a51.2) >>= fun x55 => setL s50 (a49.1 + a51.1) (Builtin.bitXor x54 x55) >>= fun result_53 => (M.ok result_53)))) (k := (fun s50 : (List Int) => (M.ok s50))) (fun s50 : (List Int) => [sI (p_first : (List Int)), sI (p_second : (List Int)), sO (s50 : List Int), sI (a49.1 : Int), sI (a49.2 : Int), .any, .any]) s48 (passes_of rfl) rfl (VI.congr (vi_enum T.b_enumerate (ve_var (a := p_second) 1)) ((by simp only [M.bind_assoc, M.ok_bind]) : _ = M.ok (enumL p_second))) (vg_tup (fun x : (Int × Int) => (x.1, x.2, ())) rfl (vgs_cons (vg_name (α := Int) (n := 7) 5 (scmultiply_polynomials).nd) (vgs_cons (vg_name (α := Int) (n := 7) 6 (scmultiply_polynomials).nd) vgs_nil)) (fun _ => rfl) (fun _ => rfl)) (fun s50 a51 => (vs_augIt (l := s50) (f := (fun a b : Int => M.ok (Builtin.bitXor a b))) (k := fun result_53 : List Int => (M.ok result_53)) 2 iop_xor (fun x y H Q o => ⟨x, y, rfl, rfl, o⟩) (fun _ _ _ z => nomatch z) (VX.congr (ve_binI op_add (ve_var (a := a49.1) 3) (ve_var (a := a51.1) 5)) ((by simp only [M.bind_assoc, M.ok_bind]) : _ = (M.ok (a49.1 + a51.1)))) (VX.congr (ve_idxT (ve_idxT (ve_gdat T.c_PRODUCTS (by rfl)) (ve_var (a := a49.2) 4)) (ve_var (a := a51.2) 6)) ((by simp only [M.bind_assoc, M.ok_bind]) : _ = ((getI (k_PRODUCTS).l a49.2) >>= fun x52 => getI (x52).l a51.2))) (fun result_53 => (vs_nil (t := result_53) (by exact (.eq (.eq (.eq (.eq (.eq (.any (.any .nil)))))))))) (sub_anys _))) (fun s50 => (vs_nil (t := s50) (by exact (.eq (.eq (.eq (.any (.any (.any (.any .nil)))))))))) (by exact (.eq (.eq (.eq (.eq (.eq (.any (.any .nil)))))))) (sub_anys _))) (fun s48 => (vs_freeze1 (l := s48) 2 (vs_retO (f := fun r => r) (VO.congr (vo_call (G_reduced T) hr T.d_reduced.g T.d_reduced.F.kp T.d_reduced.b (va_cons (ve_var (a := s48) 2) va_nil)) (by simp only [M.bind_assoc, M.ok_bind])) (fun r => by exact rfl) (sub_anys _)))) (by exact (.eq (.eq (.eq (.any (.any (.any (.any .nil)))))))) (sub_anys _))) (sub_anys _))
theorem G_divide (T : Txt K mg a d) : FnOk P w K mg base (L2N.CX P w) 2 (a 14) (d 14) ["poly", "divisor"] (spF K mg ((eCons (eCons eNil)) : (List Int) × (List Int) × Unit → List D) (fun r : ((List Int) × (List Int)) => O.imm (enc r)) (fun x : (List Int) × (List Int) × Unit => m_divide x.1 x.2.1)) := by
  refine fn_ok T.d_divide.F scdivide (fun _ => rfl) fun cdv Ar outer s H E hr X hX x => ?_
  subst hX
  obtain ⟨p_poly, p_divisor, _⟩ := x
  show VS _ _ _ _ _ (m_divide p_poly p_divisor)
  unfold m_divide
  exact (vs_set 2 (scdivide).nd (VX.congr ((vo_call (G_reduced T) hr T.d_reduced.g T.d_reduced.F.kp T.d_reduced.b (va_cons (ve_var (a := p_divisor) 1) va_nil))).ve1 (by simp only [M.bind_assoc, M.ok_bind])) (fun small_57 => (vs_ifxp (x := (decide ((small_57.length : Int) = (0 : Int)))) (VT.congr (vt_eq (ve_len T.b_len (ve_var (a := small_57) 2)) ve_int) (by simp only [M.bind_assoc, M.ok_bind])) (vs_raiseT T.e_InvalidSymbol rfl (sub_anys _)) (vs_setO 3 (scdivide).nd (VO.congr (vo_call (G_reduced T) hr T.d_reduced.g T.d_reduced.F.kp T.d_reduced.b (va_cons (ve_var (a := p_poly) 0) va_nil)) (by simp only [M.bind_assoc, M.ok_bind])) (fun rest_58 => (vs_setO 4 (scdivide).nd (VO.congr (vo_rep ((vo_lst (fun x : Int × Unit => ([x.1] : List Int)) (va_cons ve_int va_nil))).ve1 (ve_max2 rfl T.b_max ve_int (ve_binI op_add (ve_binI op_sub (ve_len T.b_len (vb_own (l := rest_58) 3)) (ve_len T.b_len (ve_var (a := small_57) 2))) ve_int))) (by simp only [M.bind_assoc, M.ok_bind])) (fun quotient_59 => (vs_set 5 (scdivide).nd (VX.congr (ve_idxT (ve_gdat T.c_INVERSES (by rfl)) (ve_idx (ve_var (a := small_57) 2) (ve_neg ve_int))) (by simp only [M.bind_assoc, M.ok_bind])) (fun scale_61 => (vs_forS (b := (fun (s62 : (List Int) × (List Int)) (a63 : Int) => ((((getI s62.1 ((a63 + (small_57.length : Int)) - (1 : Int))) >>= fun x64 => getI (k_PRODUCTS).l x64) >>= fun x65 => getI (x65).l scale_61) >>= fun factor_66 => (setL s62.2 a63 factor_66 >>= fun quotient_67 => (loopS (fun (s68 : (List Int)) (a69 : (Int × Int)) => (getI s68 (a63 + a69.1) >>= fun x72 => ((getI (k_PRODUCTS).l factor_66) >>= fun x70 => getI (x70).l a69.2) >>= fun x73 => setL s68 (a63 + a69.1) (Builtin.bitXor x72 x73) >>= fun rest_71 => (M.ok rest_71))) (enumL small_57) s62.1 >>= (fun s68 : (List Int) => (M.ok (s68, quotient_67)))))))) (k := (fun s62 : (List Int) × (List Int) => (((m_reduced s62.2) >>= fun x75 => (m_reduced s62.1) >>= fun x76 => M.ok (x75, x76)) >>= fun r => M.ok r))) (fun s62 : (List Int) × (List Int) => [sI (p_poly : (List Int)), sI (p_divisor : (List Int)), sI (small_57 : (List Int)), sO (s62.1 : List Int), sO (s62.2 : List Int), sI (scale_61 : Int), .any, .any, .any, .any]) (rest_58, quotient_59) (passes_of rfl) rfl (VI.congr (vi_rangeD T.b_range (ve_binI op_sub (ve_len T.b_len (vb_own (l := quotient_59) 4)) ve_int) (ve_neg ve_int) (ve_neg ve_int)) ((by simp only [M.bind_assoc, M.ok_bind]) : _ = (chk (rOk ((quotient_59.length : Int) - (1 : Int)) ∧ rOk (-(1 : Int))) >>= fun _ => M.ok (rngD ((quotient_59.length : Int) - (1 : Int)) (-(1 : Int)))))) (vg_name (α := Int) (n := 10) 6 (scdivide).nd) (fun s62 a63 => (vs_set 7 (scdivide).nd (VX.congr (ve_idxT (ve_idxT (ve_gdat T.c_PRODUCTS (by rfl)) (ve_idx (vb_own (l := s62.1) 3) (ve_binI op_sub (ve_binI op_add (ve_var (a := a63) 6) (ve_len T.b_len (ve_var (a := small_57) 2))) ve_int))) (ve_var (a := scale_61) 5)) (by simp only [M.bind_assoc, M.ok_bind])) (fun factor_66 => (vs_setI (l := s62.2) (k := fun quotient_67 : List Int => (loopS (fun (s68 : (List Int)) (a69 : (Int × Int)) => (getI s68 (a63 + a69.1) >>= fun x72 => ((getI (k_PRODUCTS).l factor_66) >>= fun x70 => getI (x70).l a69.2) >>= fun x73 => setL s68 (a63 + a69.1) (Builtin.bitXor x72 x73) >>= fun rest_71 => (M.ok rest_71))) (enumL small_57) s62.1 >>= (fun s68 : (List Int) => (M.ok (s68, quotient_67))))) 4 (VX.congr (ve_var (a := factor_66) 7) ((by simp only [M.bind_assoc, M.ok_bind]) : _ = (M.ok factor_66))) (VX.congr (ve_var (a := a63) 6) ((by simp only [M.bind_assoc, M.ok_bind]) : _ = (M.ok a63))) (fun quotient_67 => (vs_forS (b := (fun (s68 : (List Int)) (a69 : (Int × Int)) => (getI s68 (a63 + a69.1) >>= fun x72 => ((getI (k_PRODUCTS).l factor_66) >>= fun x70 => getI (x70).l a69.2) >>= fun x73 => setL s68 (a63 + a69.1) (Builtin.bitXor x72 x73) >>= fun rest_71 => (M.ok rest_71)))) (k := (fun s68 : (List Int) => (M.ok (s68, quotient_67)))) (fun s68 : (List Int) => [sI (p_poly : (List Int)), sI (p_divisor : (List Int)), sI (small_57 : (List Int)), sO (s68 : List Int), sO (quotient_67 : List Int), sI (scale_61 : Int), sI (a63 : Int), sI (factor_66 : Int), .any, .any]) s62.1 (passes_of rfl) rfl (VI.congr (vi_enum T.b_enumerate (ve_var (a := small_57) 2)) ((by simp only [M.bind_assoc, M.ok_bind]) : _ = M.ok (enumL small_57))) (vg_tup (fun x : (Int × Int) => (x.1, x.2, ())) rfl (vgs_cons (vg_name (α := Int) (n := 10) 8 (scdivide).nd) (vgs_cons (vg_name (α := Int) (n := 10) 9 (scdivide).nd) vgs_nil)) (fun _ => rfl) (fun _ => rfl)) (fun s68 a69 => (vs_augIt (l := s68) (f := (fun a b : Int => M.ok (Builtin.bitXor a b))) (k := fun rest_71 : List Int => (M.ok rest_71)) 3 iop_xor (fun x y H Q o => ⟨x, y, rfl, rfl, o⟩) (fun _ _ _ z => nomatch z) (VX.congr (ve_binI op_add (ve_var (a := a63) 6) (ve_var (a := a69.1) 8)) ((by simp only [M.bind_assoc, M.ok_bind]) : _ = (M.ok (a63 + a69.1)))) (VX.congr (ve_idxT (ve_idxT (ve_gdat T.c_PRODUCTS (by rfl)) (ve_var (a := factor_66) 7)) (ve_var (a := a69.2) 9)) ((by simp only [M.bind_assoc, M.ok_bind]) : _ = ((getI (k_PRODUCTS).l factor_66) >>= fun x70 => getI (x70).l a69.2))) (fun rest_71 => (vs_nil (t := rest_71) (by exact (.eq (.eq (.eq (.eq (.eq (.eq (.eq (.eq (.any (.any .nil))))))))))))) (sub_anys _))) (fun s68 => (vs_nil (t := (s68, quotient_67)) (by exact (.eq (.eq (.eq (.eq (.eq (.eq (.any (.any (.any (.any .nil))))))))))))) (by exact (.eq (.eq (.eq (.eq (.eq (.eq (.eq (.eq (.any (.any .nil))))))))))) (sub_anys _))) (sub_anys _))) (sub_anys _))) (fun s62 => (vs_freeze1 (l := s62.1) 3 (vs_freeze1 (l := s62.2) 4 (vs_ret (f := fun r => r) (VX.congr (ve_tup (fun x : (List Int) × (List Int) × Unit => (x.1, x.2.1)) (va_cons ((vo_call (G_reduced T) hr T.d_reduced.g T.d_reduced.F.kp T.d_reduced.b (va_cons (ve_var (a := s62.2) 4) va_nil))).ve1 (va_cons ((vo_call (G_reduced T) hr T.d_reduced.g T.d_reduced.F.kp T.d_reduced.b (va_cons (ve_var (a := s62.1) 3) va_nil))).ve1 va_nil))) (by simp only [M.bind_assoc, M.ok_bind])) (fun r => by exact rfl) (sub_anys _))))) (by exact (.eq (.eq (.eq (.eq (.eq (.eq (.any (.any (.any (.any .nil))))))))))) (sub_anys _))) (sub_anys _))) (sub_anys _))) (sub_anys _)) (sub_anys _))) (sub_anys _))
theorem G__law_row (T : Txt K mg a d) : FnOk P w K mg base (L2N.CX P w) 2 (a 15) (d 15) ["cell", "count", "bound"] (spF K mg ((eCons (eCons (eCons eNil))) : Int × Int × Int × Unit → List D) (ow1 : List Int → O) (fun x : Int × Int × Int × Unit => m__law_row x.1 x.2.1 x.2.2.1)) := by
  refine fn_ok T.d__law_row.F sc_law_row (fun _ => rfl) fun cdv Ar outer s H E hr X hX x => ?_
  subst hX
  obtain ⟨p_cell, p_count, p_bound, _⟩ := x
  show VS _ _ _ _ _ (m__law_row p_cell p_count p_bound)
  unfold m__law_row
  exact (vs_setO 3 (sc_law_row).nd (VO.congr (vo_lst (fun x : Unit => ([] : List Int)) va_nil) (by simp only [M.bind_assoc, M.ok_bind])) (fun found_78 => (vs_set 4 (sc_law_row).nd (VX.congr (ve_abs T.b_abs (ve_var (a := p_cell) 0)) (by simp only [M.bind_assoc, M.ok_bind])) (fun rest_79 => (vs_forS (b := (fun (s80 : (List Int) × Int) (a81 : Int) => (if (decide ((if p_cell < 0 then -p_cell else p_cell) ≥ (1000000000000000000 : Int))) then ((chk (0 < p_bound) >>= fun _ => M.ok (s80.2 % p_bound)) >>= fun x84 => chk (s80.1.length < sizeLine) >>= fun _ => (fun found_82 => ((chk (CDiv s80.2 p_bound) >>= fun _ => M.ok (s80.2 / p_bound)) >>= fun rest_83 => (M.ok (found_82, rest_83)))) (s80.1 ++ [x84])) else (((m__law_mix p_cell a81) >>= fun x85 => chk (0 < p_bound) >>= fun _ => M.ok (x85 % p_bound)) >>= fun x87 => chk (s80.1.length < sizeLine) >>= fun _ => (fun found_86 => (M.ok (found_86, s80.2))) (s80.1 ++ [x87]))))) (k := (fun s80 : (List Int) × Int => (M.ok s80.1))) (fun s80 : (List Int) × Int => [sI (p_cell : Int), sI (p_count : Int), sI (p_bound : Int), sO (s80.1 : List Int), sI (s80.2 : Int), .any]) (found_78, rest_79) (passes_of rfl) rfl (VI.congr (vi_range1 T.b_range (ve_var (a := p_count) 1)) ((by simp only [M.bind_assoc, M.ok_bind]) : _ = (chk (rOk p_count) >>= fun _ => M.ok (rng 0 p_count)))) (vg_name (α := Int) (n := 6) 5 (sc_law_row).nd) (fun s80 a81 => (vs_iflp (x := (decide ((if p_cell < 0 then -p_cell else p_cell) ≥ (1000000000000000000 : Int)))) (VT.congr (vt_cmpI op_ge (ve_abs T.b_abs (ve_var (a := p_cell) 0)) ve_int (nomark _)) (by simp only [M.bind_assoc, M.ok_bind])) (vs_append (l := s80.1) (k := fun found_82 : List Int => ((chk (CDiv s80.2 p_bound) >>= fun _ => M.ok (s80.2 / p_bound)) >>= fun rest_83 => (M.ok (found_82, rest_83)))) 3 (VX.congr (ve_mod (ve_toint T.b_int (ve_var (a := s80.2) 4)) (ve_var (a := p_bound) 2)) ((by simp only [M.bind_assoc, M.ok_bind]) : _ = (chk (0 < p_bound) >>= fun _ => M.ok (s80.2 % p_bound)))) (fun found_82 => (vs_set 4 (sc_law_row).nd (VX.congr (ve_div (ve_var (a := s80.2) 4) (ve_var (a := p_bound) 2)) (by simp only [M.bind_assoc, M.ok_bind])) (fun rest_83 => (vs_nil (t := (found_82, rest_83)) (by exact (.eq (.eq (.eq (.eq (.eq (.any .nil))))))))) (sub_anys _))) (sub_anys _)) (vs_append (l := s80.1) (k := fun found_86 : List Int => (M.ok (found_86, s80.2))) 3 (VX.congr (ve_mod (ve_toint T.b_int (ve_call (G__law_mix T) hr T.d__law_mix.g T.d__law_mix.F.kp T.d__law_mix.b (va_cons (ve_var (a := p_cell) 0) (va_cons (ve_var (a := a81) 5) va_nil)))) (ve_var (a := p_bound) 2)) ((by simp only [M.bind_assoc, M.ok_bind]) : _ = ((m__law_mix p_cell a81) >>= fun x85 => chk (0 < p_bound) >>= fun _ => M.ok (x85 % p_bound)))) (fun found_86 => (vs_nil (t := (found_86, s80.2)) (by exact (.eq (.eq (.eq (.eq (.eq (.any .nil))))))))) (sub_anys _)) (sub_anys _))) (fun s80 => (vs_retV (ow := ow1 s80.1) (t := s80.1) 3 (by exact rfl))) (by exact (.eq (.eq (.eq (.eq (.eq (.any .nil))))))) (sub_anys _))) (sub_anys _))) (sub_anys _))
theorem G__law_is_list (T : Txt K mg a d) : FnOk P w K mg base (L2N.CX P w) 2 (a 16) (d 16) ["value", "least", "greatest"] (spF K mg ((eCons (eCons (eCons eNil))) : (List Int) × Int × Int × Unit → List D) (fun r : Bool => O.imm (enc r)) (fun x : (List Int) × Int × Int × Unit => m__law_is_list x.1 x.2.1 x.2.2.1)) := by
  refine fn_ok T.d__law_is_list.F sc_law_is_list (fun _ => rfl) fun cdv Ar outer s H E hr X hX x => ?_
  subst hX
  obtain ⟨p_value, p_least, p_greatest, _⟩ := x
  show VS _ _ _ _ _ (m__law_is_list p_value p_least p_greatest)
  unfold m__law_is_list
  exact (vs_ifxp (x := (!true)) (VT.congr (vt_not (vt_val (ve_isiS (n := "list") "list" true T.b_isinstance T.b_list (ve_var (a := p_value) 0) (fun _ => rfl) (by decide +kernel)))) (by simp only [M.bind_assoc, M.ok_bind])) (vs_retp (x := false) (t := false) (VX.congr ve_bl (by simp only [M.bind_assoc, M.ok_bind])) (by exact rfl) (sub_anys _)) (vs_for (b := (fun (s89 : Unit) (a90 : Int) => ((bOr ((m__law_is_int a90) >>= fun x91 => M.ok (!x91)) (M.ok ((decide (a90 < p_least)) || (decide (a90 > p_greatest))))) >>= fun c92 => if c92 then (M.ok (Stp.rt false : (Stp (Unit) Bool))) else (M.ok (Stp.nx () : (Stp (Unit) Bool)))))) (k := (fun s89 : Unit => (M.ok true))) (fun s89 : Unit => [sI (p_value : (List Int)), sI (p_least : Int), sI (p_greatest : Int), .any]) () (passes_of rfl) rfl (VI.congr (vi_list (ve_var (a := p_value) 0)) ((by simp only [M.bind_assoc, M.ok_bind]) : _ = M.ok p_value)) (vg_name (α := Int) (n := 4) 3 (sc_law_is_list).nd) (fun s89 a90 => (vs_ifx (b := []) (VT.congr ((vw_or (vt_not (vt_val (ve_call (G__law_is_int T) hr T.d__law_is_int.g T.d__law_is_int.F.kp T.d__law_is_int.b (va_cons (ve_var (a := a90) 3) va_nil)))) (vw_or_p (vt_cmpI op_lt (ve_var (a := a90) 3) (ve_var (a := p_least) 1) (nomark _)) (vw_or1 (vt_cmpI op_gt (ve_var (a := a90) 3) (ve_var (a := p_greatest) 2) (nomark _)))))).vt (by simp only [M.bind_assoc, M.ok_bind])) (vs_retp (x := false) (t := (Stp.rt false : (Stp (Unit) Bool))) (VX.congr ve_bl (by simp only [M.bind_assoc, M.ok_bind])) (by exact ⟨_, rfl, rfl⟩) (sub_anys _)) (vs_nil (t := (Stp.nx () : (Stp (Unit) Bool))) (by exact ⟨_, rfl, (.eq (.eq (.eq (.any .nil))))⟩)) (sub_anys _))) (fun s89 => (vs_retp (x := true) (t := true) (VX.congr ve_bl (by simp only [M.bind_assoc, M.ok_bind])) (by exact rfl) (sub_anys _))) (by exact (.eq (.eq (.eq (.any .nil))))) (sub_anys _)) (sub_anys _))
theorem G__law_value_at (T : Txt K mg a d) : FnOk P w K mg base (L2N.CX P w) 2 (a 17) (d 17) ["poly", "point"] (spF K mg ((eCons (eCons eNil)) : (List Int) × Int × Unit → List D) (fun r : Int => O.imm (enc r)) (fun x : (List Int) × Int × Unit => m__law_value_at x.1 x.2.1)) := by
  refine fn_ok T.d__law_value_at.F sc_law_value_at (fun _ => rfl) fun cdv Ar outer s H E hr X hX x => ?_
  subst hX
  obtain ⟨p_poly, p_point, _⟩ := x
  show VS _ _ _ _ _ (m__law_value_at p_poly p_point)
  unfold m__law_value_at
  exact (vs_set 2 (sc_law_value_at).nd (VX.congr ve_int (by simp only [M.bind_assoc, M.ok_bind])) (fun value_93 => (vs_forS (b := (fun (s94 : Int) (a95 : Int) => (((m__law_times_too s94 p_point) >>= fun x96 => M.ok (Builtin.bitXor x96 a95)) >>= fun value_97 => (M.ok value_97)))) (k := (fun s94 : Int => (M.ok s94))) (fun s94 : Int => [sI (p_poly : (List Int)), sI (p_point : Int), sI (s94 : Int), .any]) value_93 (passes_of rfl) rfl (VI.congr (vi_list ((vo_rev (ve_var (a := p_poly) 0))).ve1) ((by simp only [M.bind_assoc, M.ok_bind]) : _ = M.ok ((p_poly).reverse))) (vg_name (α := Int) (n := 4) 3 (sc_law_value_at).nd) (fun s94 a95 => (vs_set 2 (sc_law_value_at).nd (VX.congr (ve_binI op_xor (ve_call (G__law_times_too T) hr T.d__law_times_too.g T.d__law_times_too.F.kp T.d__law_times_too.b (va_cons (ve_var (a := s94) 2) (va_cons (ve_var (a := p_point) 1) va_nil))) (ve_var (a := a95) 3)) (by simp only [M.bind_assoc, M.ok_bind])) (fun value_97 => (vs_nil (t := value_97) (by exact (.eq (.eq (.eq (.any .nil))))))) (sub_anys _))) (fun s94 => (vs_retp (x := s94) (t := s94) (VX.congr (ve_var (a := s94) 2) (by simp only [M.bind_assoc, M.ok_bind])) (by exact rfl) (sub_anys _))) (by exact (.eq (.eq (.eq (.any .nil))))) (sub_anys _))) (sub_anys _))
theorem G__law_product (T : Txt K mg a d) : FnOk P w K mg base (L2N.CX P w) 2 (a 18) (d 18) ["first", "second"] (spF K mg ((eCons (eCons eNil)) : (List Int) × (List Int) × Unit → List D) (ow1 : List Int → O) (fun x : (List Int) × (List Int) × Unit => m__law_product x.1 x.2.1)) := by
  refine fn_ok T.d__law_product.F sc_law_product (fun _ => rfl) fun cdv Ar outer s H E hr X hX x => ?_
  subst hX
  obtain ⟨p_first, p_second, _⟩ := x
  show VS _ _ _ _ _ (m__law_product p_first p_second)
  unfold m__law_product
  exact (vs_setO 2 (sc_law_product).nd (VO.congr (vo_rep ((vo_lst (fun x : Int × Unit => ([x.1] : List Int)) (va_cons ve_int va_nil))).ve1 (ve_binI op_add (ve_len T.b_len (ve_var (a := p_first) 0)) (ve_len T.b_len (ve_var (a := p_second) 1)))) (by simp only [M.bind_assoc, M.ok_bind])) (fun result_98 => (vs_forS (b := (fun (s99 : (List Int)) (a100 : Int) => ((chk (rOk (p_second.length : Int)) >>= fun _ => M.ok (rng 0 (p_second.length : Int))) >>= fun x109 => loopS (fun (s101 : (List Int)) (a102 : Int) => (((getI s101 (a100 + a102)) >>= fun x105 => ((getI p_first a100) >>= fun x103 => (getI p_second a102) >>= fun x104 => m__law_times_too x103 x104) >>= fun x106 => M.ok (Builtin.bitXor x105 x106)) >>= fun x108 => setL s101 (a100 + a102) x108 >>= fun result_107 => (M.ok result_107))) x109 s99 >>= (fun s101 : (List Int) => (M.ok s101))))) (k := (fun s99 : (List Int) => ((m__law_reduced s99) >>= fun r => M.ok r))) (fun s99 : (List Int) => [sI (p_first : (List Int)), sI (p_second : (List Int)), sO (s99 : List Int), .any, .any]) result_98 (passes_of rfl) rfl (VI.congr (vi_range1 T.b_range (ve_len T.b_len (ve_var (a := p_first) 0))) ((by simp only [M.bind_assoc, M.ok_bind]) : _ = (chk (rOk (p_first.length : Int)) >>= fun _ => M.ok (rng 0 (p_first.length : Int))))) (vg_name (α := Int) (n := 5) 3 (sc_law_product).nd) (fun s99 a100 => (vs_forS (b := (fun (s101 : (List Int)) (a102 : Int) => (((getI s101 (a100 + a102)) >>= fun x105 => ((getI p_first a100) >>= fun x103 => (getI p_second a102) >>= fun x104 => m__law_times_too x103 x104) >>= fun x106 => M.ok (Builtin.bitXor x105 x106)) >>= fun x108 => setL s101 (a100 + a102) x108 >>= fun result_107 => (M.ok result_107)))) (k := (fun s101 : (List Int) => (M.ok s101))) (fun s101 : (List Int) => [sI (p_first : (List Int)), sI (p_second : (List Int)), sO (s101 : List Int), sI (a100 : Int), .any]) s99 (passes_of rfl) rfl (VI.congr (vi_range1 T.b_range (ve_len T.b_len (ve_var (a := p_second) 1))) ((by simp only [M.bind_assoc, M.ok_bind]) : _ = (chk (rOk (p_second.length : Int)) >>= fun _ => M.ok (rng 0 (p_second.length : Int))))) (vg_name (α := Int) (n := 5) 4 (sc_law_product).nd) (fun s101 a102 => (vs_setI (l := s101) (k := fun result_107 : List Int => (M.ok result_107)) 2 (VX.congr (ve_binI op_xor (ve_idx (vb_own (l := s101) 2) (ve_binI op_add (ve_var (a := a100) 3) (ve_var (a := a102) 4))) (ve_call (G__law_times_too T) hr T.d__law_times_too.g T.d__law_times_too.F.kp T.d__law_times_too.b (va_cons (ve_idx (ve_var (a := p_first) 0) (ve_var (a := a100) 3)) (va_cons (ve_idx (ve_var (a := p_second) 1) (ve_var (a := a102) 4)) va_nil)))) ((by simp only [M.bind_assoc, M.ok_bind]) : _ = ((getI s101 (a100 + a102)) >>= fun x105 => ((getI p_first a100) >>= fun x103 => (getI p_second a102) >>= fun x104 => m__law_times_too x103 x104) >>= fun x106 => M.ok (Builtin.bitXor x105 x106)))) (VX.congr (ve_binI op_add (ve_var (a := a100) 3) (ve_var (a := a102) 4)) ((by simp only [M.bind_assoc, M.ok_bind]) : _ = (M.ok (a100 + a102)))) (fun result_107 => (vs_nil (t := result_107) (by exact (.eq (.eq (.eq (.eq (.any .nil)))))))) (sub_anys _))) (fun s101 => (vs_nil (t := s101) (by exact (.eq (.eq (.eq (.any (.any .nil)))))))) (by exact (.eq (.eq (.eq (.eq (.any .nil)))))) (sub_anys _))) (fun s99 => (vs_freeze1 (l := s99) 2 (vs_retO (f := fun r => r) (VO.congr (vo_call (G__law_reduced T) hr T.d__law_reduced.g T.d__law_reduced.F.kp T.d__law_reduced.b (va_cons (ve_var (a := s99) 2) va_nil)) (by simp only [M.bind_assoc, M.ok_bind])) (fun r => by exact rfl) (sub_anys _)))) (by exact (.eq (.eq (.eq (.any (.any .nil)))))) (sub_anys _))) (sub_anys _))
theorem G__law_sum (T : Txt K mg a d) : FnOk P w K mg base (L2N.CX P w) 2 (a 19) (d 19) ["first", "second"] (spF K mg ((eCons (eCons eNil)) : (List Int) × (List Int) × Unit → List D) (ow1 : List Int → O) (fun x : (List Int) × (List Int) × Unit => m__law_sum x.1 x.2.1)) := by
  refine fn_ok T.d__law_sum.F sc_law_sum (fun _ => rfl) fun cdv Ar outer s H E hr X hX x => ?_
  subst hX
  obtain ⟨p_first, p_second, _⟩ := x
  show VS _ _ _ _ _ (m__law_sum p_first p_second)
  unfold m__law_sum
  exact (vs_setO 2 (sc_law_sum).nd (VO.congr (vo_lst (fun x : Unit => ([] : List Int)) va_nil) (by simp only [M.bind_assoc, M.ok_bind])) (fun result_111 => (vs_forS (b := (fun (s112 : (List Int)) (a113 : Int) => ((M.ok (0 : Int)) >>= fun total_114 => ((if (decide (a113 < (p_first.length : Int))) then ((getI p_first a113) >>= fun total_116 => (M.ok total_116)) else (M.ok total_114) : (M (Int))) >>= (fun s115 : Int => ((if (decide (a113 < (p_second.length : Int))) then (((getI p_second a113) >>= fun x118 => M.ok (Builtin.bitXor s115 x118)) >>= fun total_119 => (M.ok total_119)) else (M.ok s115) : (M (Int))) >>= (fun s117 : Int => (chk (s112.length < sizeLine) >>= fun _ => (fun result_120 => (M.ok result_120)) (s112 ++ [s117]))))))))) (k := (fun s112 : (List Int) => ((m__law_reduced s112) >>= fun r => M.ok r))) (fun s112 : (List Int) => [sI (p_first : (List Int)), sI (p_second : (List Int)), sO (s112 : List Int), .any, .any]) result_111 (passes_of rfl) rfl (VI.congr (vi_range1 T.b_range (ve_max2 rfl T.b_max (ve_len T.b_len (ve_var (a := p_first) 0)) (ve_len T.b_len (ve_var (a := p_second) 1)))) ((by simp only [M.bind_assoc, M.ok_bind]) : _ = (chk (rOk (if (p_second.length : Int) > (p_first.length : Int) then (p_second.length : Int) else (p_first.length : Int))) >>= fun _ => M.ok (rng 0 (if (p_second.length : Int) > (p_first.length : Int) then (p_second.length : Int) else (p_first.length : Int)))))) (vg_name (α := Int) (n := 5) 3 (sc_law_sum).nd) (fun s112 a113 => (vs_set 4 (sc_law_sum).nd (VX.congr ve_int (by simp only [M.bind_assoc, M.ok_bind])) (fun total_114 => (vs_ifjp (x := (decide (a113 < (p_first.length : Int)))) (fun s115 : Int => [sI (p_first : (List Int)), sI (p_second : (List Int)), sO (s112 : List Int), sI (a113 : Int), sI (s115 : Int)]) (VT.congr (vt_cmpI op_lt (ve_var (a := a113) 3) (ve_len T.b_len (ve_var (a := p_first) 0)) (nomark _)) (by simp only [M.bind_assoc, M.ok_bind])) (vs_set 4 (sc_law_sum).nd (VX.congr (ve_idx (ve_var (a := p_first) 0) (ve_var (a := a113) 3)) (by simp only [M.bind_assoc, M.ok_bind])) (fun total_116 => (vs_nil (t := total_116) (by exact (.eq (.eq (.eq (.eq (.eq .nil)))))))) (sub_anys _)) (vs_nil (t := total_114) (by exact (.eq (.eq (.eq (.eq (.eq .nil))))))) (fun s115 => (vs_ifjp (x := (decide (a113 < (p_second.length : Int)))) (fun s117 : Int => [sI (p_first : (List Int)), sI (p_second : (List Int)), sO (s112 : List Int), sI (a113 : Int), sI (s117 : Int)]) (VT.congr (vt_cmpI op_lt (ve_var (a := a113) 3) (ve_len T.b_len (ve_var (a := p_second) 1)) (nomark _)) (by simp only [M.bind_assoc, M.ok_bind])) (vs_set 4 (sc_law_sum).nd (VX.congr (ve_binI op_xor (ve_var (a := s115) 4) (ve_idx (ve_var (a := p_second) 1) (ve_var (a := a113) 3))) (by simp only [M.bind_assoc, M.ok_bind])) (fun total_119 => (vs_nil (t := total_119) (by exact (.eq (.eq (.eq (.eq (.eq .nil)))))))) (sub_anys _)) (vs_nil (t := s115) (by exact (.eq (.eq (.eq (.eq (.eq .nil))))))) (fun s117 => (vs_append (l := s112) (k := fun result_120 : List Int => (M.ok result_120)) 2 (VX.congr (ve_var (a := s117) 4) ((by simp only [M.bind_assoc, M.ok_bind]) : _ = (M.ok s117))) (fun result_120 => (vs_nil (t := result_120) (by exact (.eq (.eq (.eq (.any (.any .nil)))))))) (sub_anys _))) (sub_anys _))) (sub_anys _))) (sub_anys _))) (fun s112 => (vs_freeze1 (l := s112) 2 (vs_retO (f := fun r => r) (VO.congr (vo_call (G__law_reduced T) hr T.d__law_reduced.g T.d__law_reduced.F.kp T.d__law_reduced.b (va_cons (ve_var (a := s112) 2) va_nil)) (by simp only [M.bind_assoc, M.ok_bind])) (fun r => by exact rfl) (sub_anys _)))) (by exact (.eq (.eq (.eq (.any (.any .nil)))))) (sub_anys _))) (sub_anys _))
theorem G__law_tried (T : Txt K mg a d) : FnOk P w K mg base (L2N.CX P w) 3 (a 20) (d 20) ["question", "a", "b"] (spF K mg ((eCons (eCons (eCons eNil))) : Int × Int × Int × Unit → List D) (fun r : (Int ⊕ (Str × Bool)) => O.imm (enc r)) (fun x : Int × Int × Int × Unit => m__law_tried x.1 x.2.1 x.2.2.1)) := by
  refine fn_ok T.d__law_tried.F sc_law_tried (fun _ => rfl) fun cdv Ar outer s H E hr X hX x => ?_
  subst hX
  obtain ⟨p_question, p_a, p_b, _⟩ := x
  show VS _ _ _ _ _ (m__law_tried p_question p_a p_b)
  unfold m__law_tried
  exact (vs_tryT (mb := (if (decide (p_question = (0 : Int))) then (((m_add p_a p_b) >>= fun x124 => M.ok (.inl x124 : (Int ⊕ (Str × Bool)))) >>= fun r => M.ok (Jn.out r : (Jn (Unit) (Int ⊕ (Str × Bool))))) else (if (decide (p_question = (1 : Int))) then (((m_multiply p_a p_b) >>= fun x125 => M.ok (.inl x125 : (Int ⊕ (Str × Bool)))) >>= fun r => M.ok (Jn.out r : (Jn (Unit) (Int ⊕ (Str × Bool))))) else (((m_inverse p_a) >>= fun x126 => M.ok (.inl x126 : (Int ⊕ (Str × Bool)))) >>= fun r => M.ok (Jn.out r : (Jn (Unit) (Int ⊕ (Str × Bool)))))))) (mh := fun e127 : Exn => ((((isE k_tab e127 "InvalidSymbol") >>= fun x128 => M.ok (("refused" : Str), x128)) >>= fun x129 => M.ok (.inr x129 : (Int ⊕ (Str × Bool)))) >>= fun r => M.ok (Jn.out r : (Jn (Unit) (Int ⊕ (Str × Bool)))))) (kk := (fun s123 : Unit => M.stuck)) (fun s123 : Unit => [sI (p_question : Int), sI (p_a : Int), sI (p_b : Int), .any]) 3 k_tab [sI (p_question : Int), sI (p_a : Int), sI (p_b : Int), .any] rfl rfl (sc_law_tried).nd T.n_ArchiveError (fun pn xe po => (vs_ifxp (x := (decide (p_question = (0 : Int)))) (VT.congr (vt_eq (ve_var (a := p_question) 0) ve_int) (by simp only [M.bind_assoc, M.ok_bind])) (vs_ret (f := fun r => (Jn.out r : (Jn (Unit) (Int ⊕ (Str × Bool))))) (VX.congr (VX.inl ((ve_call (G_add T) hr T.d_add.g T.d_add.F.kp T.d_add.b (va_cons (ve_var (a := p_a) 1) (va_cons (ve_var (a := p_b) 2) va_nil))))) (by simp only [M.bind_assoc, M.ok_bind])) (fun r => by exact ⟨_, rfl, rfl⟩) (.eq (.eq (.eq (.any .nil))))) (vs_ifxp (x := (decide (p_question = (1 : Int)))) (VT.congr (vt_eq (ve_var (a := p_question) 0) ve_int) (by simp only [M.bind_assoc, M.ok_bind])) (vs_ret (f := fun r => (Jn.out r : (Jn (Unit) (Int ⊕ (Str × Bool))))) (VX.congr (VX.inl ((ve_call (G_multiply T) hr T.d_multiply.g T.d_multiply.F.kp T.d_multiply.b (va_cons (ve_var (a := p_a) 1) (va_cons (ve_var (a := p_b) 2) va_nil))))) (by simp only [M.bind_assoc, M.ok_bind])) (fun r => by exact ⟨_, rfl, rfl⟩) (.eq (.eq (.eq (.any .nil))))) (vs_ret (f := fun r => (Jn.out r : (Jn (Unit) (Int ⊕ (Str × Bool))))) (VX.congr (VX.inl ((ve_call (G_inverse T) hr T.d_inverse.g T.d_inverse.F.kp T.d_inverse.b (va_cons (ve_var (a := p_a) 1) va_nil)))) (by simp only [M.bind_assoc, M.ok_bind])) (fun r => by exact ⟨_, rfl, rfl⟩) (.eq (.eq (.eq (.any .nil))))) (.eq (.eq (.eq (.any .nil))))) (.eq (.eq (.eq (.any .nil)))))) (fun e127 hfs a oe cls pn hz hfl hmc => (vs_ret (f := fun r => (Jn.out r : (Jn (Unit) (Int ⊕ (Str × Bool))))) (VX.congr (VX.inr ((ve_tup (fun x : Str × Bool × Unit => (x.1, x.2.1)) (va_cons ve_str (va_cons (ve_isEo 3 hz hfl hmc T.i_InvalidSymbol T.b_isinstance) va_nil))))) (by simp only [M.bind_assoc, M.ok_bind])) (fun r => by exact ⟨_, rfl, rfl⟩) (sub_anys _))) (fun s123 => vs_stuck) (sub_anys _))
theorem G__law_second_part (T : Txt K mg a d) : FnOk P w K mg base (L2N.CX P w) 3 (a 21) (d 21) ["script"] (spF K mg ((eCons eNil) : (List Int) × Unit → List D) (fun r : Bool => O.imm (enc r)) (fun x : (List Int) × Unit => m__law_second_part x.1)) := by
  refine fn_ok T.d__law_second_part.F sc_law_second_part (fun _ => rfl) fun cdv Ar outer s H E hr X hX x => ?_
  subst hX
  obtain ⟨p_script, _⟩ := x
  show VS _ _ _ _ _ (m__law_second_part p_script)
  unfold m__law_second_part
  exact (vs_set 1 (sc_law_second_part).nd (VX.congr ((vo_cat ((vo_call (G__law_row T) hr T.d__law_row.g T.d__law_row.F.kp T.d__law_row.b (va_cons (ve_call (G__law_cell T) (hr.mono (show 1 ≤ 2 by decide)) T.d__law_cell.g T.d__law_cell.F.kp T.d__law_cell.b (va_cons (ve_var (a := p_script) 0) (va_cons ve_int va_nil))) (va_cons (ve_modK (ve_call (G__law_cell T) (hr.mono (show 1 ≤ 2 by decide)) T.d__law_cell.g T.d__law_cell.F.kp T.d__law_cell.b (va_cons (ve_var (a := p_script) 0) (va_cons ve_int va_nil))) ve_int) (va_cons ve_int va_nil))))).ve1 ((vo_rep ((vo_lst (fun x : Int × Unit => ([x.1] : List Int)) (va_cons ve_int va_nil))).ve1 (ve_modK (ve_divK (ve_call (G__law_cell T) (hr.mono (show 1 ≤ 2 by decide)) T.d__law_cell.g T.d__law_cell.F.kp T.d__law_cell.b (va_cons (ve_var (a := p_script) 0) (va_cons ve_int va_nil))) ve_int) ve_int))).ve1)).ve1 (by simp only [M.bind_assoc, M.ok_bind])) (fun p_138 => (vs_set 2 (sc_law_second_part).nd (VX.congr ((vo_cat ((vo_call (G__law_row T) hr T.d__law_row.g T.d__law_row.F.kp T.d__law_row.b (va_cons (ve_call (G__law_cell T) (hr.mono (show 1 ≤ 2 by decide)) T.d__law_cell.g T.d__law_cell.F.kp T.d__law_cell.b (va_cons (ve_var (a := p_script) 0) (va_cons ve_int va_nil))) (va_cons (ve_modK (ve_call (G__law_cell T) (hr.mono (show 1 ≤ 2 by decide)) T.d__law_cell.g T.d__law_cell.F.kp T.d__law_cell.b (va_cons (ve_var (a := p_script) 0) (va_cons ve_int va_nil))) ve_int) (va_cons ve_int va_nil))))).ve1 ((vo_rep ((vo_lst (fun x : Int × Unit => ([x.1] : List Int)) (va_cons ve_int va_nil))).ve1 (ve_modK (ve_divK (ve_call (G__law_cell T) (hr.mono (show 1 ≤ 2 by decide)) T.d__law_cell.g T.d__law_cell.F.kp T.d__law_cell.b (va_cons (ve_var (a := p_script) 0) (va_cons ve_int va_nil))) ve_int) ve_int))).ve1)).ve1 (by simp only [M.bind_assoc, M.ok_bind])) (fun d_147 => (vs_ifj (fun s151 : (List Int) => [sI (p_script : (List Int)), sI (p_138 : (List Int)), sI (s151 : (List Int)), .any, .any, .any, .any, .any, .any, .any, .any]) (VT.congr (vt_eq (ve_modK (ve_divK (ve_call (G__law_cell T) (hr.mono (show 1 ≤ 2 by decide)) T.d__law_cell.g T.d__law_cell.F.kp T.d__law_cell.b (va_cons (ve_var (a := p_script) 0) (va_cons ve_int va_nil))) ve_int) ve_int) ve_int) (by simp only [M.bind_assoc, M.ok_bind])) (vs_set 2 (sc_law_second_part).nd (VX.congr ((vo_sl (ve_var (a := d_147) 2) vp_none (vp_some ve_int))).ve1 (by simp only [M.bind_assoc, M.ok_bind])) (fun d_152 => (vs_nil (t := d_152) (by exact (.eq (.eq (.eq (.any (.any (.any (.any (.any (.any (.any (.any .nil)))))))))))))) (sub_anys _)) (vs_nil (t := d_147) (by exact (.eq (.eq (.eq (.any (.any (.any (.any (.any (.any (.any (.any .nil))))))))))))) (fun s151 => (vs_set 3 (sc_law_second_part).nd (VX.congr (ve_modK (ve_call (G__law_cell T) (hr.mono (show 1 ≤ 2 by decide)) T.d__law_cell.g T.d__law_cell.F.kp T.d__law_cell.b (va_cons (ve_var (a := p_script) 0) (va_cons ve_int va_nil))) ve_int) (by simp only [M.bind_assoc, M.ok_bind])) (fun x_154 => (vs_set 4 (sc_law_second_part).nd (VX.congr (ve_tup (fun x : (List Int) × (List Int) × Unit => (x.1, x.2.1)) (va_cons ((vo_list T.b_list (ve_var (a := p_138) 1))).ve1 (va_cons ((vo_list T.b_list (ve_var (a := s151) 2))).ve1 va_nil))) (by simp only [M.bind_assoc, M.ok_bind])) (fun copies_155 => (vs_set 5 (sc_law_second_part).nd (VX.congr ((vo_call (G_add_polynomials T) hr T.d_add_polynomials.g T.d_add_polynomials.F.kp T.d_add_polynomials.b (va_cons (ve_proj (fun x : ((List Int) × (List Int)) => x.1) (ve_var (a := copies_155) 4) ve_int) (va_cons (ve_proj (fun x : ((List Int) × (List Int)) => x.2) (ve_var (a := copies_155) 4) ve_int) va_nil)))).ve1 (by simp only [M.bind_assoc, M.ok_bind])) (fun total_156 => (vs_set 6 (sc_law_second_part).nd (VX.congr ((vo_call (G_multiply_polynomials T) hr T.d_multiply_polynomials.g T.d_multiply_polynomials.F.kp T.d_multiply_polynomials.b (va_cons (ve_proj (fun x : ((List Int) × (List Int)) => x.1) (ve_var (a := copies_155) 4) ve_int) (va_cons (ve_proj (fun x : ((List Int) × (List Int)) => x.2) (ve_var (a := copies_155) 4) ve_int) va_nil)))).ve1 (by simp only [M.bind_assoc, M.ok_bind])) (fun product_157 => (vs_ifx (b := []) (VT.congr ((vw_or (vt_not (vt_val (ve_call (G__law_is_list T) hr T.d__law_is_list.g T.d__law_is_list.F.kp T.d__law_is_list.b (va_cons (ve_var (a := total_156) 5) (va_cons ve_int (va_cons ve_int va_nil)))))) (vw_or (vt_neD (by exact hr.units) (ve_var (a := total_156) 5) ((vo_call (G__law_sum T) hr T.d__law_sum.g T.d__law_sum.F.kp T.d__law_sum.b (va_cons (ve_var (a := p_138) 1) (va_cons (ve_var (a := s151) 2) va_nil)))).ve1) (vw_or1 (vt_neD (by exact hr.units) ((vo_call (G_reduced T) (hr.mono (show 1 ≤ 2 by decide)) T.d_reduced.g T.d_reduced.F.kp T.d_reduced.b (va_cons (ve_proj (fun x : ((List Int) × (List Int)) => x.1) (ve_var (a := copies_155) 4) ve_int) va_nil))).ve1 ((vo_call (G__law_reduced T) (hr.mono (show 1 ≤ 2 by decide)) T.d__law_reduced.g T.d__law_reduced.F.kp T.d__law_reduced.b (va_cons (ve_var (a := p_138) 1) va_nil))).ve1))))).vt (by simp only [M.bind_assoc, M.ok_bind])) (vs_retp (x := false) (t := false) (VX.congr ve_bl (by simp only [M.bind_assoc, M.ok_bind])) (by exact rfl) (sub_anys _)) (vs_ifx (b := []) (VT.congr ((vw_or (vt_not (vt_val (ve_call (G__law_is_list T) hr T.d__law_is_list.g T.d__law_is_list.F.kp T.d__law_is_list.b (va_cons (ve_var (a := product_157) 6) (va_cons ve_int (va_cons ve_int va_nil)))))) (vw_or1 (vt_neD (by exact hr.units) (ve_var (a := product_157) 6) ((vo_call (G__law_product T) hr T.d__law_product.g T.d__law_product.F.kp T.d__law_product.b (va_cons (ve_var (a := p_138) 1) (va_cons (ve_var (a := s151) 2) va_nil)))).ve1)))).vt (by simp only [M.bind_assoc, M.ok_bind])) (vs_retp (x := false) (t := false) (VX.congr ve_bl (by simp only [M.bind_assoc, M.ok_bind])) (by exact rfl) (sub_anys _)) (vs_ifx (b := []) (VT.congr ((vw_or (vt_ne (ve_call (G_evaluate T) (hr.mono (show 1 ≤ 2 by decide)) T.d_evaluate.g T.d_evaluate.F.kp T.d_evaluate.b (va_cons (ve_proj (fun x : ((List Int) × (List Int)) => x.1) (ve_var (a := copies_155) 4) ve_int) (va_cons (ve_var (a := x_154) 3) va_nil))) (ve_call (G__law_value_at T) hr T.d__law_value_at.g T.d__law_value_at.F.kp T.d__law_value_at.b (va_cons (ve_var (a := p_138) 1) (va_cons (ve_var (a := x_154) 3) va_nil)))) (vw_or1 (vt_ne (ve_call (G_evaluate T) (hr.mono (show 1 ≤ 2 by decide)) T.d_evaluate.g T.d_evaluate.F.kp T.d_evaluate.b (va_cons (ve_var (a := product_157) 6) (va_cons (ve_var (a := x_154) 3) va_nil))) (ve_call (G__law_times_too T) (hr.mono (show 1 ≤ 2 by decide)) T.d__law_times_too.g T.d__law_times_too.F.kp T.d__law_times_too.b (va_cons (ve_call (G__law_value_at T) hr T.d__law_value_at.g T.d__law_value_at.F.kp T.d__law_value_at.b (va_cons (ve_var (a := p_138) 1) (va_cons (ve_var (a := x_154) 3) va_nil))) (va_cons (ve_call (G__law_value_at T) hr T.d__law_value_at.g T.d__law_value_at.F.kp T.d__law_value_at.b (va_cons (ve_var (a := s151) 2) (va_cons (ve_var (a := x_154) 3) va_nil))) va_nil))))))).vt (by simp only [M.bind_assoc, M.ok_bind])) (vs_retp (x := false) (t := false) (VX.congr ve_bl (by simp only [M.bind_assoc, M.ok_bind])) (by exact rfl) (sub_anys _)) (vs_tryT (mb := ((m_divide copies_155.1 copies_155.2) >>= fun actual_171 => (M.ok (Jn.go actual_171 : (Jn (((List Int) × (List Int))) Bool))))) (mh := fun e172 : Exn => ((bAnd (isE k_tab e172 "InvalidSymbol") (((m__law_reduced s151) >>= fun x173 => M.ok (x173.length : Int)) >>= fun x174 => M.ok (decide (x174 = (0 : Int))))) >>= fun r => M.ok (Jn.out r : (Jn (((List Int) × (List Int))) Bool)))) (kk := (fun s170 : ((List Int) × (List Int)) => (if ((!true) || ((!decide ((2 : Int) = (2 : Int))) || (!decide (copies_155 = (p_138, s151))))) then (M.ok false) else ((M.ok s170) >>= fun t175 => ((bOr ((m__law_is_list t175.1 (0 : Int) (15 : Int)) >>= fun x176 => M.ok (!x176)) (bOr ((m__law_is_list t175.2 (0 : Int) (15 : Int)) >>= fun x177 => M.ok (!x177)) (bOr ((m__law_reduced t175.1) >>= fun x178 => M.ok (!decide (x178 = t175.1))) ((m__law_reduced t175.2) >>= fun x179 => M.ok (!decide (x179 = t175.2)))))) >>= fun c185 => if c185 then (M.ok false) else ((bAnd (((m__law_reduced s151) >>= fun x180 => M.ok (x180.length : Int)) >>= fun x181 => M.ok (decide ((t175.2.length : Int) < x181))) (((m__law_product t175.1 s151) >>= fun x182 => m__law_sum x182 t175.2) >>= fun x183 => (m__law_reduced p_138) >>= fun x184 => M.ok (decide (x183 = x184)))) >>= fun r => M.ok r)))))) (fun s170 : ((List Int) × (List Int)) => [sI (p_script : (List Int)), sI (p_138 : (List Int)), sI (s151 : (List Int)), sI (x_154 : Int), sI (copies_155 : ((List Int) × (List Int))), sI (total_156 : (List Int)), sI (product_157 : (List Int)), .any, sI (s170 : ((List Int) × (List Int))), .any, .any]) 7 k_tab [sI (p_script : (List Int)), sI (p_138 : (List Int)), sI (s151 : (List Int)), sI (x_154 : Int), sI (copies_155 : ((List Int) × (List Int))), sI (total_156 : (List Int)), sI (product_157 : (List Int)), .any, .any, .any, .any] rfl rfl (sc_law_second_part).nd T.n_ArchiveError (fun pn xe po => (vs_set 8 (sc_law_second_part).nd (VX.congr (ve_call (G_divide T) hr T.d_divide.g T.d_divide.F.kp T.d_divide.b (va_cons (ve_proj (fun x : ((List Int) × (List Int)) => x.1) (ve_var (a := copies_155) 4) ve_int) (va_cons (ve_proj (fun x : ((List Int) × (List Int)) => x.2) (ve_var (a := copies_155) 4) ve_int) va_nil))) (by simp only [M.bind_assoc, M.ok_bind])) (fun actual_171 => (vs_nil (t := (Jn.go actual_171 : (Jn (((List Int) × (List Int))) Bool))) (by exact ⟨_, rfl, (.eq (.eq (.eq (.eq (.eq (.eq (.eq (.any (.eq (.any (.any .nil)))))))))))⟩))) (.eq (.eq (.eq (.eq (.eq (.eq (.eq (.any (.any (.any (.any .nil))))))))))))) (fun e172 hfs a oe cls pn hz hfl hmc => (vs_ret (f := fun r => (Jn.out r : (Jn (((List Int) × (List Int))) Bool))) (VX.congr (ve_and (ve_isEo 7 hz hfl hmc T.i_InvalidSymbol T.b_isinstance) (ve_one (ve_eq (ve_len T.b_len ((vo_callH (H__law_reduced T) (roomh_suite (hr.mono (show 1 ≤ 2 by decide))) (hotc_suite hz hfl) T.d__law_reduced.g T.d__law_reduced.F.kp T.d__law_reduced.b (va_cons (ve_var (a := s151) 2) va_nil))).ve1) ve_int))) (by simp only [M.bind_assoc, M.ok_bind])) (fun r => by exact ⟨_, rfl, rfl⟩) (sub_anys _))) (fun s170 => (vs_ifxp (x := ((!true) || ((!decide ((2 : Int) = (2 : Int))) || (!decide (copies_155 = (p_138, s151)))))) (VT.congr ((vw_or_p (vt_not (vt_val (ve_isiS (n := "tuple") "tuple" true T.b_isinstance T.b_tuple (ve_var (a := s170) 8) (fun _ => rfl) (by decide +kernel)))) (vw_or_p (vt_ne (ve_lenP (k := 2) T.b_len (ve_var (a := s170) 8)) ve_int) (vw_or1 (vt_neD (by exact hr.units) (ve_var (a := copies_155) 4) (ve_tup (fun x : (List Int) × (List Int) × Unit => (x.1, x.2.1)) (va_cons (ve_var (a := p_138) 1) (va_cons (ve_var (a := s151) 2) va_nil)))))))).vt (by simp only [M.bind_assoc, M.ok_bind])) (vs_retp (x := false) (t := false) (VX.congr ve_bl (by simp only [M.bind_assoc, M.ok_bind])) (by exact rfl) (sub_anys _)) (vs_asg (VX.congr (ve_var (a := s170) 8) (by simp only [M.bind_assoc, M.ok_bind])) (vg_tup (fun x : ((List Int) × (List Int)) => (x.1, x.2, ())) rfl (vgs_cons (vg_name (α := (List Int)) (n := 11) 9 (sc_law_second_part).nd) (vgs_cons (vg_name (α := (List Int)) (n := 11) 10 (sc_law_second_part).nd) vgs_nil)) (fun _ => rfl) (fun _ => rfl)) (fun t175 => (vs_ifx (b := []) (VT.congr ((vw_or (vt_not (vt_val (ve_call (G__law_is_list T) hr T.d__law_is_list.g T.d__law_is_list.F.kp T.d__law_is_list.b (va_cons (ve_var (a := t175.1) 9) (va_cons ve_int (va_cons ve_int va_nil)))))) (vw_or (vt_not (vt_val (ve_call (G__law_is_list T) hr T.d__law_is_list.g T.d__law_is_list.F.kp T.d__law_is_list.b (va_cons (ve_var (a := t175.2) 10) (va_cons ve_int (va_cons ve_int va_nil)))))) (vw_or (vt_neD (by exact hr.units) ((vo_call (G__law_reduced T) (hr.mono (show 1 ≤ 2 by decide)) T.d__law_reduced.g T.d__law_reduced.F.kp T.d__law_reduced.b (va_cons (ve_var (a := t175.1) 9) va_nil))).ve1 (ve_var (a := t175.1) 9)) (vw_or1 (vt_neD (by exact hr.units) ((vo_call (G__law_reduced T) (hr.mono (show 1 ≤ 2 by decide)) T.d__law_reduced.g T.d__law_reduced.F.kp T.d__law_reduced.b (va_cons (ve_var (a := t175.2) 10) va_nil))).ve1 (ve_var (a := t175.2) 10))))))).vt (by simp only [M.bind_assoc, M.ok_bind])) (vs_retp (x := false) (t := false) (VX.congr ve_bl (by simp only [M.bind_assoc, M.ok_bind])) (by exact rfl) (sub_anys _)) (vs_ret (f := fun r => r) (VX.congr (ve_and (ve_cmpI op_lt (ve_len T.b_len (ve_var (a := t175.2) 10)) (ve_len T.b_len ((vo_call (G__law_reduced T) (hr.mono (show 1 ≤ 2 by decide)) T.d__law_reduced.g T.d__law_reduced.F.kp T.d__law_reduced.b (va_cons (ve_var (a := s151) 2) va_nil))).ve1) (nomark _)) (ve_one (ve_eqD (by exact hr.units) ((vo_call (G__law_sum T) hr T.d__law_sum.g T.d__law_sum.F.kp T.d__law_sum.b (va_cons ((vo_call (G__law_product T) hr T.d__law_product.g T.d__law_product.F.kp T.d__law_product.b (va_cons (ve_var (a := t175.1) 9) (va_cons (ve_var (a := s151) 2) va_nil)))).ve1 (va_cons (ve_var (a := t175.2) 10) va_nil)))).ve1 ((vo_call (G__law_reduced T) (hr.mono (show 1 ≤ 2 by decide)) T.d__law_reduced.g T.d__law_reduced.F.kp T.d__law_reduced.b (va_cons (ve_var (a := p_138) 1) va_nil))).ve1))) (by simp only [M.bind_assoc, M.ok_bind])) (fun r => by exact rfl) (sub_anys _)) (sub_anys _))) (sub_anys _)) (sub_anys _))) (sub_anys _)) (sub_anys _)) (sub_anys _)) (sub_anys _))) (sub_anys _))) (sub_anys _))) (sub_anys _))) (sub_anys _))) (sub_anys _))) (sub_anys _))) (sub_anys _))
theorem G__law_first_part (T : Txt K mg a d) : FnOk P w K mg base (L2N.CX P w) 4 (a 22) (d 22) ["script"] (spF K mg ((eCons eNil) : (List Int) × Unit → List D) (fun r : Bool => O.imm (enc r)) (fun x : (List Int) × Unit => m__law_first_part x.1)) := by
  refine fn_ok T.d__law_first_part.F sc_law_first_part (fun _ => rfl) fun cdv Ar outer s H E hr X hX x => ?_
  subst hX
  obtain ⟨p_script, _⟩ := x
  show VS _ _ _ _ _ (m__law_first_part p_script)
  unfold m__law_first_part
  exact (vs_set 1 (sc_law_first_part).nd (VX.congr (ve_modK (ve_call (G__law_cell T) (hr.mono (show 1 ≤ 3 by decide)) T.d__law_cell.g T.d__law_cell.F.kp T.d__law_cell.b (va_cons (ve_var (a := p_script) 0) (va_cons ve_int va_nil))) ve_int) (by simp only [M.bind_assoc, M.ok_bind])) (fun a_191 => (vs_set 2 (sc_law_first_part).nd (VX.congr (ve_modK (ve_call (G__law_cell T) (hr.mono (show 1 ≤ 3 by decide)) T.d__law_cell.g T.d__law_cell.F.kp T.d__law_cell.b (va_cons (ve_var (a := p_script) 0) (va_cons ve_int va_nil))) ve_int) (by simp only [M.bind_assoc, M.ok_bind])) (fun b_193 => (vs_set 3 (sc_law_first_part).nd (VX.congr (ve_modK (ve_call (G__law_cell T) (hr.mono (show 1 ≤ 3 by decide)) T.d__law_cell.g T.d__law_cell.F.kp T.d__law_cell.b (va_cons (ve_var (a := p_script) 0) (va_cons ve_int va_nil))) ve_int) (by simp only [M.bind_assoc, M.ok_bind])) (fun c_195 => (vs_set 4 (sc_law_first_part).nd (VX.congr (ve_binI op_sub (ve_modK (ve_call (G__law_cell T) (hr.mono (show 1 ≤ 3 by decide)) T.d__law_cell.g T.d__law_cell.F.kp T.d__law_cell.b (va_cons (ve_var (a := p_script) 0) (va_cons ve_int va_nil))) ve_int) ve_int) (by simp only [M.bind_assoc, M.ok_bind])) (fun odd_198 => (vs_ifj (fun s202 : Int => [sI (p_script : (List Int)), sI (a_191 : Int), sI (b_193 : Int), sI (c_195 : Int), sI (s202 : Int), .any, .any, .any]) (VT.congr (vt_eq (ve_modK (ve_divK (ve_call (G__law_cell T) (hr.mono (show 1 ≤ 3 by decide)) T.d__law_cell.g T.d__law_cell.F.kp T.d__law_cell.b (va_cons (ve_var (a := p_script) 0) (va_cons ve_int va_nil))) ve_int) ve_int) ve_int) (by simp only [M.bind_assoc, M.ok_bind])) (vs_set 4 (sc_law_first_part).nd (VX.congr (ve_binI op_add (ve_mulR (ve_var (a := odd_198) 4) ve_int) ve_int) (by simp only [M.bind_assoc, M.ok_bind])) (fun odd_203 => (vs_nil (t := odd_203) (by exact (.eq (.eq (.eq (.eq (.eq (.any (.any (.any .nil))))))))))) (sub_anys _)) (vs_nil (t := odd_198) (by exact (.eq (.eq (.eq (.eq (.eq (.any (.any (.any .nil)))))))))) (fun s202 => (vs_ifx (b := []) (VT.congr ((vw_or (vt_not (vt_val (ve_call (G__law_is_int T) (hr.mono (show 1 ≤ 3 by decide)) T.d__law_is_int.g T.d__law_is_int.F.kp T.d__law_is_int.b (va_cons (ve_call (G_multiply T) (hr.mono (show 2 ≤ 3 by decide)) T.d_multiply.g T.d_multiply.F.kp T.d_multiply.b (va_cons (ve_var (a := a_191) 1) (va_cons (ve_var (a := b_193) 2) va_nil))) va_nil)))) (vw_or1 (vt_not (vt_val (ve_call (G__law_is_int T) (hr.mono (show 1 ≤ 3 by decide)) T.d__law_is_int.g T.d__law_is_int.F.kp T.d__law_is_int.b (va_cons (ve_call (G_add T) (hr.mono (show 2 ≤ 3 by decide)) T.d_add.g T.d_add.F.kp T.d_add.b (va_cons (ve_var (a := a_191) 1) (va_cons (ve_var (a := b_193) 2) va_nil))) va_nil))))))).vt (by simp only [M.bind_assoc, M.ok_bind])) (vs_retp (x := false) (t := false) (VX.congr ve_bl (by simp only [M.bind_assoc, M.ok_bind])) (by exact rfl) (sub_anys _)) (vs_ifx (b := []) (VT.congr ((vw_or (vt_ne (ve_call (G_multiply T) (hr.mono (show 2 ≤ 3 by decide)) T.d_multiply.g T.d_multiply.F.kp T.d_multiply.b (va_cons (ve_var (a := a_191) 1) (va_cons (ve_var (a := b_193) 2) va_nil))) (ve_call (G__law_times T) (hr.mono (show 1 ≤ 3 by decide)) T.d__law_times.g T.d__law_times.F.kp T.d__law_times.b (va_cons (ve_var (a := a_191) 1) (va_cons (ve_var (a := b_193) 2) va_nil)))) (vw_or (vt_ne (ve_call (G_add T) (hr.mono (show 2 ≤ 3 by decide)) T.d_add.g T.d_add.F.kp T.d_add.b (va_cons (ve_var (a := a_191) 1) (va_cons (ve_var (a := b_193) 2) va_nil))) (ve_binI op_xor (ve_var (a := a_191) 1) (ve_var (a := b_193) 2))) (vw_or1 (vt_ne (ve_call (G_multiply T) (hr.mono (show 2 ≤ 3 by decide)) T.d_multiply.g T.d_multiply.F.kp T.d_multiply.b (va_cons (ve_var (a := b_193) 2) (va_cons (ve_var (a := a_191) 1) va_nil))) (ve_call (G_multiply T) (hr.mono (show 2 ≤ 3 by decide)) T.d_multiply.g T.d_multiply.F.kp T.d_multiply.b (va_cons (ve_var (a := a_191) 1) (va_cons (ve_var (a := b_193) 2) va_nil)))))))).vt (by simp only [M.bind_assoc, M.ok_bind])) (vs_retp (x := false) (t := false) (VX.congr ve_bl (by simp only [M.bind_assoc, M.ok_bind])) (by exact rfl) (sub_anys _)) (vs_ifx (b := []) (VT.congr (vt_ne (ve_call (G_multiply T) (hr.mono (show 2 ≤ 3 by decide)) T.d_multiply.g T.d_multiply.F.kp T.d_multiply.b (va_cons (ve_var (a := a_191) 1) (va_cons (ve_call (G_multiply T) (hr.mono (show 2 ≤ 3 by decide)) T.d_multiply.g T.d_multiply.F.kp T.d_multiply.b (va_cons (ve_var (a := b_193) 2) (va_cons (ve_var (a := c_195) 3) va_nil))) va_nil))) (ve_call (G_multiply T) (hr.mono (show 2 ≤ 3 by decide)) T.d_multiply.g T.d_multiply.F.kp T.d_multiply.b (va_cons (ve_call (G_multiply T) (hr.mono (show 2 ≤ 3 by decide)) T.d_multiply.g T.d_multiply.F.kp T.d_multiply.b (va_cons (ve_var (a := a_191) 1) (va_cons (ve_var (a := b_193) 2) va_nil))) (va_cons (ve_var (a := c_195) 3) va_nil)))) (by simp only [M.bind_assoc, M.ok_bind])) (vs_retp (x := false) (t := false) (VX.congr ve_bl (by simp only [M.bind_assoc, M.ok_bind])) (by exact rfl) (sub_anys _)) (vs_ifx (b := []) (VT.congr (vt_ne (ve_call (G_multiply T) (hr.mono (show 2 ≤ 3 by decide)) T.d_multiply.g T.d_multiply.F.kp T.d_multiply.b (va_cons (ve_var (a := a_191) 1) (va_cons (ve_call (G_add T) (hr.mono (show 2 ≤ 3 by decide)) T.d_add.g T.d_add.F.kp T.d_add.b (va_cons (ve_var (a := b_193) 2) (va_cons (ve_var (a := c_195) 3) va_nil))) va_nil))) (ve_call (G_add T) (hr.mono (show 2 ≤ 3 by decide)) T.d_add.g T.d_add.F.kp T.d_add.b (va_cons (ve_call (G_multiply T) (hr.mono (show 2 ≤ 3 by decide)) T.d_multiply.g T.d_multiply.F.kp T.d_multiply.b (va_cons (ve_var (a := a_191) 1) (va_cons (ve_var (a := b_193) 2) va_nil))) (va_cons (ve_call (G_multiply T) (hr.mono (show 2 ≤ 3 by decide)) T.d_multiply.g T.d_multiply.F.kp T.d_multiply.b (va_cons (ve_var (a := a_191) 1) (va_cons (ve_var (a := c_195) 3) va_nil))) va_nil)))) (by simp only [M.bind_assoc, M.ok_bind])) (vs_retp (x := false) (t := false) (VX.congr ve_bl (by simp only [M.bind_assoc, M.ok_bind])) (by exact rfl) (sub_anys _)) (vs_set 5 (sc_law_first_part).nd (VX.congr (VX.inr ((ve_tup (fun x : Str × Bool × Unit => (x.1, x.2.1)) (va_cons ve_str (va_cons ve_bl va_nil))))) (by simp only [M.bind_assoc, M.ok_bind])) (fun due_222 => (vs_ifjp (x := (decide (a_191 > (0 : Int)))) (fun s223 : (Int ⊕ (Str × Bool)) => [sI (p_script : (List Int)), sI (a_191 : Int), sI (b_193 : Int), sI (c_195 : Int), sI (s202 : Int), sI (s223 : (Int ⊕ (Str × Bool))), .any, .any]) (VT.congr (vt_cmpI op_gt (ve_var (a := a_191) 1) ve_int (nomark _)) (by simp only [M.bind_assoc, M.ok_bind])) (vs_set 5 (sc_law_first_part).nd (VX.congr (VX.inl ((ve_idx ((vo_lc [("k", 7)] rfl (sc_law_first_part).nd (vi_rangeK T.b_range ve_int (by decide)) (blkOk_by (N := N_law_first_part) (sc := defScope s__law_first_part) (by decide +kernel)) (fun _ _ _ _ _ => (vg_name (α := Int) (n := 8) 7 (sc_law_first_part).nd)) (fun (a224 : Int) _ _ _ _ _ => ((vk_one (VT.congr (vt_eq (ve_call (G__law_times T) (hr.mono (show 1 ≤ 3 by decide)) T.d__law_times.g T.d__law_times.F.kp T.d__law_times.b (va_cons (ve_var (a := a_191) 1) (va_cons (ve_var (a := a224) 7) va_nil))) ve_int) (by simp only [M.bind_assoc, M.ok_bind]))) : VK _ _ _ ((m__law_times a_191 a224) >>= fun x225 => M.ok (decide (x225 = (1 : Int)))))) (fun (a224 : Int) _ _ _ _ _ => (VX.congr (ve_var (a := a224) 7) (by simp only [M.bind_assoc, M.ok_bind]) : VE _ _ _ (M.ok a224))))).ve1 ve_int))) (by simp only [M.bind_assoc, M.ok_bind])) (fun due_228 => (vs_nil (t := due_228) (by exact (.eq (.eq (.eq (.eq (.eq (.eq (.any (.any .nil))))))))))) (sub_anys _)) (vs_nil (t := due_222) (by exact (.eq (.eq (.eq (.eq (.eq (.eq (.any (.any .nil)))))))))) (fun s223 => (vs_ifx (b := []) (VT.congr (vt_neDc (by exact hr.units) (ve_call (G__law_tried T) hr T.d__law_tried.g T.d__law_tried.F.kp T.d__law_tried.b (va_cons ve_int (va_cons (ve_var (a := a_191) 1) (va_cons ve_int va_nil)))) (ve_var (a := s223) 5)) (by simp only [M.bind_assoc, M.ok_bind])) (vs_retp (x := false) (t := false) (VX.congr ve_bl (by simp only [M.bind_assoc, M.ok_bind])) (by exact rfl) (sub_anys _)) (vs_ifxp (x := ((decide (s202 < (0 : Int))) || (decide (s202 > (15 : Int))))) (VT.congr ((vw_or_p (vt_cmpI op_lt (ve_var (a := s202) 4) ve_int (nomark _)) (vw_or1 (vt_cmpI op_gt (ve_var (a := s202) 4) ve_int (nomark _))))).vt (by simp only [M.bind_assoc, M.ok_bind])) (vs_set 6 (sc_law_first_part).nd (VX.congr ((vo_lst (fun x : (Int ⊕ (Str × Bool)) × (Int ⊕ (Str × Bool)) × (Int ⊕ (Str × Bool)) × (Int ⊕ (Str × Bool)) × (Int ⊕ (Str × Bool)) × Unit => ([x.1, x.2.1, x.2.2.1, x.2.2.2.1, x.2.2.2.2.1] : List (Int ⊕ (Str × Bool)))) (va_cons (ve_call (G__law_tried T) hr T.d__law_tried.g T.d__law_tried.F.kp T.d__law_tried.b (va_cons ve_int (va_cons (ve_var (a := s202) 4) (va_cons (ve_var (a := a_191) 1) va_nil)))) (va_cons (ve_call (G__law_tried T) hr T.d__law_tried.g T.d__law_tried.F.kp T.d__law_tried.b (va_cons ve_int (va_cons (ve_var (a := a_191) 1) (va_cons (ve_var (a := s202) 4) va_nil)))) (va_cons (ve_call (G__law_tried T) hr T.d__law_tried.g T.d__law_tried.F.kp T.d__law_tried.b (va_cons ve_int (va_cons (ve_var (a := s202) 4) (va_cons (ve_var (a := a_191) 1) va_nil)))) (va_cons (ve_call (G__law_tried T) hr T.d__law_tried.g T.d__law_tried.F.kp T.d__law_tried.b (va_cons ve_int (va_cons (ve_var (a := a_191) 1) (va_cons (ve_var (a := s202) 4) va_nil)))) (va_cons (ve_call (G__law_tried T) hr T.d__law_tried.g T.d__law_tried.F.kp T.d__law_tried.b (va_cons ve_int (va_cons (ve_var (a := s202) 4) (va_cons ve_int va_nil)))) va_nil))))))).ve1 (by simp only [M.bind_assoc, M.ok_bind])) (fun bad_235 => (vs_ret (f := fun r => r) (VX.congr (ve_eqDc (by exact hr.units) (ve_var (a := bad_235) 6) ((vo_rep ((vo_lst (fun x : (Int ⊕ (Str × Bool)) × Unit => ([x.1] : List (Int ⊕ (Str × Bool)))) (va_cons (VX.inr ((ve_tup (fun x : Str × Bool × Unit => (x.1, x.2.1)) (va_cons ve_str (va_cons ve_bl va_nil))))) va_nil))).ve1 ve_int)).ve1) (by simp only [M.bind_assoc, M.ok_bind])) (fun r => by exact rfl) (sub_anys _))) (sub_anys _)) (vs_ret (f := fun r => r) (VX.congr (ve_eqDc (by exact hr.units) (ve_call (G__law_tried T) hr T.d__law_tried.g T.d__law_tried.F.kp T.d__law_tried.b (va_cons ve_int (va_cons (ve_var (a := s202) 4) (va_cons (ve_var (a := a_191) 1) va_nil)))) (VX.inl ((ve_call (G__law_times T) (hr.mono (show 1 ≤ 3 by decide)) T.d__law_times.g T.d__law_times.F.kp T.d__law_times.b (va_cons (ve_var (a := s202) 4) (va_cons (ve_var (a := a_191) 1) va_nil)))))) (by simp only [M.bind_assoc, M.ok_bind])) (fun r => by exact rfl) (sub_anys _)) (sub_anys _)) (sub_anys _))) (sub_anys _))) (sub_anys _)) (sub_anys _)) (sub_anys _)) (sub_anys _)) (sub_anys _))) (sub_anys _))) (sub_anys _))) (sub_anys _))) (sub_anys _))) (sub_anys _))
theorem G_law (T : Txt K mg a d) : FnOk P w K mg base (L2N.CX P w) 5 (a 23) (d 23) ["script"] (spF K mg ((eCons eNil) : (List Int) × Unit → List D) (fun r : Bool => O.imm (enc r)) (fun x : (List Int) × Unit => m_law x.1)) := by
  refine fn_ok T.d_law.F sclaw (fun _ => rfl) fun cdv Ar outer s H E hr X hX x => ?_
  subst hX
  obtain ⟨p_script, _⟩ := x
  show VS _ _ _ _ _ (m_law p_script)
  unfold m_law
  exact (vs_ret (f := fun r => r) (VX.congr (ve_and (ve_call (G__law_first_part T) hr T.d__law_first_part.g T.d__law_first_part.F.kp T.d__law_first_part.b (va_cons (ve_var (a := p_script) 0) va_nil)) (ve_one (ve_call (G__law_second_part T) (hr.mono (show 3 ≤ 4 by decide)) T.d__law_second_part.g T.d__law_second_part.F.kp T.d__law_second_part.b (va_cons (ve_var (a := p_script) 0) va_nil)))) (by simp only [M.bind_assoc, M.ok_bind])) (fun r => by exact rfl) (sub_anys _))
end
end Q

set_option Elab.async false
set_option linter.all false
set_option maxRecDepth 100000
namespace Vc
open PySem PySem.Spec PyProof.Rows L2
/-! ### helpers for plain laws -/
def okO {α : Type} : M α → Option α
  | .ok a => some a
  | _ => none
theorem of_okO {α : Type} {m : M α} {a : α} (h : okO m = some a) : m = .ok a := by
  cases m with
  | ok b => cases h; rfl
  | _ => cases h
theorem bAnd_l (a : Bool) (y : M Bool) : bAnd (.ok a) y = if a then y else .ok false := by cases a <;> rfl
theorem bOr_l (a : Bool) (y : M Bool) : bOr (.ok a) y = if a then .ok true else y := by cases a <;> rfl
theorem getI_lt {α : Type} {l : List α} {i : Nat} (h : i < l.length) : getI l (i : Int) = .ok l[i] := getI_nat (List.getElem?_eq_getElem h)
theorem getI_pos {α : Type} {l : List α} {k : Int} (h0 : 0 ≤ k) {a : α} (h : l[k.toNat]? = some a) : getI l k = .ok a := by
  have := getI_nat (l := l) h
  rwa [Int.toNat_of_nonneg h0] at this
theorem setL_lt {α : Type} {l : List α} {i : Nat} (a : α) (h : i < l.length) : setL l (i : Int) a = .ok (l.set i a) := by
  unfold setL
  have : ixN l.length (i : Int) = some i := by
    unfold ixN
    rw [if_pos (by omega)]
    simp [h]
  rw [this]
theorem rng_nat (n : Nat) : rng 0 (n : Int) = (List.range n).map fun i : Nat => (i : Int) := by
  unfold rng
  rw [Int.sub_zero, Int.toNat_natCast]
  apply List.map_congr_left
  intro a _
  omega
theorem rOk_nat {n : Nat} (h : n < 2 ^ 62) : rOk (n : Int) := ⟨by omega, by omega⟩
theorem loopS_append {α S : Type} (f : S → α → M S) : ∀ (l l' : List α) (s : S), loopS f (l ++ l') s = loopS f l s >>= fun s' => loopS f l' s'
  | [], l', s => by rw [List.nil_append, loopS_nil, M.ok_bind]
  | a :: l, l', s => by
    rw [List.cons_append, loopS_cons, loopS_cons, M.bind_assoc]
    congr 1
    funext s'
    exact loopS_append f l l' s'
/-- a loop that keeps an invariant of its list -/
theorem loopS_inv {α S : Type} {f : S → α → M S} (I : Nat → S → Prop) {l : List α} {s : S} (h0 : I 0 s) (hs : ∀ i (h : i < l.length) s, I i s → ∃ s', f s l[i] = .ok s' ∧ I (i + 1) s') : ∃ s', loopS f l s = .ok s' ∧ I l.length s' := by
  induction l generalizing s I with
  | nil => exact ⟨s, rfl, h0⟩
  | cons a l ih =>
    obtain ⟨s1, e1, h1⟩ := hs 0 (by simp) s h0
    obtain ⟨s2, e2, h2⟩ := ih (fun i => I (i + 1)) h1 fun i h s hI => hs (i + 1) (by simpa using h) s hI
    refine ⟨s2, ?_, h2⟩
    rw [loopS_cons]
    rw [show f s a = .ok s1 from e1, M.ok_bind, e2]
theorem loopS_inv' {α S : Type} {f : S → α → M S} (I : Nat → S → Prop) {T : S} {l : List α} {s : S} (h0 : I 0 s) (hs : ∀ i (h : i < l.length) s, I i s → ∃ s', f s l[i] = .ok s' ∧ I (i + 1) s') (hT : ∀ s, I l.length s → s = T) : loopS f l s = .ok T := by
  obtain ⟨s', e, h⟩ := loopS_inv I h0 hs
  rw [e, hT _ h]
/-- a loop that folds -/
theorem loopS_fold {α S : Type} {f : S → α → M S} {g : S → α → S} (l : List α) (s : S) (h : ∀ s, ∀ a ∈ l, f s a = .ok (g s a)) : loopS f l s = .ok (l.foldl g s) := by
  induction l generalizing s with
  | nil => rfl
  | cons a l ih =>
    rw [loopS_cons, h s a (by simp), M.ok_bind, ih _ fun s b hb => h s b (by simp [hb])]
    rfl
theorem loopM_all {α S τ : Type} {f : S → α → M (Stp S τ)} {l : List α} {s : S} (h : ∀ a ∈ l, f s a = .ok (.nx s)) : loopM f l s = .ok (.nx s) := by
  induction l with
  | nil => rfl
  | cons a l ih =>
    rw [loopM_cons, h a (by simp), M.ok_bind]
    exact ih fun b hb => h b (by simp [hb])
theorem repM_nat {α : Type} {x : List α} {n : Nat} (h1 : n < 2 ^ 62) (h2 : x.length * n ≤ sizeLine) : repM x (n : Int) = .ok (List.replicate n x).flatten := by
  unfold repM
  rw [chk_ok ⟨by omega, by omega, by rw [Int.toNat_natCast]; exact h2⟩, M.ok_bind, Int.toNat_natCast]
theorem rep1 {α : Type} (a : α) (n : Nat) : (List.replicate n [a]).flatten = List.replicate n a := by
  induction n with
  | zero => rfl
  | succ n ih => rw [List.replicate_succ, List.flatten_cons, ih]; rfl
theorem repM_one {α : Type} {a : α} {k : Int} (h1 : k < 2 ^ 24) (h0 : -(2 ^ 62) ≤ k) : repM [a] k = .ok (List.replicate k.toNat a) := by
  unfold repM
  have : sizeLine = 2 ^ 24 := rfl
  rw [chk_ok ⟨by omega, by omega, by rw [List.length_singleton, this]; omega⟩, M.ok_bind, rep1]
theorem catM_ok {α : Type} {x y : List α} (h : x.length + y.length ≤ 2 ^ 24) : catM x y = .ok (x ++ y) := by
  unfold catM
  rw [chk_ok (show _ ≤ sizeLine from h), M.ok_bind]
theorem cut_all {α : Type} (l : List α) : cutL l none none = l := by
  unfold cutL HT.sIx
  simp
theorem cut_to {α : Type} (l : List α) {k : Nat} (h : k ≤ l.length) : cutL l none (some (k : Int)) = l.take k := by
  unfold cutL
  rw [HT.sIx_nat, HT.sIx_none, Nat.min_eq_left h]
  simp
theorem lcGo_map {α β : Type} {t : α → M Bool} {f : α → M β} {p : α → Bool} {h : α → β} : ∀ {l : List α}, (∀ a ∈ l, t a = .ok (p a)) → (∀ a ∈ l, p a = true → f a = .ok (h a)) → lcGo t f l = .ok ((l.filter p).map h)
  | [], _, _ => rfl
  | a :: l, ht, hf => by
    show (t a >>= fun c => if c then f a >>= fun b => lcGo t f l >>= fun r => .ok (b :: r) else lcGo t f l) = _
    rw [ht a (by simp), M.ok_bind, lcGo_map (fun b hb => ht b (by simp [hb])) fun b hb => hf b (by simp [hb]), List.filter_cons]
    cases e : p a with
    | true => rw [if_pos rfl, hf a (by simp) e, M.ok_bind, M.ok_bind, if_pos rfl]; rfl
    | false => rw [if_neg Bool.false_ne_true, if_neg Bool.false_ne_true]
theorem lcM_filter {α β : Type} {t : α → M Bool} {f : α → M β} {p : α → Bool} {h : α → β} {l : List α} (hl : l.length ≤ 2 ^ 24) (ht : ∀ a ∈ l, t a = .ok (p a)) (hf : ∀ a ∈ l, p a = true → f a = .ok (h a)) : lcM t f l = .ok ((l.filter p).map h) := by
  unfold lcM
  rw [chk_ok (show _ ≤ sizeLine from hl), M.ok_bind, lcGo_map ht hf]
  rfl
theorem lcM_map {α β : Type} {f : α → M β} {h : α → β} {l : List α} (hl : l.length ≤ 2 ^ 24) (hf : ∀ a ∈ l, f a = .ok (h a)) : lcM (fun _ => .ok true) f l = .ok (l.map h) := by
  rw [lcM_filter (p := fun _ => true) hl (fun _ _ => rfl) fun a ha _ => hf a ha, List.filter_eq_self.mpr fun _ _ => rfl]
theorem enumL_len {α : Type} (l : List α) : (enumL l).length = l.length := by unfold enumL; rw [List.length_map, List.length_zipIdx]
theorem enumL_at {α : Type} [Enc α] {l : List α} {i : Nat} (h : i < (enumL l).length) : (enumL l)[i] = ((i : Int), l[i]'(by rw [← enumL_len l]; exact h)) := by
  obtain ⟨h1, h2⟩ := enumL_get (List.getElem?_eq_getElem h)
  refine Prod.ext h2 ?_
  rw [List.getElem?_eq_getElem (by rw [← enumL_len l]; exact h)] at h1
  exact (Option.some.inj h1).symm
theorem rngD_nat {m : Nat} : rngD ((m : Int) - 1) (-1) = (List.range m).map fun i : Nat => ((m - 1 - i : Nat) : Int) := by
  unfold rngD
  rw [show ((m : Int) - 1 - -1).toNat = m by omega]
  apply List.map_congr_left
  intro a ha
  have := List.mem_range.mp ha
  omega
/-- one cell of the script -/
def scell (ns : List Int) (k : Nat) : Int := ns.getD k 0
end Vc

set_option Elab.async false
set_option linter.all false
set_option maxRecDepth 100000
namespace Q
open PySem PySem.Spec PyProof.Rows L2 Vc
/-! ### the field -/
abbrev F := Fin 16
def g (a : F) : Int := (a.val : Int)
def fm (a b : F) : F := Fin.ofNat 16 (((k_PRODUCTS.l.getD a.val ⟨[]⟩).l.getD b.val 0).toNat)
def fa (a b : F) : F := a ^^^ b
def fi (a : F) : F := Fin.ofNat 16 ((k_INVERSES.l.getD a.val 0).toNat)
theorem xor_g : ∀ a b : F, Builtin.bitXor (g a) (g b) = g (fa a b) := by decide +kernel
theorem mul_g : ∀ a b : F, okO (m_multiply (g a) (g b)) = some (g (fm a b)) := by decide +kernel
theorem add_g : ∀ a b : F, okO (m_add (g a) (g b)) = some (g (fa a b)) := by decide +kernel
theorem times_g : ∀ a b : F, okO (m__law_times (g a) (g b)) = some (g (fm a b)) := by decide +kernel
theorem too_g : ∀ a b : F, okO (m__law_times_too (g a) (g b)) = some (g (fm a b)) := by decide +kernel
theorem tab_g : ∀ a b : F, okO (getI k_PRODUCTS.l (g a) >>= fun x => getI x.l (g b)) = some (g (fm a b)) := by decide +kernel
theorem inv_g : ∀ a : F, okO (getI k_INVERSES.l (g a)) = some (g (fi a)) := by decide +kernel
theorem fm_comm : ∀ a b : F, fm a b = fm b a := by decide +kernel
theorem fm_assoc : ∀ a b c : F, fm a (fm b c) = fm (fm a b) c := by decide +kernel
theorem fm_add : ∀ a b c : F, fm a (fa b c) = fa (fm a b) (fm a c) := by decide +kernel
theorem fm_zero : ∀ a : F, fm a 0 = 0 := by decide +kernel
theorem zero_fm : ∀ a : F, fm 0 a = 0 := by decide +kernel
theorem fm_one : ∀ a : F, fm a 1 = a := by decide +kernel
theorem fa_comm : ∀ a b : F, fa a b = fa b a := by decide +kernel
theorem fa_assoc : ∀ a b c : F, fa a (fa b c) = fa (fa a b) c := by decide +kernel
theorem fa_zero : ∀ a : F, fa a 0 = a := by decide +kernel
theorem zero_fa : ∀ a : F, fa 0 a = a := by decide +kernel
theorem fa_self : ∀ a : F, fa a a = 0 := by decide +kernel
theorem fi_mul : ∀ a : F, a ≠ 0 → fm (fi a) a = 1 := by decide +kernel
theorem g_inj : ∀ a b : F, g a = g b → a = b := by decide +kernel
theorem to_g {z : Int} (h0 : 0 ≤ z) (h1 : z < 16) : ∃ a : F, z = g a := ⟨⟨z.toNat, by omega⟩, by show z = ((z.toNat : Nat) : Int); omega⟩
theorem mod_g (z : Int) : ∃ a : F, z % 16 = g a := to_g (Int.emod_nonneg _ (by decide)) (Int.emod_lt_of_pos _ (by decide))
theorem multiply_ok (a b : F) : m_multiply (g a) (g b) = .ok (g (fm a b)) := of_okO (mul_g a b)
theorem add_ok (a b : F) : m_add (g a) (g b) = .ok (g (fa a b)) := of_okO (add_g a b)
theorem times_ok (a b : F) : m__law_times (g a) (g b) = .ok (g (fm a b)) := of_okO (times_g a b)
theorem too_ok (a b : F) : m__law_times_too (g a) (g b) = .ok (g (fm a b)) := of_okO (too_g a b)
theorem tab_ok (a b : F) : (getI k_PRODUCTS.l (g a) >>= fun x => getI x.l (g b)) = .ok (g (fm a b)) := of_okO (tab_g a b)
theorem cell_ok (ns : List Int) (k : Nat) : m__law_cell ns (k : Int) = .ok (scell ns k) := by
  unfold m__law_cell scell
  by_cases h : k < ns.length
  · rw [if_pos (by simpa using h), getI_lt h, M.ok_bind, List.getD_eq_getElem?_getD, List.getElem?_eq_getElem h]
    rfl
  · rw [if_neg (by simpa using h), List.getD_eq_getElem?_getD, List.getElem?_eq_none (by omega)]
    rfl
theorem isint_ok (z : Int) : m__law_is_int z = .ok true := rfl
/-! ### the first part -/
def refd : Int ⊕ (Str × Bool) := .inr ("refused", true)
theorem check_bad {a : Int} {l : List Int} (h : ∃ x ∈ l, x < 0 ∨ 16 ≤ x) : m_check_symbols ⟨l⟩ = .exc ⟨"InvalidSymbol", []⟩ := by
  unfold m_check_symbols
  show loopS _ l () >>= _ = _
  induction l with
  | nil => obtain ⟨x, hx, _⟩ := h; cases hx
  | cons y l ih =>
    rw [loopS_cons]
    by_cases hy : y < 0 ∨ 16 ≤ y
    · rw [if_pos (by simpa using hy), M.exc_bind, M.exc_bind]
    · rw [if_neg (by simpa using hy), M.ok_bind]
      obtain ⟨x, hx, hb⟩ := h
      rcases List.mem_cons.mp hx with rfl | hx
      · exact absurd hb hy
      · exact ih ⟨x, hx, hb⟩
theorem tried_exc (q a b : Int) (h : (q = 0 ∧ m_add a b = .exc ⟨"InvalidSymbol", []⟩) ∨ (q = 1 ∧ m_multiply a b = .exc ⟨"InvalidSymbol", []⟩) ∨ (q = 2 ∧ m_inverse a = .exc ⟨"InvalidSymbol", []⟩)) : m__law_tried q a b = .ok refd := by
  unfold m__law_tried
  rcases h with ⟨rfl, h⟩ | ⟨rfl, h⟩ | ⟨rfl, h⟩ <;> rw [h] <;> rfl
theorem tried_mul (a b : F) : m__law_tried 1 (g a) (g b) = .ok (.inl (g (fm a b))) := by
  unfold m__law_tried
  rw [multiply_ok]
  rfl
def beqT (x y : M (Int ⊕ (Str × Bool))) : Bool := match x, y with
  | .ok a, .ok b => decide (a = b)
  | _, _ => false
theorem of_beqT {x : M (Int ⊕ (Str × Bool))} {b : Int ⊕ (Str × Bool)} (h : beqT x (.ok b) = true) : x = .ok b := by
  cases x with
  | ok a => rw [show a = b by simpa [beqT] using h]
  | _ => cases h
theorem tried_inv : ∀ a : F, a ≠ 0 → beqT (m__law_tried 2 (g a) 0) (.ok (.inl (g (fi a)))) = true := by decide +kernel
theorem due_g : ∀ a : F, a ≠ 0 → okO ((lcM (fun (k : Int) => ((m__law_times (g a) k) >>= fun x => M.ok (decide (x = (1 : Int))))) (fun (k : Int) => (M.ok k)) (rng 0 (16 : Int))) >>= fun x => getI x (0 : Int)) = some (g (fi a)) := by decide +kernel
theorem lay_l (i : Int) : Eqv.lay (.inl i : Int ⊕ (Str × Bool)) = true := rfl
theorem lay_r : Eqv.lay refd = true := by decide +kernel
theorem all_refd : okO ((M.ok refd >>= fun x230 => M.ok refd >>= fun x231 => M.ok refd >>= fun x232 => M.ok refd >>= fun x233 => M.ok refd >>= fun x234 => M.ok [x230, x231, x232, x233, x234]) >>= fun bad => (repM [Sum.inr (Str.ofString "refused", true)] 5 >>= fun x236 => Vc.chk (Eqv.lay bad = true ∧ Eqv.lay x236 = true) >>= fun _ => M.ok (decide (bad = x236))) >>= fun r => M.ok r) = some true := by decide +kernel
theorem exc_add {a b : Int} (h : a < 0 ∨ 16 ≤ a ∨ b < 0 ∨ 16 ≤ b) : m_add a b = .exc ⟨"InvalidSymbol", []⟩ := by
  unfold m_add
  rw [check_bad (a := 0) (by
    rcases h with h | h | h | h
    · exact ⟨a, by simp, .inl h⟩
    · exact ⟨a, by simp, .inr h⟩
    · exact ⟨b, by simp, .inl h⟩
    · exact ⟨b, by simp, .inr h⟩), M.exc_bind]
theorem exc_mul {a b : Int} (h : a < 0 ∨ 16 ≤ a ∨ b < 0 ∨ 16 ≤ b) : m_multiply a b = .exc ⟨"InvalidSymbol", []⟩ := by
  unfold m_multiply
  rw [check_bad (a := 0) (by
    rcases h with h | h | h | h
    · exact ⟨a, by simp, .inl h⟩
    · exact ⟨a, by simp, .inr h⟩
    · exact ⟨b, by simp, .inl h⟩
    · exact ⟨b, by simp, .inr h⟩), M.exc_bind]
theorem exc_inv {a : Int} (h : a < 0 ∨ 16 ≤ a) : m_inverse a = .exc ⟨"InvalidSymbol", []⟩ := by
  unfold m_inverse
  rw [check_bad (a := 0) ⟨a, by simp, h⟩, M.exc_bind]
theorem exc_inv0 : m_inverse 0 = .exc ⟨"InvalidSymbol", []⟩ := rfl
theorem first_ok (ns : List Int) : m__law_first_part ns = .ok true := by
  unfold m__law_first_part
  have c0 := cell_ok ns 0; have c1 := cell_ok ns 1; have c2 := cell_ok ns 2; have c3 := cell_ok ns 3
  rw [show ((0 : Nat) : Int) = 0 from rfl] at c0; rw [show ((1 : Nat) : Int) = 1 from rfl] at c1; rw [show ((2 : Nat) : Int) = 2 from rfl] at c2; rw [show ((3 : Nat) : Int) = 3 from rfl] at c3
  rw [c0, c1, c2, c3]
  simp only [M.ok_bind]
  obtain ⟨a, ha⟩ := mod_g (scell ns 0)
  obtain ⟨b, hb⟩ := mod_g (scell ns 1)
  obtain ⟨c, hc⟩ := mod_g (scell ns 2)
  rw [ha, hb, hc]
  generalize hodd : (if decide (scell ns 3 / 23 % 5 = 1) = true then M.ok ((scell ns 3 % 23 - 3) * 1000003 + 16) else M.ok (scell ns 3 % 23 - 3)) = odd
  have : ∃ o, odd = .ok o := by
    subst hodd
    split
    · exact ⟨_, rfl⟩
    · exact ⟨_, rfl⟩
  obtain ⟨o, rfl⟩ := this
  simp only [M.ok_bind, multiply_ok, add_ok, times_ok, isint_ok, xor_g, fm_comm b a, Bool.not_true, decide_true, bOr_ok, Bool.or_self, Bool.false_eq_true, if_false, fm_assoc a b c, fm_add a b c]
  have key : ∀ s : Int ⊕ (Str × Bool), m__law_tried 2 (g a) 0 = .ok s → Eqv.lay s = true → ((m__law_tried 2 (g a) 0 >>= fun x229 => Vc.chk (Eqv.lay x229 = true ∧ Eqv.lay s = true) >>= fun _ => M.ok (!decide (x229 = s))) >>= fun c240 => if c240 = true then M.ok false else
      if (decide (o < 0) || decide (o > 15)) = true then
        ((m__law_tried 0 o (g a) >>= fun x230 => m__law_tried 0 (g a) o >>= fun x231 => m__law_tried 1 o (g a) >>= fun x232 => m__law_tried 1 (g a) o >>= fun x233 => m__law_tried 2 o 0 >>= fun x234 => M.ok [x230, x231, x232, x233, x234]) >>= fun bad => (repM [Sum.inr (("refused" : Str), true)] 5 >>= fun x236 => Vc.chk (Eqv.lay bad = true ∧ Eqv.lay x236 = true) >>= fun _ => M.ok (decide (bad = x236))) >>= fun r => M.ok r)
      else (m__law_tried 1 o (g a) >>= fun x238 => (m__law_times o (g a) >>= fun x237 => M.ok (Sum.inl x237)) >>= fun x239 => Vc.chk (Eqv.lay x238 = true ∧ Eqv.lay x239 = true) >>= fun _ => M.ok (decide (x238 = x239))) >>= fun r => M.ok r) = M.ok true := by
    intro s hs hl
    rw [hs, M.ok_bind, chk_ok ⟨hl, hl⟩, M.ok_bind, decide_eq_true rfl, Bool.not_true, M.ok_bind, if_neg Bool.false_ne_true]
    by_cases ho : o < 0 ∨ 15 < o
    · rw [if_pos (by simpa using ho)]
      have ho' : o < 0 ∨ 16 ≤ o := by omega
      rw [tried_exc 0 o _ (.inl ⟨rfl, exc_add (by omega)⟩), tried_exc 0 _ o (.inl ⟨rfl, exc_add (by omega)⟩), tried_exc 1 o _ (.inr (.inl ⟨rfl, exc_mul (by omega)⟩)), tried_exc 1 _ o (.inr (.inl ⟨rfl, exc_mul (by omega)⟩)), tried_exc 2 o _ (.inr (.inr ⟨rfl, exc_inv (by omega)⟩))]
      exact of_okO all_refd
    · rw [if_neg (by simpa using ho)]
      obtain ⟨o', rfl⟩ := to_g (z := o) (by omega) (by omega)
      rw [tried_mul, times_ok]
      simp only [M.ok_bind]
      rw [chk_ok ⟨lay_l _, lay_l _⟩, M.ok_bind, M.ok_bind]
      simp
  by_cases h0 : a = 0
  · subst h0
    rw [if_neg (by decide)]
    simp only [M.ok_bind]
    exact key _ (tried_exc 2 _ _ (.inr (.inr ⟨rfl, exc_inv0⟩))) lay_r
  · have hp : decide (g a > 0) = true := by
      have : ∀ a : F, a ≠ 0 → decide (g a > 0) = true := by decide +kernel
      exact this a h0
    rw [if_pos hp]
    have := of_okO (due_g a h0)
    simp only [M.ok_bind, this]
    exact key _ (of_beqT (tried_inv a h0)) rfl
end Q

set_option Elab.async false
set_option linter.all false
set_option maxRecDepth 100000
namespace Q
open PySem PySem.Spec PyProof.Rows L2 Vc
/-! ### polynomials -/
abbrev P := List F
def gl (p : P) : List Int := p.map g
def co (p : P) (k : Nat) : F := p.getD k 0
@[simp] theorem gl_len (p : P) : (gl p).length = p.length := List.length_map _
theorem co_nil (k : Nat) : co [] k = 0 := rfl
theorem co_cons0 (a : F) (p : P) : co (a :: p) 0 = a := rfl
theorem co_conss (a : F) (p : P) (k : Nat) : co (a :: p) (k + 1) = co p k := rfl
theorem co_ge {p : P} {k : Nat} (h : p.length ≤ k) : co p k = 0 := by
  unfold co
  rw [List.getD_eq_getElem?_getD, List.getElem?_eq_none h]; rfl
theorem co_lt {p : P} {k : Nat} (h : k < p.length) : co p k = p[k] := by
  unfold co
  rw [List.getD_eq_getElem?_getD, List.getElem?_eq_getElem h]; rfl
theorem get_gl {p : P} {k : Nat} (h : k < p.length) : getI (gl p) (k : Int) = .ok (g (co p k)) := by
  rw [getI_lt (by rw [gl_len]; exact h), co_lt h]
  congr 1
  exact List.getElem_map _
theorem set_gl {p : P} {k : Nat} (a : F) (h : k < p.length) : setL (gl p) (k : Int) (g a) = .ok (gl (p.set k a)) := by
  rw [setL_lt _ (by rw [gl_len]; exact h)]
  congr 1
  exact List.map_set.symm
theorem co_set {p : P} {k : Nat} (a : F) (h : k < p.length) (j : Nat) : co (p.set k a) j = if j = k then a else co p j := by
  unfold co
  rw [List.getD_eq_getElem?_getD, List.getD_eq_getElem?_getD, List.getElem?_set]
  by_cases e : j = k
  · subst e; rw [if_pos rfl, if_pos rfl, if_pos h]; rfl
  · rw [if_neg (fun z => e z.symm), if_neg e]
theorem gl_inj {p q : P} (h : gl p = gl q) : p = q := (List.map_inj_right (fun a b => g_inj a b)).mp h
theorem gl_dec (p q : P) : decide (gl p = gl q) = decide (p = q) := by
  by_cases h : p = q
  · subst h; simp
  · rw [decide_eq_false h, decide_eq_false fun z => h (gl_inj z)]
theorem gl_rep (n : Nat) : List.replicate n (0 : Int) = gl (List.replicate n 0) := by
  unfold gl; rw [List.map_replicate]; rfl
theorem co_rep (n k : Nat) : co (List.replicate n (0 : F)) k = 0 := by
  unfold co
  rw [List.getD_eq_getElem?_getD, List.getElem?_replicate]
  split <;> rfl
theorem list_of {p q : P} (hl : p.length = q.length) (h : ∀ k, co p k = co q k) : p = q := by
  apply List.ext_getElem hl
  intro i h1 h2
  have := h i
  rwa [co_lt h1, co_lt h2] at this
/-- without the zeros at the end -/
def red : P → P
  | [] => []
  | a :: p => match red p with
    | [] => if a = 0 then [] else [a]
    | b :: r => a :: b :: r
theorem red_cons (a : F) (p : P) : red (a :: p) = match red p with
    | [] => if a = 0 then [] else [a]
    | b :: r => a :: b :: r := rfl
theorem co_red (p : P) : ∀ k, co (red p) k = co p k := by
  induction p with
  | nil => intro k; rfl
  | cons a p ih =>
    intro k
    rw [red_cons]
    cases e : red p with
    | nil =>
      rw [e] at ih
      dsimp only
      split
      · rename_i h
        cases k with
        | zero => rw [co_nil, co_cons0, h]
        | succ k => rw [co_conss, ← ih k, co_nil, co_nil]
      · cases k with
        | zero => rfl
        | succ k => rw [co_conss, co_conss, ← ih k]
    | cons b r =>
      rw [e] at ih
      dsimp only
      cases k with
      | zero => rfl
      | succ k => rw [co_conss, co_conss, ih k]
theorem red_zero {p : P} (h : ∀ k, co p k = 0) : red p = [] := by
  induction p with
  | nil => rfl
  | cons a p ih =>
    rw [red_cons, ih fun k => by have := h (k + 1); rwa [co_conss] at this]
    dsimp only
    rw [if_pos (by have := h 0; rwa [co_cons0] at this)]
theorem red_ext {p q : P} (h : ∀ k, co p k = co q k) : red p = red q := by
  induction p generalizing q with
  | nil => exact (red_zero fun k => (h k).symm).symm
  | cons a p ih =>
    cases q with
    | nil => exact red_zero h
    | cons b q =>
      have e0 := h 0
      rw [co_cons0, co_cons0] at e0
      subst e0
      rw [red_cons, red_cons, ih (q := q) fun k => by have := h (k + 1); rwa [co_conss, co_conss] at this]
theorem red_red (p : P) : red (red p) = red p := red_ext (co_red p)
theorem red_len (p : P) : (red p).length ≤ p.length := by
  induction p with
  | nil => exact Nat.le_refl _
  | cons a p ih =>
    rw [red_cons]
    cases e : red p with
    | nil => dsimp only; split <;> simp
    | cons b r => rw [e] at ih; simp only [List.length_cons] at ih ⊢; omega
theorem red_last (p : P) (h : red p ≠ []) : co p ((red p).length - 1) ≠ 0 := by
  induction p with
  | nil => exact absurd rfl h
  | cons a p ih =>
    rw [red_cons] at h ⊢
    cases e : red p with
    | nil =>
      rw [e] at h
      dsimp only at h ⊢
      split
      · rename_i z; rw [if_pos z] at h; exact absurd rfl h
      · rename_i z; exact z
    | cons b r =>
      dsimp only
      rw [e] at ih
      have := ih (by simp)
      simp only [List.length_cons, Nat.add_sub_cancel] at this ⊢
      rw [co_conss]
      exact this
theorem red_hi (p : P) {k : Nat} (h : (red p).length ≤ k) : co p k = 0 := by rw [← co_red, co_ge h]
theorem red_take (p : P) : p.take (red p).length = red p := by
  have hl := red_len p
  apply list_of
  · rw [List.length_take]; omega
  · intro k
    rw [co_red]
    by_cases h : k < (red p).length
    · rw [co_lt (by rw [List.length_take]; omega), co_lt (by omega), List.getElem_take]
    · rw [co_ge (by rw [List.length_take]; omega), red_hi p (by omega)]
theorem red_short {p : P} {n : Nat} (h : ∀ k, n ≤ k → co p k = 0) : (red p).length ≤ n := by
  by_cases z : red p = []
  · rw [z]; exact Nat.zero_le _
  · have := red_last p z
    have hp : (red p).length ≠ 0 := fun e => z (List.length_eq_zero_iff.mp e)
    by_cases hn : (red p).length ≤ n
    · exact hn
    · exact absurd (h _ (by omega)) this
theorem zero_g : ∀ a : F, decide (g a = 0) = decide (a = 0) := by decide +kernel
/-- one step of the strip -/
theorem strip_step (p : P) {s : Nat} (h1 : (red p).length ≤ s) (h2 : s ≤ p.length) :
    (bAnd (M.ok (decide ((s : Int) > 0))) (getI (gl p) ((s : Int) - 1) >>= fun x => M.ok (decide (x = 0)))) = .ok (decide ((red p).length < s)) := by
  rw [bAnd_l]
  cases s with
  | zero => rw [if_neg (by simp)]; simp
  | succ s =>
    rw [if_pos (decide_eq_true (by omega)), show ((s + 1 : Nat) : Int) - 1 = (s : Int) by omega, get_gl (by omega), M.ok_bind, zero_g]
    congr 1
    by_cases e : (red p).length < s + 1
    · rw [decide_eq_true e, decide_eq_true (red_hi p (by omega))]
    · rw [decide_eq_false e]
      have : (red p).length = s + 1 := by omega
      apply decide_eq_false
      have h := red_last p (fun z => by rw [z] at this; cases this)
      rw [this] at h
      exact h
theorem lreduced_ok {p : P} (hp : p.length < 1000) : m__law_reduced (gl p) = .ok (gl (red p)) := by
  unfold m__law_reduced
  rw [M.ok_bind, gl_len, chk_ok (rOk_nat (by omega)), M.ok_bind, M.ok_bind, rng_nat]
  obtain ⟨_, e, s', rfl, h3, h4, h5⟩ := loopS_inv (f := fun (s33 : Int) (a34 : Int) => ((bAnd (M.ok (decide (s33 > (0 : Int)))) ((getI (gl p) (s33 - (1 : Int))) >>= fun x35 => M.ok (decide (x35 = (0 : Int))))) >>= fun c37 => if c37 then ((M.ok (s33 - (1 : Int))) >>= fun size_36 => (M.ok size_36)) else (M.ok s33)))
    (fun i s => ∃ n : Nat, s = (n : Int) ∧ (red p).length ≤ n ∧ n ≤ p.length ∧ (n = (red p).length ∨ n + i = p.length)) (l := (List.range p.length).map fun i : Nat => (i : Int)) (s := (p.length : Int))
    ⟨p.length, rfl, red_len p, Nat.le_refl _, .inr rfl⟩ (fun i hi s ⟨n, e, h1, h2, h3⟩ => by
      subst e
      rw [strip_step p h1 h2, M.ok_bind]
      by_cases h : (red p).length < n
      · rw [decide_eq_true h, if_pos rfl, M.ok_bind]
        refine ⟨_, rfl, n - 1, by omega, by omega, by omega, ?_⟩
        omega
      · rw [decide_eq_false h, if_neg Bool.false_ne_true]
        exact ⟨_, rfl, n, rfl, h1, h2, .inl (by omega)⟩)
  rw [e, M.ok_bind, M.ok_bind, cut_to _ (by rw [gl_len]; omega)]
  have : s' = (red p).length := by
    rw [List.length_map, List.length_range] at h5
    omega
  subst this
  congr 1
  unfold gl
  rw [← List.map_take, red_take]
theorem reduced_ok {p : P} (hp : p.length < 1000) : m_reduced (gl p) = .ok (gl (red p)) := by
  unfold m_reduced
  rw [M.ok_bind]
  have W : ∀ fuel n : Nat, (red p).length ≤ n → n ≤ p.length → n - (red p).length < fuel → whileM (fun s4 : Int => (bAnd (M.ok (decide (s4 > (0 : Int)))) ((getI (gl p) (s4 - (1 : Int))) >>= fun x5 => M.ok (decide (x5 = (0 : Int)))))) (fun s4 : Int => ((fun size_6 : Int => (M.ok size_6)) (s4 - (1 : Int)))) fuel (n : Int) = .ok ((red p).length : Int) := by
    intro fuel
    induction fuel with
    | zero => intro n _ _ h; omega
    | succ f ih =>
      intro n h1 h2 h3
      rw [whileM_succ, strip_step p h1 h2, M.ok_bind]
      by_cases h : (red p).length < n
      · rw [decide_eq_true h, if_pos rfl, M.ok_bind]
        have := ih (n - 1) (by omega) (by omega) (by omega)
        rwa [show ((n - 1 : Nat) : Int) = (n : Int) - 1 by omega] at this
      · rw [decide_eq_false h, if_neg Bool.false_ne_true]
        rw [show n = (red p).length by omega]
  rw [gl_len, W _ _ (red_len p) (Nat.le_refl _) (by omega), M.ok_bind, M.ok_bind, cut_to _ (by rw [gl_len]; exact red_len p)]
  congr 1
  unfold gl
  rw [← List.map_take, red_take]
end Q

set_option Elab.async false
set_option linter.all false
set_option maxRecDepth 100000
namespace Q
open PySem PySem.Spec PyProof.Rows L2 Vc
/-! ### finite sums -/
def xs (n : Nat) (f : Nat → F) : F := match n with
  | 0 => 0
  | n + 1 => fa (xs n f) (f n)
theorem xs_succ (n : Nat) (f : Nat → F) : xs (n + 1) f = fa (xs n f) (f n) := rfl
theorem xs_congr {n : Nat} {f h : Nat → F} (e : ∀ i, i < n → f i = h i) : xs n f = xs n h := by
  induction n with
  | zero => rfl
  | succ n ih => rw [xs_succ, xs_succ, ih fun i hi => e i (by omega), e n (by omega)]
theorem xs_zero {n : Nat} {f : Nat → F} (e : ∀ i, i < n → f i = 0) : xs n f = 0 := by
  induction n with
  | zero => rfl
  | succ n ih => rw [xs_succ, ih fun i hi => e i (by omega), e n (by omega), fa_zero]
theorem xs_ext {n m : Nat} {f : Nat → F} (h : n ≤ m) (e : ∀ i, n ≤ i → f i = 0) : xs m f = xs n f := by
  induction m with
  | zero => rw [show n = 0 by omega]
  | succ m ih =>
    by_cases hn : n = m + 1
    · rw [hn]
    · rw [xs_succ, ih (by omega), e m (by omega), fa_zero]
theorem xs_head (n : Nat) (f : Nat → F) : xs (n + 1) f = fa (f 0) (xs n fun i => f (i + 1)) := by
  induction n with
  | zero => rw [xs_succ]; show fa 0 _ = fa _ 0; rw [zero_fa, fa_zero]
  | succ n ih => rw [xs_succ, ih, xs_succ, fa_assoc]
theorem xs_upd {n : Nat} {f h : Nat → F} {j : Nat} (hj : j < n) (h0 : f j = 0) (e : ∀ i, i ≠ j → h i = f i) : xs n h = fa (xs n f) (h j) := by
  induction n with
  | zero => omega
  | succ n ih =>
    rw [xs_succ, xs_succ]
    by_cases q : j = n
    · subst q
      rw [h0, fa_zero, xs_congr (n := j) fun i hi => e i (by omega)]
    · rw [ih (by omega), e n fun z => q z.symm, ← fa_assoc, fa_comm (h j), fa_assoc]
theorem fa_fa (a b : F) : fa (fa a b) b = a := by rw [← fa_assoc, fa_self, fa_zero]
/-! ### shifts and products -/
def sh (i : Nat) (a : F) (d : P) (k : Nat) : F := if i ≤ k then fm a (co d (k - i)) else 0
theorem sh_zero (i : Nat) (d : P) (k : Nat) : sh i 0 d k = 0 := by unfold sh; rw [zero_fm]; split <;> rfl
theorem sh_ext {i : Nat} {a : F} {d d' : P} (h : ∀ k, co d k = co d' k) (k : Nat) : sh i a d k = sh i a d' k := by unfold sh; rw [h]
def cp (p d : P) (k : Nat) : F := xs p.length fun i => sh i (co p i) d k
theorem cp_ext {p p' d d' : P} (hp : ∀ k, co p k = co p' k) (hd : ∀ k, co d k = co d' k) (k : Nat) : cp p d k = cp p' d' k := by
  have e : ∀ (q : P) (n : Nat), q.length ≤ n → cp q d k = xs n fun i => sh i (co q i) d k := fun q n h => (xs_ext h fun i hi => by rw [co_ge hi, sh_zero]).symm
  have e' : cp p' d' k = cp p' d k := xs_congr fun i _ => sh_ext (fun k => (hd k).symm) k
  rw [e', e p (max p.length p'.length) (by omega), e p' (max p.length p'.length) (by omega)]
  exact xs_congr fun i _ => by rw [hp]
theorem cp_nil (d : P) (k : Nat) : cp [] d k = 0 := rfl
theorem cp_cons (a : F) (p d : P) (k : Nat) : cp (a :: p) d k = fa (fm a (co d k)) (match k with | 0 => 0 | k + 1 => cp p d k) := by
  unfold cp
  rw [List.length_cons, xs_head, show sh 0 (co (a :: p) 0) d k = fm a (co d k) by unfold sh; rw [if_pos (Nat.zero_le _), co_cons0, Nat.sub_zero]]
  apply congrArg
  cases k with
  | zero => exact xs_zero fun i _ => by unfold sh; rw [if_neg (by omega)]
  | succ k =>
    refine xs_congr fun i _ => ?_
    unfold sh
    rw [co_conss]
    by_cases h : i ≤ k
    · rw [if_pos h, if_pos (by omega), show k + 1 - (i + 1) = k - i by omega]
    · rw [if_neg h, if_neg (by omega)]
/-! ### values -/
def ev (p : P) (x : F) : F := p.foldr (fun s v => fa (fm v x) s) 0
theorem ev_cons (a : F) (p : P) (x : F) : ev (a :: p) x = fa (fm (ev p x) x) a := rfl
theorem ev_zero {p : P} (h : ∀ k, co p k = 0) (x : F) : ev p x = 0 := by
  induction p with
  | nil => rfl
  | cons a p ih =>
    rw [ev_cons, ih fun k => by have := h (k + 1); rwa [co_conss] at this]
    have := h 0
    rw [co_cons0] at this
    rw [this, zero_fm, fa_zero]
theorem ev_ext {p q : P} (h : ∀ k, co p k = co q k) (x : F) : ev p x = ev q x := by
  induction p generalizing q with
  | nil => exact (ev_zero (fun k => (h k).symm) x).symm
  | cons a p ih =>
    cases q with
    | nil => exact ev_zero h x
    | cons b q =>
      have e0 := h 0
      rw [co_cons0, co_cons0] at e0
      subst e0
      rw [ev_cons, ev_cons, ih (q := q) fun k => by have := h (k + 1); rwa [co_conss, co_conss] at this]
def pa : P → P → P
  | [], q => q
  | p, [] => p
  | a :: p, b :: q => fa a b :: pa p q
theorem co_pa : ∀ (p q : P) (k : Nat), co (pa p q) k = fa (co p k) (co q k)
  | [], q, k => by rw [co_nil, zero_fa]; rfl
  | a :: p, [], k => by rw [co_nil, fa_zero]; rfl
  | a :: p, b :: q, 0 => rfl
  | a :: p, b :: q, k + 1 => by
    rw [co_conss, co_conss]
    exact co_pa p q k
theorem ev_pa : ∀ (p q : P) (x : F), ev (pa p q) x = fa (ev p x) (ev q x)
  | [], q, x => by show ev q x = fa 0 _; rw [zero_fa]
  | a :: p, [], x => by show ev (a :: p) x = fa _ 0; rw [fa_zero]
  | a :: p, b :: q, x => by
    show fa (fm (ev (pa p q) x) x) (fa a b) = fa (fa (fm (ev p x) x) a) (fa (fm (ev q x) x) b)
    rw [ev_pa p q x, fm_comm _ x, fm_add, fm_comm x, fm_comm x]
    generalize fm (ev p x) x = u
    generalize fm (ev q x) x = v
    rw [← fa_assoc, ← fa_assoc, fa_assoc v, fa_comm v a, fa_assoc a v b]
theorem ev_scale (a : F) (d : P) (x : F) : ev (d.map (fm a)) x = fm a (ev d x) := by
  induction d with
  | nil => show (0 : F) = fm a 0; rw [fm_zero]
  | cons b d ih => rw [List.map_cons, ev_cons, ev_cons, ih, fm_add, fm_assoc]
theorem co_scale (a : F) (d : P) (k : Nat) : co (d.map (fm a)) k = fm a (co d k) := by
  induction d generalizing k with
  | nil => rw [List.map_nil, co_nil, fm_zero]
  | cons b d ih =>
    cases k with
    | zero => rfl
    | succ k => rw [List.map_cons, co_conss, co_conss, ih]
def cv : P → P → P
  | [], _ => []
  | a :: p, d => pa (d.map (fm a)) (0 :: cv p d)
theorem co_cv (p d : P) : ∀ k, co (cv p d) k = cp p d k := by
  induction p with
  | nil => intro k; rfl
  | cons a p ih =>
    intro k
    show co (pa _ _) k = _
    rw [co_pa, co_scale, cp_cons]
    congr 1
    cases k with
    | zero => rfl
    | succ k => rw [co_conss, ih]
theorem ev_cv (p d : P) (x : F) : ev (cv p d) x = fm (ev p x) (ev d x) := by
  induction p with
  | nil => show (0 : F) = fm 0 _; rw [zero_fm]
  | cons a p ih =>
    show ev (pa _ _) x = _
    rw [ev_pa, ev_scale, ev_cons, ev_cons, ih, fa_zero, fm_comm (fa _ a) _, fm_add, fm_comm (ev d x) a, fa_comm (fm a _)]
    congr 1
    rw [← fm_assoc, fm_comm (ev d x) x, fm_comm (ev d x), fm_assoc]
theorem co_appl {r : P} (s : P) {k : Nat} (h : k < r.length) : co (r ++ s) k = co r k := by
  unfold co
  rw [List.getD_eq_getElem?_getD, List.getD_eq_getElem?_getD, List.getElem?_append_left h]
theorem co_appr (r : P) (a : F) : co (r ++ [a]) r.length = a := by
  unfold co
  rw [List.getD_eq_getElem?_getD, List.getElem?_append_right (Nat.le_refl _), Nat.sub_self]
  rfl
/-! ### sums by the program -/
def psum (p q : P) : P := red (pa p q)
theorem pa_len (p q : P) : (pa p q).length = max p.length q.length := by
  induction p generalizing q with
  | nil => show q.length = _; simp
  | cons a p ih =>
    cases q with
    | nil => show (a :: p).length = _; simp
    | cons b q => show (fa a b :: pa p q).length = _; simp only [List.length_cons, ih]; omega
theorem len_max (p q : P) : (if (q.length : Int) > (p.length : Int) then (q.length : Int) else (p.length : Int)) = ((max p.length q.length : Nat) : Int) := by
  split <;> omega
theorem lsum_ok {p q : P} (hp : p.length < 500) (hq : q.length < 500) : m__law_sum (gl p) (gl q) = .ok (gl (psum p q)) := by
  unfold m__law_sum
  rw [M.ok_bind, gl_len, gl_len, len_max, chk_ok (rOk_nat (by omega)), M.ok_bind, M.ok_bind, rng_nat]
  rw [loopS_inv' (fun i (r : List Int) => ∃ r' : P, r = gl r' ∧ r'.length = i ∧ ∀ k, k < i → co r' k = fa (co p k) (co q k)) (s := []) (T := gl (pa p q)) ⟨[], rfl, rfl, fun k h => by omega⟩ ?step ?fin, M.ok_bind, lreduced_ok (by rw [pa_len]; omega)]
  · rfl
  case step =>
    rintro i hi _ ⟨r, rfl, h1, h2⟩
    rw [List.length_map, List.length_range] at hi
    simp only [List.getElem_map, List.getElem_range, M.ok_bind]
    have e1 : ∀ (p : P) (z : Int), (if decide ((i : Int) < (p.length : Int)) = true then (getI (gl p) (i : Int) >>= fun x => M.ok x) else M.ok 0) = .ok (g (co p i)) := by
      intro p z
      by_cases h : i < p.length
      · rw [if_pos (decide_eq_true (by omega)), get_gl h, M.ok_bind]
      · rw [if_neg (by simpa using h), co_ge (by omega)]
        rfl
    rw [e1 p 0, M.ok_bind]
    have e2 : (if decide ((i : Int) < (q.length : Int)) = true then ((getI (gl q) (i : Int) >>= fun x118 => M.ok (Builtin.bitXor (g (co p i)) x118)) >>= fun t => M.ok t) else M.ok (g (co p i))) = .ok (g (fa (co p i) (co q i))) := by
      by_cases h : i < q.length
      · rw [if_pos (decide_eq_true (by omega)), get_gl h, M.ok_bind, xor_g, M.ok_bind]
      · rw [if_neg (by simpa using h), co_ge (p := q) (by omega), fa_zero]
    rw [e2, M.ok_bind, gl_len, chk_ok (show r.length < sizeLine by have : sizeLine = 2 ^ 24 := rfl; omega), M.ok_bind]
    refine ⟨_, rfl, r ++ [fa (co p i) (co q i)], by unfold gl; rw [List.map_append]; rfl, by rw [List.length_append, h1]; rfl, fun k hk => ?_⟩
    by_cases h : k < i
    · rw [← h2 k h, co_appl _ (by omega)]
    · have : k = i := by omega
      subst this
      rw [← h1, co_appr]
  case fin =>
    rintro _ ⟨r, rfl, h1, h2⟩
    rw [List.length_map, List.length_range] at h1 h2
    congr 1
    apply list_of (by rw [h1, pa_len])
    intro k
    rw [co_pa]
    by_cases h : k < max p.length q.length
    · exact h2 k h
    · rw [co_ge (by omega), co_ge (by omega), co_ge (by omega), fa_zero]
end Q

set_option Elab.async false
set_option linter.all false
set_option maxRecDepth 100000
namespace Q
open PySem PySem.Spec PyProof.Rows L2 Vc
theorem gl_at {p : P} {i : Nat} (h : i < (gl p).length) : (gl p)[i] = g (p[i]'(by rw [← gl_len p]; exact h)) := List.getElem_map _
theorem addp_ok {p q : P} (hp : p.length < 500) (hq : q.length < 500) : m_add_polynomials (gl p) (gl q) = .ok (gl (psum p q)) := by
  unfold m_add_polynomials
  rw [M.ok_bind, gl_len, gl_len, len_max]
  generalize hn : max p.length q.length = n
  have pad : ∀ p : P, p.length ≤ n → n < 1000 → (repM [(0 : Int)] ((n : Int) - (p.length : Int)) >>= fun x => catM (gl p) x) = .ok (gl (p ++ List.replicate (n - p.length) 0)) := by
    intro p h hn
    rw [repM_one (by omega) (by omega), M.ok_bind, show ((n : Int) - (p.length : Int)).toNat = n - p.length by omega, catM_ok (by rw [gl_len, List.length_replicate]; omega), gl_rep]
    unfold gl
    rw [List.map_append]
  rw [pad p (by omega) (by omega), M.ok_bind, pad q (by omega) (by omega), M.ok_bind]
  rw [lcM_map (h := fun a : Int × Int => Builtin.bitXor a.1 a.2) (by simp only [List.length_zip, gl_len, List.length_append, List.length_replicate]; omega) fun _ _ => rfl, M.ok_bind]
  have e : (List.zip (gl (p ++ List.replicate (n - p.length) 0)) (gl (q ++ List.replicate (n - q.length) 0))).map (fun a : Int × Int => Builtin.bitXor a.1 a.2) = gl (pa p q) := by
    apply List.ext_getElem
    · simp only [List.length_map, List.length_zip, gl_len, List.length_append, List.length_replicate, pa_len]; omega
    · intro i h1 h2
      have hi : i < n := by rw [gl_len, pa_len] at h2; omega
      have at' : ∀ (p : P) (h : i < (gl (p ++ List.replicate (n - p.length) 0)).length), (gl (p ++ List.replicate (n - p.length) 0))[i] = g (co p i) := by
        intro p h
        rw [gl_at]
        congr 1
        by_cases hp : i < p.length
        · rw [List.getElem_append_left hp, co_lt hp]
        · rw [List.getElem_append_right (by omega), List.getElem_replicate, co_ge (by omega)]
      rw [List.getElem_map, List.getElem_zip]
      dsimp only
      rw [at', at', xor_g, ← co_pa, co_lt (by rw [gl_len] at h2; exact h2), gl_at]
  rw [e, reduced_ok (by rw [pa_len]; omega)]
  rfl
/-! ### one row of a product -/
theorem inner_ok {β : Type} {f : List Int → β → M (List Int)} {l : List β} {r : P} {i n : Nat} {a : F} {d : P} (hl : l.length = d.length) (hn : r.length = n) (hin : i + d.length ≤ n)
    (hf : ∀ j (h : j < l.length) (r' : P), r'.length = n → f (gl r') l[j] = .ok (gl (r'.set (i + j) (fa (co r' (i + j)) (fm a (co d j)))))) :
    ∃ r', loopS f l (gl r) = .ok (gl r') ∧ r'.length = n ∧ ∀ k, co r' k = fa (co r k) (sh i a d k) := by
  obtain ⟨_, e, r', rfl, h1, h2⟩ := loopS_inv (f := f) (l := l) (s := gl r) (fun j s => ∃ r' : P, s = gl r' ∧ r'.length = n ∧ ∀ k, co r' k = fa (co r k) (if i ≤ k ∧ k < i + j then fm a (co d (k - i)) else 0))
    ⟨r, rfl, hn, fun k => by rw [if_neg (by omega), fa_zero]⟩ (by
      rintro j hj _ ⟨r', rfl, h1, h2⟩
      refine ⟨_, hf j hj r' h1, _, rfl, by rw [List.length_set, h1], fun k => ?_⟩
      rw [co_set _ (by omega), h2, h2]
      by_cases e : k = i + j
      · subst e
        rw [if_pos rfl, if_neg (by omega), fa_zero, if_pos (by omega), show i + j - i = j by omega]
      · rw [if_neg e]
        by_cases h : i ≤ k ∧ k < i + j
        · rw [if_pos h, if_pos (by omega)]
        · rw [if_neg h, if_neg (by omega)])
  refine ⟨r', e, h1, fun k => ?_⟩
  rw [h2]
  apply congrArg
  unfold sh
  by_cases h : i ≤ k
  · rw [if_pos h]
    by_cases h' : k < i + l.length
    · rw [if_pos ⟨h, h'⟩]
    · rw [if_neg (by omega), co_ge (by omega), fm_zero]
  · rw [if_neg h, if_neg (by omega)]
theorem outer_ok {β : Type} {f : List Int → β → M (List Int)} {l : List β} {n : Nat} {p d : P} (hl : l.length = p.length)
    (hf : ∀ i (h : i < l.length) (r : P), r.length = n → ∃ r', f (gl r) l[i] = .ok (gl r') ∧ r'.length = n ∧ ∀ k, co r' k = fa (co r k) (sh i (co p i) d k)) :
    ∃ r', loopS f l (gl (List.replicate n 0)) = .ok (gl r') ∧ r'.length = n ∧ ∀ k, co r' k = cp p d k := by
  obtain ⟨_, e, r', rfl, h1, h2⟩ := loopS_inv (f := f) (l := l) (s := gl (List.replicate n 0)) (fun j s => ∃ r' : P, s = gl r' ∧ r'.length = n ∧ ∀ k, co r' k = xs j fun i => sh i (co p i) d k)
    ⟨_, rfl, List.length_replicate, fun k => co_rep n k⟩ (by
      rintro j hj _ ⟨r', rfl, h1, h2⟩
      obtain ⟨r2, e2, h3, h4⟩ := hf j hj r' h1
      exact ⟨_, e2, r2, rfl, h3, fun k => by rw [h4, h2, xs_succ]⟩)
  exact ⟨r', e, h1, fun k => by rw [h2, hl]; rfl⟩
theorem mulp_ok {p d : P} (hp : p.length < 200) (hd : d.length < 200) : ∃ r, m_multiply_polynomials (gl p) (gl d) = .ok (gl (red r)) ∧ r.length = p.length + d.length ∧ ∀ k, co r k = cp p d k := by
  unfold m_multiply_polynomials
  rw [gl_len, gl_len, repM_one (by omega) (by omega), M.ok_bind, show ((p.length : Int) + (d.length : Int)).toNat = p.length + d.length by omega, gl_rep]
  obtain ⟨r, e, h1, h2⟩ := outer_ok (n := p.length + d.length) (p := p) (d := d) (l := enumL (gl p)) (f := (fun (s48 : (List Int)) (a49 : (Int × Int)) => (loopS (fun (s50 : (List Int)) (a51 : (Int × Int)) => (getI s50 (a49.1 + a51.1) >>= fun x54 => ((getI (k_PRODUCTS).l a49.2) >>= fun x52 => getI (x52).l a51.2) >>= fun x55 => setL s50 (a49.1 + a51.1) (Builtin.bitXor x54 x55) >>= fun result_53 => (M.ok result_53))) (enumL (gl d)) s48 >>= (fun s50 : (List Int) => (M.ok s50))))) (by rw [enumL_len, gl_len]) (by
    intro i hi r hr
    have hi' : i < p.length := by rw [enumL_len, gl_len] at hi; exact hi
    obtain ⟨r', e, h1, h2⟩ := inner_ok (n := p.length + d.length) (r := r) (i := i) (a := co p i) (d := d) (l := enumL (gl d)) (f := fun (s50 : (List Int)) (a51 : (Int × Int)) => (getI s50 ((i : Int) + a51.1) >>= fun x54 => ((getI (k_PRODUCTS).l (g (co p i))) >>= fun x52 => getI (x52).l a51.2) >>= fun x55 => setL s50 ((i : Int) + a51.1) (Builtin.bitXor x54 x55) >>= fun result_53 => (M.ok result_53))) (by rw [enumL_len, gl_len]) hr (by omega) (by
      intro j hj r' hr'
      have hj' : j < d.length := by rw [enumL_len, gl_len] at hj; exact hj
      rw [enumL_at hj]
      dsimp only
      have e1 : (gl d)[j]'(by rw [gl_len]; exact hj') = g (co d j) := by rw [co_lt hj']; exact List.getElem_map _
      rw [e1, tab_ok, show (i : Int) + (j : Int) = ((i + j : Nat) : Int) by omega, get_gl (by omega), M.ok_bind, M.ok_bind, xor_g, set_gl _ (by omega), M.ok_bind])
    refine ⟨r', ?_, h1, h2⟩
    rw [enumL_at hi]
    have e1 : (gl p)[i]'(by rw [gl_len]; exact hi') = g (co p i) := by rw [co_lt hi']; exact List.getElem_map _
    rw [e1]
    dsimp only
    rw [e, M.ok_bind])
  refine ⟨r, ?_, h1, h2⟩
  rw [e, M.ok_bind, reduced_ok (by omega), M.ok_bind]
theorem lmulp_ok {p d : P} (hp : p.length < 200) (hd : d.length < 200) : ∃ r, m__law_product (gl p) (gl d) = .ok (gl (red r)) ∧ r.length = p.length + d.length ∧ ∀ k, co r k = cp p d k := by
  unfold m__law_product
  rw [gl_len, gl_len, repM_one (by omega) (by omega), M.ok_bind, show ((p.length : Int) + (d.length : Int)).toNat = p.length + d.length by omega, gl_rep, chk_ok (rOk_nat (n := p.length) (by omega)), M.ok_bind, M.ok_bind, rng_nat p.length]
  obtain ⟨r, e, h1, h2⟩ := outer_ok (n := p.length + d.length) (p := p) (d := d) (l := (List.range p.length).map fun i : Nat => (i : Int)) (f := (fun (s99 : (List Int)) (a100 : Int) => ((chk (rOk (d.length : Int)) >>= fun _ => M.ok (rng 0 (d.length : Int))) >>= fun x109 => loopS (fun (s101 : (List Int)) (a102 : Int) => (((getI s101 (a100 + a102)) >>= fun x105 => ((getI (gl p) a100) >>= fun x103 => (getI (gl d) a102) >>= fun x104 => m__law_times_too x103 x104) >>= fun x106 => M.ok (Builtin.bitXor x105 x106)) >>= fun x108 => setL s101 (a100 + a102) x108 >>= fun result_107 => (M.ok result_107))) x109 s99 >>= (fun s101 : (List Int) => (M.ok s101))))) (by rw [List.length_map, List.length_range]) (by
    intro i hi r hr
    have hi' : i < p.length := by rw [List.length_map, List.length_range] at hi; exact hi
    obtain ⟨r', e, h1, h2⟩ := inner_ok (n := p.length + d.length) (r := r) (i := i) (a := co p i) (d := d) (l := (List.range d.length).map fun i : Nat => (i : Int)) (f := fun (s101 : (List Int)) (a102 : Int) => (((getI s101 ((i : Int) + a102)) >>= fun x105 => ((getI (gl p) (i : Int)) >>= fun x103 => (getI (gl d) a102) >>= fun x104 => m__law_times_too x103 x104) >>= fun x106 => M.ok (Builtin.bitXor x105 x106)) >>= fun x108 => setL s101 ((i : Int) + a102) x108 >>= fun result_107 => (M.ok result_107))) (by rw [List.length_map, List.length_range]) hr (by omega) (by
      intro j hj r' hr'
      have hj' : j < d.length := by rw [List.length_map, List.length_range] at hj; exact hj
      rw [List.getElem_map, List.getElem_range, show (i : Int) + (j : Int) = ((i + j : Nat) : Int) by omega, get_gl hi', get_gl hj', get_gl (by omega), M.ok_bind, M.ok_bind, M.ok_bind, too_ok, M.ok_bind, xor_g, M.ok_bind, set_gl _ (by omega), M.ok_bind])
    refine ⟨r', ?_, h1, h2⟩
    rw [chk_ok (rOk_nat (by omega)), M.ok_bind, M.ok_bind, rng_nat, List.getElem_map, List.getElem_range, e, M.ok_bind])
  refine ⟨r, ?_, h1, h2⟩
  rw [e, M.ok_bind, lreduced_ok (by omega), M.ok_bind]
/-! ### values -/
theorem foldl_ev (x : F) (p : P) : (p.reverse.map g).foldl (fun (v s : Int) => v) 0 = (p.reverse.map g).foldl (fun (v s : Int) => v) 0 := rfl
theorem loop_ev {f : Int → Int → M Int} {x : F} (hf : ∀ v s : F, f (g v) (g s) = .ok (g (fa (fm v x) s))) : ∀ p : P, loopS f ((gl p).reverse) (g 0) = .ok (g (ev p x))
  | [] => rfl
  | a :: p => by
    show loopS f ((g a :: gl p).reverse) _ = _
    rw [List.reverse_cons, loopS_append, loop_ev hf p, M.ok_bind, loopS_cons, hf, M.ok_bind, loopS_nil, ev_cons]
theorem eval_ok (p : P) (x : F) : m_evaluate (gl p) (g x) = .ok (g (ev p x)) := by
  unfold m_evaluate
  rw [M.ok_bind, show (0 : Int) = g 0 from rfl, loop_ev (x := x) (fun v s => by
    show ((getI k_PRODUCTS.l (g v) >>= fun x11 => getI x11.l (g x)) >>= fun x12 => M.ok (Builtin.bitXor x12 (g s))) >>= (fun v => M.ok v) = _
    rw [tab_ok, M.ok_bind, xor_g, M.ok_bind]) p, M.ok_bind]
theorem leval_ok (p : P) (x : F) : m__law_value_at (gl p) (g x) = .ok (g (ev p x)) := by
  unfold m__law_value_at
  rw [M.ok_bind, show (0 : Int) = g 0 from rfl, loop_ev (x := x) (fun v s => by
    show (m__law_times_too (g v) (g x) >>= fun x96 => M.ok (Builtin.bitXor x96 (g s))) >>= (fun v => M.ok v) = _
    rw [too_ok, M.ok_bind, xor_g, M.ok_bind]) p, M.ok_bind]
end Q

set_option Elab.async false
set_option linter.all false
set_option maxRecDepth 100000
namespace Q
open PySem PySem.Spec PyProof.Rows L2 Vc
theorem gl_app {β : Type} (p : P) (a : F) {z : β} : (gl p ++ [g a], z) = (gl (p ++ [a]), z) := by unfold gl; rw [List.map_append]; rfl
/-! ### division -/
theorem getI_last {p : P} (h : 0 < p.length) : getI (gl p) (-1) = .ok (g (co p (p.length - 1))) := by
  unfold getI atI
  have : ixN (gl p).length (-1) = some (p.length - 1) := by
    unfold ixN
    rw [if_neg (by omega), if_pos (by rw [gl_len]; omega), gl_len]
    congr 1
    omega
  rw [this]
  rw [Option.bind_some, List.getElem?_eq_getElem (by rw [gl_len]; omega), gl_at, co_lt (by omega)]
theorem invt_ok (a : F) : getI k_INVERSES.l (g a) = .ok (g (fi a)) := of_okO (inv_g a)
theorem fm_back (r a : F) (h : a ≠ 0) : fm (fm r (fi a)) a = r := by rw [← fm_assoc, fi_mul a h, fm_one]
structure DivI (p d : P) (m : Nat) (t : Nat) (rest quot : P) : Prop where
  lr : rest.length = (red p).length
  lq : quot.length = m
  lo : ∀ k, k < t → co quot k = 0
  eq : ∀ k, co rest k = fa (co p k) (xs m fun i => sh i (co quot i) (red d) k)
  hi : ∀ k, t + (red d).length - 1 ≤ k → co rest k = 0
theorem div_ok {p d : P} (hp : p.length < 400) (hd : d.length < 400) (hz : red d ≠ []) : ∃ quot rest : P, m_divide (gl p) (gl d) = .ok (gl (red quot), gl (red rest)) ∧ quot.length ≤ p.length ∧ (red rest).length < (red d).length ∧ ∀ k, fa (cp (red quot) d k) (co (red rest) k) = co p k := by
  have hs : (red d).length ≠ 0 := fun e => hz (List.length_eq_zero_iff.mp e)
  have hls := red_len d
  have hlp := red_len p
  have hlast : co (red d) ((red d).length - 1) ≠ 0 := by rw [co_red]; exact red_last d hz
  unfold m_divide
  rw [reduced_ok (by omega), M.ok_bind, gl_len, if_neg (by simpa using hs), reduced_ok (by omega), M.ok_bind, gl_len]
  generalize hm : (if ((red p).length : Int) - ((red d).length : Int) + 1 > 0 then ((red p).length : Int) - ((red d).length : Int) + 1 else 0) = mz
  obtain ⟨m, rfl, hm1, hm2⟩ : ∃ m : Nat, mz = (m : Int) ∧ (m = 0 → (red p).length < (red d).length) ∧ (0 < m → m + (red d).length = (red p).length + 1) := by
    refine ⟨mz.toNat, ?_, ?_, ?_⟩ <;> split at hm <;> omega
  rw [repM_one (by omega) (by omega), M.ok_bind, Int.toNat_natCast, gl_rep, getI_last (by omega), M.ok_bind, invt_ok, M.ok_bind, gl_len, List.length_replicate, chk_ok ⟨⟨by omega, by omega⟩, by decide⟩, M.ok_bind, M.ok_bind, rngD_nat]
  generalize hlead : co (red d) ((red d).length - 1) = lead at hlast ⊢
  obtain ⟨_, e, rest, quot, rfl, D⟩ := loopS_inv (f := fun (s62 : (List Int) × (List Int)) (a63 : Int) => ((((getI s62.1 ((a63 + ((red d).length : Int)) - (1 : Int))) >>= fun x64 => getI (k_PRODUCTS).l x64) >>= fun x65 => getI (x65).l (g (fi lead))) >>= fun factor_66 => (setL s62.2 a63 factor_66 >>= fun quotient_67 => (loopS (fun (s68 : (List Int)) (a69 : (Int × Int)) => (getI s68 (a63 + a69.1) >>= fun x72 => ((getI (k_PRODUCTS).l factor_66) >>= fun x70 => getI (x70).l a69.2) >>= fun x73 => setL s68 (a63 + a69.1) (Builtin.bitXor x72 x73) >>= fun rest_71 => (M.ok rest_71))) (enumL (gl (red d))) s62.1 >>= (fun s68 : (List Int) => (M.ok (s68, quotient_67)))))))
    (l := (List.range m).map fun i : Nat => ((m - 1 - i : Nat) : Int)) (s := (gl (red p), gl (List.replicate m 0))) (fun i s => ∃ rest quot : P, s = (gl rest, gl quot) ∧ DivI p d m (m - i) rest quot)
    ⟨red p, List.replicate m 0, rfl, rfl, List.length_replicate, fun k _ => co_rep _ _, fun k => by rw [co_red, xs_zero fun i _ => by rw [co_rep, sh_zero], fa_zero], fun k hk => by
      rw [co_ge]
      by_cases h0 : m = 0
      · have := hm1 h0; omega
      · have := hm2 (by omega); omega⟩ (by
    rintro i hi _ ⟨rest, quot, rfl, D⟩
    have hi' : i < m := by rw [List.length_map, List.length_range] at hi; exact hi
    have hmm := hm2 (by omega)
    rw [List.getElem_map, List.getElem_range]
    generalize ht : m - 1 - i = t
    have ht1 : m - i = t + 1 := by omega
    have ht2 : m - (i + 1) = t := by omega
    rw [ht1] at D
    have hlr := D.lr
    have hlq := D.lq
    dsimp only
    rw [show (t : Int) + ((red d).length : Int) - 1 = ((t + (red d).length - 1 : Nat) : Int) by omega, get_gl (by omega), M.ok_bind, M.bind_assoc]
    have e1 := tab_ok (co rest (t + (red d).length - 1)) (fi lead)
    rw [← M.bind_assoc, e1, M.ok_bind]
    generalize hf : fm (co rest (t + (red d).length - 1)) (fi lead) = fac
    rw [set_gl _ (by omega), M.ok_bind]
    obtain ⟨rest', e2, h1, h2⟩ := inner_ok (n := (red p).length) (r := rest) (i := t) (a := fac) (d := red d) (l := enumL (gl (red d))) (f := fun (s68 : (List Int)) (a69 : (Int × Int)) => (getI s68 ((t : Int) + a69.1) >>= fun x72 => ((getI (k_PRODUCTS).l (g fac)) >>= fun x70 => getI (x70).l a69.2) >>= fun x73 => setL s68 ((t : Int) + a69.1) (Builtin.bitXor x72 x73) >>= fun rest_71 => (M.ok rest_71))) (by rw [enumL_len, gl_len]) hlr (by omega) (by
      intro j hj r' hr'
      have hj' : j < (red d).length := by rw [enumL_len, gl_len] at hj; exact hj
      rw [enumL_at hj, gl_at]
      dsimp only
      rw [← co_lt hj', tab_ok, show (t : Int) + (j : Int) = ((t + j : Nat) : Int) by omega, get_gl (by omega), M.ok_bind, M.ok_bind, xor_g, set_gl _ (by omega), M.ok_bind])
    rw [e2, M.ok_bind]
    refine ⟨_, rfl, rest', quot.set t fac, rfl, ?_⟩
    rw [ht2]
    have q0 := D.lo t (by omega)
    refine ⟨h1, by rw [List.length_set, hlq], fun k hk => ?_, fun k => ?_, fun k hk => ?_⟩
    · rw [co_set _ (by omega), if_neg (by omega)]
      exact D.lo k (by omega)
    · rw [h2, D.eq, xs_upd (f := fun i => sh i (co quot i) (red d) k) (h := fun i => sh i (co (quot.set t fac) i) (red d) k) (j := t) (by omega) (by rw [q0, sh_zero]) (fun i hi => by rw [co_set _ (by omega), if_neg hi]), fa_assoc]
      rw [co_set _ (by omega), if_pos rfl]
    · rw [h2]
      by_cases hk2 : k = t + (red d).length - 1
      · subst hk2
        unfold sh
        rw [if_pos (by omega), show t + (red d).length - 1 - t = (red d).length - 1 by omega, hlead, ← hf, fm_back _ _ hlast, fa_self]
      · rw [D.hi k (by omega)]
        unfold sh
        split
        · rw [co_ge (p := red d) (by omega), fm_zero, fa_self]
        · exact fa_self 0)
  rw [List.length_map, List.length_range, Nat.sub_self] at D
  have hlr := D.lr
  have hlq := D.lq
  rw [e, M.ok_bind]
  dsimp only
  rw [reduced_ok (by rw [hlq]; omega), M.ok_bind, reduced_ok (by omega), M.ok_bind, M.ok_bind]
  refine ⟨quot, rest, rfl, by rw [hlq]; omega, ?_, fun k => ?_⟩
  · have := red_short (p := rest) (n := (red d).length - 1) fun k hk => D.hi k (by omega)
    omega
  · rw [co_red, D.eq]
    have : cp (red quot) d k = xs m fun i => sh i (co quot i) (red d) k := by
      rw [cp_ext (p' := quot) (d' := red d) (co_red quot) (fun k => (co_red d k).symm)]
      unfold cp
      rw [hlq]
    rw [this, fa_comm (co p k), fa_assoc, fa_self, zero_fa]
theorem div_exc {p d : P} (hd : d.length < 400) (hz : red d = []) : m_divide (gl p) (gl d) = .exc ⟨"InvalidSymbol", []⟩ := by
  unfold m_divide
  rw [reduced_ok (by omega), M.ok_bind, gl_len, hz, if_pos (by decide)]
/-! ### the words of the law -/
theorem islist_ok (p : P) : m__law_is_list (gl p) 0 15 = .ok true := by
  unfold m__law_is_list
  rw [if_neg (by decide), loopM_all (fun a ha => ?_), M.ok_bind]
  · rfl
  · obtain ⟨b, _, rfl⟩ := List.mem_map.mp ha
    have : ∀ b : F, (decide (g b < 0) || decide (g b > 15)) = false := by decide +kernel
    rw [isint_ok, M.ok_bind, this]
    rfl
theorem cdiv (z : Int) : CDiv z 16 := (by decide : CDiv 0 16)
theorem row_ok (c : Int) (n : Nat) (hn : n < 1000) : ∃ p : P, m__law_row c (n : Int) 16 = .ok (gl p) ∧ p.length = n := by
  unfold m__law_row
  generalize (if c < 0 then -c else c) = ac
  rw [M.ok_bind, M.ok_bind, chk_ok (rOk_nat (by omega)), M.ok_bind, M.ok_bind, rng_nat]
  obtain ⟨_, e, p, z, rfl, h⟩ := loopS_inv (f := (fun (s80 : (List Int) × Int) (a81 : Int) => (if (decide (ac ≥ (1000000000000000000 : Int))) then ((chk (0 < (16 : Int)) >>= fun _ => M.ok (s80.2 % (16 : Int))) >>= fun x84 => chk (s80.1.length < sizeLine) >>= fun _ => (fun found_82 => ((chk (CDiv s80.2 (16 : Int)) >>= fun _ => M.ok (s80.2 / (16 : Int))) >>= fun rest_83 => (M.ok (found_82, rest_83)))) (s80.1 ++ [x84])) else (((m__law_mix c a81) >>= fun x85 => chk (0 < (16 : Int)) >>= fun _ => M.ok (x85 % (16 : Int))) >>= fun x87 => chk (s80.1.length < sizeLine) >>= fun _ => (fun found_86 => (M.ok (found_86, s80.2))) (s80.1 ++ [x87])))))
    (l := (List.range n).map fun i : Nat => (i : Int)) (s := ([], ac)) (fun i s => ∃ (p : P) (z : Int), s = (gl p, z) ∧ p.length = i) ⟨[], _, rfl, rfl⟩ (by
      rintro i hi _ ⟨p, z, rfl, h⟩
      have hi' : i < n := by rw [List.length_map, List.length_range] at hi; exact hi
      have hsz : (gl p).length < sizeLine := by have : sizeLine = 2 ^ 24 := rfl; rw [gl_len]; omega
      dsimp only
      split
      · obtain ⟨a, ha⟩ := mod_g z
        rw [chk_ok (by decide), M.ok_bind, M.ok_bind, chk_ok hsz, M.ok_bind, chk_ok (cdiv z), M.ok_bind, M.ok_bind, ha]
        exact ⟨_, rfl, p ++ [a], _, gl_app p a, by rw [List.length_append, h]; rfl⟩
      · unfold m__law_mix
        rw [M.ok_bind, M.ok_bind, M.ok_bind, chk_ok (by decide), M.ok_bind, M.ok_bind, chk_ok hsz, M.ok_bind]
        generalize (_ : Int) / 997 = y
        obtain ⟨a, ha⟩ := mod_g y
        rw [ha]
        exact ⟨_, rfl, p ++ [a], _, gl_app p a, by rw [List.length_append, h]; rfl⟩)
  rw [List.length_map, List.length_range] at h
  rw [e, M.ok_bind]
  exact ⟨p, rfl, h⟩
end Q

set_option Elab.async false
set_option linter.all false
set_option maxRecDepth 100000
namespace Q
open PySem PySem.Spec PyProof.Rows L2 Vc
theorem cut_nat {α : Type} (l : List α) (k : Nat) : cutL l none (some (k : Int)) = l.take k := by
  unfold cutL
  rw [HT.sIx_nat, HT.sIx_none, List.drop_zero, Nat.sub_zero]
  by_cases h : k ≤ l.length
  · rw [Nat.min_eq_left h]
  · rw [Nat.min_eq_right (by omega), List.take_of_length_le (Nat.le_refl _), List.take_of_length_le (by omega)]
theorem modk (z : Int) (k : Nat) (hk : 0 < k) : ∃ n : Nat, z % (k : Int) = (n : Int) ∧ n < k := by
  have h1 := Int.emod_nonneg z (show (k : Int) ≠ 0 by omega)
  have h2 := Int.emod_lt_of_pos z (show 0 < (k : Int) by omega)
  exact ⟨(z % (k : Int)).toNat, by omega, by omega⟩
theorem made_ok (c c1 : Int) : ∃ p : P, ((m__law_row c (c1 % 13) 16) >>= fun x136 => (repM [(0 : Int)] (c1 / 13 % 3)) >>= fun x137 => catM x136 x137) = .ok (gl p) ∧ p.length < 20 := by
  obtain ⟨n, e, hn⟩ := modk c1 13 (by decide)
  obtain ⟨m, e2, hm⟩ := modk (c1 / 13) 3 (by decide)
  obtain ⟨p, e3, hp⟩ := row_ok c n (by omega)
  have e' : c1 % 13 = (n : Int) := e
  have e2' : c1 / 13 % 3 = (m : Int) := e2
  rw [e', e2', e3, M.ok_bind, repM_one (by omega) (by omega), M.ok_bind, Int.toNat_natCast, gl_rep, catM_ok (by rw [gl_len, gl_len, List.length_replicate]; omega)]
  exact ⟨p ++ List.replicate m 0, by unfold gl; rw [List.map_append], by rw [List.length_append, List.length_replicate]; omega⟩
theorem isE_inv : isE k_tab ⟨"InvalidSymbol", []⟩ "ArchiveError" = .ok true := by rfl
theorem isE_inv2 : isE k_tab ⟨"InvalidSymbol", []⟩ "InvalidSymbol" = .ok true := by rfl
theorem second_ok (ns : List Int) : m__law_second_part ns = .ok true := by
  unfold m__law_second_part
  have c0 := cell_ok ns 0; have c1 := cell_ok ns 1; have c2 := cell_ok ns 2; have c3 := cell_ok ns 3; have c4 := cell_ok ns 4
  rw [show ((0 : Nat) : Int) = 0 from rfl] at c0; rw [show ((1 : Nat) : Int) = 1 from rfl] at c1; rw [show ((2 : Nat) : Int) = 2 from rfl] at c2; rw [show ((3 : Nat) : Int) = 3 from rfl] at c3; rw [show ((4 : Nat) : Int) = 4 from rfl] at c4
  simp only [c0, c1, c2, c3, c4, M.ok_bind]
  obtain ⟨p, ep, hp⟩ := made_ok (scell ns 0) (scell ns 1)
  obtain ⟨d0, ed, hd0⟩ := made_ok (scell ns 2) (scell ns 3)
  rw [ep, M.ok_bind, ed, M.ok_bind]
  obtain ⟨d, ed2, hd⟩ : ∃ d : P, (if decide (scell ns 3 / 39 % 3 = 1) = true then M.ok (cutL (gl d0) none (some 3)) else M.ok (gl d0)) = .ok (gl d) ∧ d.length < 20 := by
    split
    · refine ⟨d0.take 3, ?_, by rw [List.length_take]; omega⟩
      rw [show (3 : Int) = ((3 : Nat) : Int) from rfl, cut_nat]
      unfold gl
      rw [List.map_take]
    · exact ⟨d0, rfl, hd0⟩
  rw [ed2, M.ok_bind]
  obtain ⟨x, ex⟩ := mod_g (scell ns 4)
  rw [ex]
  obtain ⟨r1, e1, l1, k1⟩ := mulp_ok (p := p) (d := d) (by omega) (by omega)
  obtain ⟨r2, e2, l2, k2⟩ := lmulp_ok (p := p) (d := d) (by omega) (by omega)
  have hr : red r2 = red r1 := red_ext fun k => by rw [k1, k2]
  have ev1 : ev (red r1) x = fm (ev p x) (ev d x) := by
    rw [← ev_cv]
    exact ev_ext (fun k => by rw [co_red, k1, co_cv]) x
  simp only [M.ok_bind, addp_ok (show p.length < 500 by omega) (show d.length < 500 by omega), lsum_ok (show p.length < 500 by omega) (show d.length < 500 by omega), e1, e2, hr, islist_ok, reduced_ok (show p.length < 1000 by omega), lreduced_ok (show p.length < 1000 by omega), lreduced_ok (show d.length < 1000 by omega),
    eval_ok, leval_ok, too_ok, ev1, decide_true, Bool.not_true, bOr_l, Bool.false_eq_true, if_false]
  by_cases hz : red d = []
  · rw [div_exc (by omega) hz, M.exc_bind]
    show ((isE k_tab ⟨"InvalidSymbol", []⟩ "ArchiveError" >>= fun b => if b then _ else _) >>= _) = _
    rw [isE_inv, M.ok_bind, if_pos rfl]
    dsimp only
    rw [isE_inv2, hz]
    rfl
  · obtain ⟨q, r, e3, lq, lr, k3⟩ := div_ok (p := p) (d := d) (by omega) (by omega) hz
    rw [e3, M.ok_bind, tryM_ok, M.ok_bind, Jn.on_go]
    obtain ⟨r3, e4, l4, k4⟩ := lmulp_ok (p := red q) (d := d) (by have := red_len q; omega) (by omega)
    have h1 := red_len q
    have h2 := red_len d
    have h3 := red_len r3
    have hps : psum (red r3) (red r) = red p := red_ext fun k => by rw [co_pa, co_red, k4, k3]
    simp only [M.ok_bind, decide_true, Bool.not_true, Bool.or_self, Bool.false_eq_true, if_false, islist_ok, bOr_l, lreduced_ok (show (red q).length < 1000 by omega), lreduced_ok (show (red r).length < 1000 by omega), red_red, gl_len, e4, lsum_ok (show (red r3).length < 500 by omega) (show (red r).length < 500 by omega), hps]
    rw [decide_eq_true (show ((red r).length : Int) < ((red d).length : Int) by omega)]
    rfl
theorem law_ok : ∀ ns : List Int, ns.length ≤ 63 → m_law ns = .ok true := fun ns _ => by
  unfold m_law
  rw [first_ok, second_ok]
  rfl
end Q

open PySem PySem.W PyProof.Rows Vc
set_option maxRecDepth 100000 in
set_option maxHeartbeats 0 in
theorem PySem.Challenge.cw_paperark_k25_field_and_polynomial_divisi_holds : PySem.Challenge.rw_paperark_k25_field_and_polynomial_divisi.Holds := by
  w_on; o_law; k_head; (case hw => w_witness2)
  k_fill
  refine Vc.law_walk (l := PySem.Challenge.rw_paperark_k25_field_and_polynomial_divisi) (k := 5) (m := fun x => Q.m_law x.1) rfl rfl rfl ⟨rfl, by decide, by decide⟩ (fun w h Y => PySem.W.kIn_of Y) Q.law_ok ?F
  case F =>
    intro w mg h KX G
    obtain ⟨f0, d0, D0⟩ : ∃ f fd, Vc.DefAt _ mg "check_symbols" Q.s_check_symbols f fd ["symbols"] := by
      refine' ⟨_, _, Vc.def_mk KX G (fun _ _ _ _ _ _ us hl => match us, hl with | [_], _ => rfl) ?a ?l ?c ?k⟩
      (case a => k_is); (case l => k_is); (case c => k_is); (case k => k_is)
    obtain ⟨f1, d1, D1⟩ : ∃ f fd, Vc.DefAt _ mg "reduced" Q.s_reduced f fd ["poly"] := by
      refine' ⟨_, _, Vc.def_mk KX G (fun _ _ _ _ _ _ us hl => match us, hl with | [_], _ => rfl) ?a ?l ?c ?k⟩
      (case a => k_is); (case l => k_is); (case c => k_is); (case k => k_is)
    obtain ⟨f2, d2, D2⟩ : ∃ f fd, Vc.DefAt _ mg "evaluate" Q.s_evaluate f fd ["poly", "point"] := by
      refine' ⟨_, _, Vc.def_mk KX G (fun _ _ _ _ _ _ us hl => match us, hl with | [_, _], _ => rfl) ?a ?l ?c ?k⟩
      (case a => k_is); (case l => k_is); (case c => k_is); (case k => k_is)
    obtain ⟨f3, d3, D3⟩ : ∃ f fd, Vc.DefAt _ mg "_law_cell" Q.s__law_cell f fd ["script", "k"] := by
      refine' ⟨_, _, Vc.def_mk KX G (fun _ _ _ _ _ _ us hl => match us, hl with | [_, _], _ => rfl) ?a ?l ?c ?k⟩
      (case a => k_is); (case l => k_is); (case c => k_is); (case k => k_is)
    obtain ⟨f4, d4, D4⟩ : ∃ f fd, Vc.DefAt _ mg "_law_is_int" Q.s__law_is_int f fd ["value"] := by
      refine' ⟨_, _, Vc.def_mk KX G (fun _ _ _ _ _ _ us hl => match us, hl with | [_], _ => rfl) ?a ?l ?c ?k⟩
      (case a => k_is); (case l => k_is); (case c => k_is); (case k => k_is)
    obtain ⟨f5, d5, D5⟩ : ∃ f fd, Vc.DefAt _ mg "_law_times" Q.s__law_times f fd ["a", "b"] := by
      refine' ⟨_, _, Vc.def_mk KX G (fun _ _ _ _ _ _ us hl => match us, hl with | [_, _], _ => rfl) ?a ?l ?c ?k⟩
      (case a => k_is); (case l => k_is); (case c => k_is); (case k => k_is)
    obtain ⟨f6, d6, D6⟩ : ∃ f fd, Vc.DefAt _ mg "_law_mix" Q.s__law_mix f fd ["cell", "k"] := by
      refine' ⟨_, _, Vc.def_mk KX G (fun _ _ _ _ _ _ us hl => match us, hl with | [_, _], _ => rfl) ?a ?l ?c ?k⟩
      (case a => k_is); (case l => k_is); (case c => k_is); (case k => k_is)
    obtain ⟨f7, d7, D7⟩ : ∃ f fd, Vc.DefAt _ mg "_law_times_too" Q.s__law_times_too f fd ["a", "b"] := by
      refine' ⟨_, _, Vc.def_mk KX G (fun _ _ _ _ _ _ us hl => match us, hl with | [_, _], _ => rfl) ?a ?l ?c ?k⟩
      (case a => k_is); (case l => k_is); (case c => k_is); (case k => k_is)
    obtain ⟨f8, d8, D8⟩ : ∃ f fd, Vc.DefAt _ mg "_law_reduced" Q.s__law_reduced f fd ["poly"] := by
      refine' ⟨_, _, Vc.def_mk KX G (fun _ _ _ _ _ _ us hl => match us, hl with | [_], _ => rfl) ?a ?l ?c ?k⟩
      (case a => k_is); (case l => k_is); (case c => k_is); (case k => k_is)
    obtain ⟨f9, d9, D9⟩ : ∃ f fd, Vc.DefAt _ mg "add" Q.s_add f fd ["a", "b"] := by
      refine' ⟨_, _, Vc.def_mk KX G (fun _ _ _ _ _ _ us hl => match us, hl with | [_, _], _ => rfl) ?a ?l ?c ?k⟩
      (case a => k_is); (case l => k_is); (case c => k_is); (case k => k_is)
    obtain ⟨f10, d10, D10⟩ : ∃ f fd, Vc.DefAt _ mg "multiply" Q.s_multiply f fd ["a", "b"] := by
      refine' ⟨_, _, Vc.def_mk KX G (fun _ _ _ _ _ _ us hl => match us, hl with | [_, _], _ => rfl) ?a ?l ?c ?k⟩
      (case a => k_is); (case l => k_is); (case c => k_is); (case k => k_is)
    obtain ⟨f11, d11, D11⟩ : ∃ f fd, Vc.DefAt _ mg "inverse" Q.s_inverse f fd ["a"] := by
      refine' ⟨_, _, Vc.def_mk KX G (fun _ _ _ _ _ _ us hl => match us, hl with | [_], _ => rfl) ?a ?l ?c ?k⟩
      (case a => k_is); (case l => k_is); (case c => k_is); (case k => k_is)
    obtain ⟨f12, d12, D12⟩ : ∃ f fd, Vc.DefAt _ mg "add_polynomials" Q.s_add_polynomials f fd ["first", "second"] := by
      refine' ⟨_, _, Vc.def_mk KX G (fun _ _ _ _ _ _ us hl => match us, hl with | [_, _], _ => rfl) ?a ?l ?c ?k⟩
      (case a => k_is); (case l => k_is); (case c => k_is); (case k => k_is)
    obtain ⟨f13, d13, D13⟩ : ∃ f fd, Vc.DefAt _ mg "multiply_polynomials" Q.s_multiply_polynomials f fd ["first", "second"] := by
      refine' ⟨_, _, Vc.def_mk KX G (fun _ _ _ _ _ _ us hl => match us, hl with | [_, _], _ => rfl) ?a ?l ?c ?k⟩
      (case a => k_is); (case l => k_is); (case c => k_is); (case k => k_is)
    obtain ⟨f14, d14, D14⟩ : ∃ f fd, Vc.DefAt _ mg "divide" Q.s_divide f fd ["poly", "divisor"] := by
      refine' ⟨_, _, Vc.def_mk KX G (fun _ _ _ _ _ _ us hl => match us, hl with | [_, _], _ => rfl) ?a ?l ?c ?k⟩
      (case a => k_is); (case l => k_is); (case c => k_is); (case k => k_is)
    obtain ⟨f15, d15, D15⟩ : ∃ f fd, Vc.DefAt _ mg "_law_row" Q.s__law_row f fd ["cell", "count", "bound"] := by
      refine' ⟨_, _, Vc.def_mk KX G (fun _ _ _ _ _ _ us hl => match us, hl with | [_, _, _], _ => rfl) ?a ?l ?c ?k⟩
      (case a => k_is); (case l => k_is); (case c => k_is); (case k => k_is)
    obtain ⟨f16, d16, D16⟩ : ∃ f fd, Vc.DefAt _ mg "_law_is_list" Q.s__law_is_list f fd ["value", "least", "greatest"] := by
      refine' ⟨_, _, Vc.def_mk KX G (fun _ _ _ _ _ _ us hl => match us, hl with | [_, _, _], _ => rfl) ?a ?l ?c ?k⟩
      (case a => k_is); (case l => k_is); (case c => k_is); (case k => k_is)
    obtain ⟨f17, d17, D17⟩ : ∃ f fd, Vc.DefAt _ mg "_law_value_at" Q.s__law_value_at f fd ["poly", "point"] := by
      refine' ⟨_, _, Vc.def_mk KX G (fun _ _ _ _ _ _ us hl => match us, hl with | [_, _], _ => rfl) ?a ?l ?c ?k⟩
      (case a => k_is); (case l => k_is); (case c => k_is); (case k => k_is)
    obtain ⟨f18, d18, D18⟩ : ∃ f fd, Vc.DefAt _ mg "_law_product" Q.s__law_product f fd ["first", "second"] := by
      refine' ⟨_, _, Vc.def_mk KX G (fun _ _ _ _ _ _ us hl => match us, hl with | [_, _], _ => rfl) ?a ?l ?c ?k⟩
      (case a => k_is); (case l => k_is); (case c => k_is); (case k => k_is)
    obtain ⟨f19, d19, D19⟩ : ∃ f fd, Vc.DefAt _ mg "_law_sum" Q.s__law_sum f fd ["first", "second"] := by
      refine' ⟨_, _, Vc.def_mk KX G (fun _ _ _ _ _ _ us hl => match us, hl with | [_, _], _ => rfl) ?a ?l ?c ?k⟩
      (case a => k_is); (case l => k_is); (case c => k_is); (case k => k_is)
    obtain ⟨f20, d20, D20⟩ : ∃ f fd, Vc.DefAt _ mg "_law_tried" Q.s__law_tried f fd ["question", "a", "b"] := by
      refine' ⟨_, _, Vc.def_mk KX G (fun _ _ _ _ _ _ us hl => match us, hl with | [_, _, _], _ => rfl) ?a ?l ?c ?k⟩
      (case a => k_is); (case l => k_is); (case c => k_is); (case k => k_is)
    obtain ⟨f21, d21, D21⟩ : ∃ f fd, Vc.DefAt _ mg "_law_second_part" Q.s__law_second_part f fd ["script"] := by
      refine' ⟨_, _, Vc.def_mk KX G (fun _ _ _ _ _ _ us hl => match us, hl with | [_], _ => rfl) ?a ?l ?c ?k⟩
      (case a => k_is); (case l => k_is); (case c => k_is); (case k => k_is)
    obtain ⟨f22, d22, D22⟩ : ∃ f fd, Vc.DefAt _ mg "_law_first_part" Q.s__law_first_part f fd ["script"] := by
      refine' ⟨_, _, Vc.def_mk KX G (fun _ _ _ _ _ _ us hl => match us, hl with | [_], _ => rfl) ?a ?l ?c ?k⟩
      (case a => k_is); (case l => k_is); (case c => k_is); (case k => k_is)
    obtain ⟨f23, d23, D23, BT⟩ : ∃ f fd, Vc.DefAt _ mg "law" Q.s_law f fd ["script"] ∧ ∀ (s : Shared) (u : Value), BindsTo s fd ⟨[u], []⟩ [("script", u)] := by
      refine' ⟨_, _, Vc.def_mk KX G (fun _ _ _ _ _ _ us hl => match us, hl with | [_], _ => rfl) ?a ?l ?c ?k, fun s u => .of_eq rfl⟩
      (case a => k_is); (case l => k_is); (case c => k_is); (case k => k_is)
    refine' ⟨f23, d23, D23.g, BT, fun base => Q.G_law (a := fun i => [f0, f1, f2, f3, f4, f5, f6, f7, f8, f9, f10, f11, f12, f13, f14, f15, f16, f17, f18, f19, f20, f21, f22, f23].getD i f0) (d := fun i => [d0, d1, d2, d3, d4, d5, d6, d7, d8, d9, d10, d11, d12, d13, d14, d15, d16, d17, d18, d19, d20, d21, d22, d23].getD i d0) ⟨D0, D1, D2, D3, D4, D5, D6, D7, D8, D9, D10, D11, D12, D13, D14, D15, D16, D17, D18, D19, D20, D21, D22, D23, PySem.W.mg_none_of KX G ?z0, PySem.W.mg_none_of KX G ?z1, PySem.W.mg_none_of KX G ?z2, PySem.W.mg_none_of KX G ?z3, PySem.W.mg_none_of KX G ?z4, PySem.W.mg_none_of KX G ?z5, PySem.W.mg_none_of KX G ?z6, PySem.W.mg_none_of KX G ?z7, PySem.W.mg_none_of KX G ?z8, PySem.W.mg_none_of KX G ?z9, PySem.W.mg_none_of KX G ?z10, PySem.W.mg_none_of KX G ?z11, Vc.const_mk KX G ?z12 ?y12, Vc.const_mk KX G ?z13 ?y13, Vc.int_mk KX G ?z14, Vc.ExcCls.mk' KX G ?a15 ?q15 ?k15 ?b15 ?t15, Vc.eex_mk KX G ?a16 ?q16, Vc.iex_mk KX G ?a17 ?q17⟩⟩
    (case z0 => k_is)
    (case z1 => k_is)
    (case z2 => k_is)
    (case z3 => k_is)
    (case z4 => k_is)
    (case z5 => k_is)
    (case z6 => k_is)
    (case z7 => k_is)
    (case z8 => k_is)
    (case z9 => k_is)
    (case z10 => k_is)
    (case z11 => k_is)
    (case z12 => k_is) ; (case y12 => kernel_rfl)
    (case z13 => k_is) ; (case y13 => kernel_rfl)
    (case z14 => k_is)
    (case a15 => k_is) ; (case q15 => k_exc) ; (case k15 => k_is) ; (case b15 => k_is) ; (case t15 => k_is)
    (case a16 => k_is) ; (case q16 => kernel_rfl)
    (case a17 => k_is) ; (case q17 => kernel_rfl)

